import PyProof.Rows.All
import Wide.All
import OpenK.AllK
import Wide.FinOn
import PySem.Challenge.RW_no0369_01
set_option Elab.async false
set_option maxRecDepth 100000
set_option maxHeartbeats 8000000

section
open PySem PySem.W PyProof.Rows
namespace Mine
/-- the builtins that may hold a bytearray's buffer while they run -/
def holders : List String := ["bytearray.__contains__", "bytearray.__mod__", "bytearray.__rmod__", "_struct.pack_into.held", "bytearray.find.held"] ++ PySem.Builtin.Bytes.decodersThatHold
def okCode : Code → Bool
  | .builtin id _ => !holders.contains id
  | _ => true
def okStack (l : List (Code × Pos)) : Bool := l.all fun c => okCode c.1
/-- t, on a stack with no holder; d elsewhere -/
def guarded {α : Type} (d : α) (t : Sem α) : Sem α := do
  let st ← stack
  if okStack st then t else pure d

theorem wp_guarded {α : Type} {M : Model} {Γ : Ctx} {d : α} {t : Sem α} {Q : α → Pos → Shared → Prop} {E : Value → Pos → Shared → Prop} {p : Pos} {s : Shared} :
    Sem.wp M Γ (guarded d t) Q E p s = if okStack ((Γ.code, p) :: Γ.below) then Sem.wp M Γ t Q E p s else Q d p s := by
  unfold guarded
  rw [Sem.wp_bind']
  show Sem.wp M Γ (if okStack ((Γ.code, p) :: Γ.below) then t else pure d) Q E p s = _
  split
  · rfl
  · rw [Sem.wp_pure']

theorem strip {c : ClaimW} {tree : List Value → Sem Fin} {d : Fin} {defs kps : List PySem.Str} {writes : Bool}
    (H : c.HoldsOpenBy (fun vs => ⟨guarded d (tree vs), .builtin "claim.caller" {}, default, []⟩) defs kps writes) :
    c.HoldsOpenBy (fun vs => ⟨tree vs, .builtin "claim.caller" {}, default, []⟩) defs kps writes := by
  obtain ⟨a, b, H⟩ := H
  refine ⟨a, b, fun w => ⟨(H w).1, fun s hs => ?_⟩⟩
  obtain ⟨s₀, h1, h2, s₁, h3, h4, h5, h6, h7⟩ := (H w).2 s hs
  refine ⟨s₀, h1, h2, s₁, h3, h4, h5, h6, fun args hp hl ord ho => ?_⟩
  obtain ⟨vs, s₂, k1, n, o, s', k2, k3⟩ := h7 args hp hl ord ho
  have hi : AfterImport (opening c.prog) w s := hs
  have hz : s₂.asleep := Shared.asleep_of_life ((layAllW_rest _ _ _ k1).2.2.2.trans (h3.2.1.trans (fence_lifeW h1))) hi.life
  cases n with
  | zero => cases k2
  | succ n =>
    have e : sstep (denote table) c.prog w (.single s₂ ⟨guarded d (tree vs), .builtin "claim.caller" {}, default, []⟩) = .go (.single s₂ ⟨tree vs, .builtin "claim.caller" {}, default, []⟩) := by
      rcases sstep_single (denote table) c.prog w s₂ ⟨guarded d (tree vs), .builtin "claim.caller" {}, default, []⟩ rfl hz with e | e
      · rw [e]; rfl
      · cases e
    simp only [schedN, e] at k2
    exact ⟨vs, s₂, k1, n, o, s', k2, k3⟩

theorem PySem.W.holds_open {r : OpenRow} {q : Program} {loose : List PySem.Str} {Xt : Shared → Bool} {XP : (PySem.Str → Option Value) → Heap → Prop} {α : Type} {Yf : Shared → α} {Ya : World → α} {YP : World → Heap → Prop} {d : DefRec} {kwd : List (PySem.Str × Expr)} {N : Nat}
    (left : LeftO r.prog q loose Xt Yf Ya N) (hY : ∀ w s, Yf s = Ya w → YP w s.heap) (hYk : ∀ w h h', YP w h → (∀ b o, h.get? b = some o → h'.get? b = some o) → YP w h')
    (hX : ∀ s, Xt s = true → XP (s.heap.nsMap mainGlobals) s.heap) (hXk : ∀ mg h h', XP mg h → (∀ b o, h.get? b = some o → h'.get? b = some o) → XP mg h')
    (hdef : defOf q r.name = some (d, kwd)) (hp : r.prog.theDef r.name = some (d.params, d.body, d.scope)) (hk : kwWritten? d.params.kwonlyargs d.params.kw_defaults = some kwd) (hRf : ∀ s, Xt s = true → RecFacts r.records s.heap) (hwr : (!r.writes || r.records.isEmpty) = true)
    (k1 : r.wellSaid = true) (ok : (chainsOk q && opensWell r.prog && (frees r.toRowW && r.within.isEmpty)) = true) (hb : r.prog.bare) (hw : r.toRowW.promised)
    (call : WalkO q loose XP YP r.toRowW d kwd fun f vs => guarded (.bool true) (PySem.call f vs)) : r.Holds := by
  refine ⟨k1, hw, strip (d := .done (.ret (.bool true))) (open_anyG (r := r.toRowW) (run := fun f vs => guarded (.bool true) (PySem.call f vs)) (tree := fun vs => guarded (.done (.ret (.bool true))) (do match ← nsGet mainNs r.name with
      | some f => do ret (← PySem.call f vs)
      | none => unsupported "claim.caller:no-such-global")) left hY hYk hX hXk hRf hwr ok hb hw
    (fun vs w s mg f Q E hg hf h Γ p hΓ => ?_)
    (fun w s hg G n hn => ?_) fun w s₀ s₁ mg mb G Y args vs as hpre hlay L low => ?_)⟩
  · have h := h Γ p hΓ
    rw [wp_guarded] at h ⊢
    split
    · rename_i hc
      rw [if_pos hc] at h
      rw [Sem.wp_bind']
      refine (Sem.wp_nsGet _ Γ _ p s hg r.name _).mpr ?_
      simp only [hf]
      rw [Sem.wp_bind']
      exact Sem.wp_mono _ _ _ (fun v p' s' h' => by rw [PySem.ret]; exact h') (fun _ _ _ h' => h') _ _ h
    · rename_i hc
      rw [if_neg hc] at h
      exact h
  · obtain rfl : n = r.name := by split at hn <;> simp_all
    exact pinned_of_view hg G hdef hp hk
  · obtain ⟨a, o, pm, cd, doc, dV, kV, h1, h2, h3, h4, h5⟩ := G.fn hdef
    exact ⟨.ref a, h1, call w s₀ s₁ mg mb G Y a o pm cd doc dV kV h2 h3 h4 h5 (defOf_name hdef ▸ h1) L.gens args vs as hpre hlay L.reads L.well (L.low low)⟩

/-- the text without its docstring-like and class statements that the law does not need -/
noncomputable def view : PySem.Program := { PySem.Challenge.pw_no0369_01 with main := { PySem.Challenge.pw_no0369_01.main with body := (PySem.Challenge.pw_no0369_01.main.body.zipIdx.filter fun x => !(x.2 == 1 || x.2 == 4 || x.2 == 32)).map (·.1) } }
local macro_rules | `(tactic| o_law) => `(tactic| refine holds_law (by decide +kernel) fun said => ?_)
/-- holds_open over this text -/
theorem holds_open2 {α : Type} {Yf : Shared → α} {Ya : World → α} {YP : World → Heap → Prop} {d : DefRec} {kwd : List (PySem.Str × Expr)}
    (left : LeftO PySem.Challenge.rw_no0369_01.row.prog Mine.view [PySem.Str.ofString "PostError"] (fun s => xlAt Mine.view [] s && recOk (RowW.records PySem.Challenge.rw_no0369_01.row.toRowW) s) Yf Ya 3146)
    (hY : ∀ w s, Yf s = Ya w → YP w s.heap) (hYk : ∀ w h h', YP w h → (∀ b o, h.get? b = some o → h'.get? b = some o) → YP w h')
    (hdef : defOf Mine.view PySem.Challenge.rw_no0369_01.row.name = some (d, kwd)) (hp : PySem.Challenge.rw_no0369_01.row.prog.theDef PySem.Challenge.rw_no0369_01.row.name = some (d.params, d.body, d.scope)) (hk : kwWritten? d.params.kwonlyargs d.params.kw_defaults = some kwd)
    (k1 : PySem.Challenge.rw_no0369_01.row.wellSaid = true) (hw : PySem.Challenge.rw_no0369_01.row.toRowW.promised)
    (call : WalkO Mine.view [PySem.Str.ofString "PostError"] (XL Mine.view []) YP PySem.Challenge.rw_no0369_01.row.toRowW d kwd fun f vs => guarded (.bool true) (PySem.call f vs)) : PySem.Challenge.rw_no0369_01.row.Holds :=
  Mine.PySem.W.holds_open left hY hYk (fun s e => xl_of s (Bool.and_eq_true_iff.mp e).1) XL.keeps hdef hp hk (fun s e => recFacts_of (Bool.and_eq_true_iff.mp e).2) (by rfl) k1 (by decide +kernel) ⟨rfl, rfl, rfl, rfl, rfl, by decide +kernel⟩ hw call
local macro_rules | `(tactic| o_head $H) => do
  let hw := Lean.mkIdent `hw
  let hc := Lean.mkIdent `hc
  `(tactic| refine holds_open2 (Yf := Hook.obs $H) (Ya := Hook.val $H) (YP := Hook.says $H) (fun w => by kernel_rfl) (Hook.of $H) (Hook.keeps $H) (by rfl) (by rfl) (by rfl) (by first | assumption | decide +kernel) ?$hw ?$hc)
open_top TopL for PySem.Challenge.rw_no0369_01
/-- the walk of the calls, not of the top -/
theorem walk_mode : True := by w_top off; trivial
end Mine
end

section
open PySem PySem.W PySem.Spec PySem.Calls PyProof.Rows
namespace Mine
/-- bounds by a known bound, cheaply -/
theorem ltd {d i j n : Nat} (h : d + i < n) (e : Nat.ble (1 + j) i = true) : d + 1 + j < n :=
  Nat.lt_of_le_of_lt (Nat.add_assoc d 1 j ▸ Nat.add_le_add_left (Nat.le_of_ble_eq_true e) d) h
theorem ltu {u i j n : Nat} (h : u + 8 * i < n) (e : Nat.ble (3 + 8 * j) (8 * i) = true) : u + 3 + 8 * j < n :=
  Nat.lt_of_le_of_lt (Nat.add_assoc u 3 (8 * j) ▸ Nat.add_le_add_left (Nat.le_of_ble_eq_true e) u) h
theorem ltj {d i j n : Nat} (h : d + i < n) (e : Nat.ble j i = true) : d + j < n :=
  Nat.lt_of_le_of_lt (Nat.add_le_add_left (Nat.le_of_ble_eq_true e) d) h
theorem ltz {d i n : Nat} (h : d + i < n) : d < n := Nat.lt_of_le_of_lt (Nat.le_add_right d i) h
theorem leb {a b c : Nat} (h : a ≤ b) (e : Nat.ble b c = true) : a ≤ c := Nat.le_trans h (Nat.le_of_ble_eq_true e)
theorem ltb {a b c : Nat} (h : a ≤ b) (e : Nat.ble (b + 1) c = true) : a < c := Nat.lt_of_le_of_lt h (Nat.le_of_ble_eq_true e)
theorem ltc {a b c : Nat} (h : a < b) (e : Nat.ble b c = true) : a < c := Nat.lt_of_lt_of_le h (Nat.le_of_ble_eq_true e)
theorem lec {a b c : Nat} (h : a < b) (e : Nat.ble b (c + 1) = true) : a ≤ c := Nat.le_of_lt_succ (Nat.lt_of_lt_of_le h (Nat.le_of_ble_eq_true e))
theorem geb {a b c : Nat} (h : b ≤ a) (e : Nat.ble c b = true) : c ≤ a := Nat.le_trans (Nat.le_of_ble_eq_true e) h
theorem ile {a b c : Int} (h : a ≤ b) (e : decide (b ≤ c) = true) : a ≤ c := Int.le_trans h (of_decide_eq_true e)
theorem ilt {a b c : Int} (h : a < b) (e : decide (b ≤ c) = true) : a < c := Int.lt_of_lt_of_le h (of_decide_eq_true e)
theorem ilf {a b c : Int} (h : a ≤ b) (e : decide (b < c) = true) : a < c := Int.lt_of_le_of_lt h (of_decide_eq_true e)
theorem iln {a b c : Int} (h : a < b) (e : decide (b ≤ c) = true) : a ≤ c := Int.le_of_lt (Int.lt_of_lt_of_le h (of_decide_eq_true e))
theorem ige {a b c : Int} (h : b ≤ a) (e : decide (c ≤ b) = true) : c ≤ a := Int.le_trans (of_decide_eq_true e) h
theorem igf {a b c : Int} (h : b ≤ a) (e : decide (c < b) = true) : c < a := Int.lt_of_lt_of_le (of_decide_eq_true e) h
theorem n0 (a : Nat) : (0 : Int) ≤ a := Int.natCast_nonneg a
theorem nng {c : Int} (a : Nat) (e : decide (c ≤ 0) = true) : c ≤ (a : Int) := Int.le_trans (of_decide_eq_true e) (Int.natCast_nonneg a)
theorem nle {a b : Nat} {c : Int} (h : a ≤ b) (e : decide ((b : Int) ≤ c) = true) : (a : Int) ≤ c := Int.le_trans (Int.ofNat_le.mpr h) (of_decide_eq_true e)
theorem nlt {a b : Nat} {c : Int} (h : a ≤ b) (e : decide ((b : Int) < c) = true) : (a : Int) < c := Int.lt_of_le_of_lt (Int.ofNat_le.mpr h) (of_decide_eq_true e)
theorem nlf {a b : Nat} {c : Int} (h : a < b) (e : decide ((b : Int) ≤ c) = true) : (a : Int) < c := Int.lt_of_lt_of_le (Int.ofNat_lt.mpr h) (of_decide_eq_true e)
theorem ipl {a k : Int} (h : 0 ≤ a) (e : decide (0 ≤ k) = true) : 0 ≤ a + k := Int.add_nonneg h (of_decide_eq_true e)
theorem npl {k : Int} (a : Nat) (e : decide (0 ≤ k) = true) : 0 ≤ (a : Int) + k := Int.add_nonneg (Int.natCast_nonneg a) (of_decide_eq_true e)
theorem ida {a i j n : Nat} (h : a + i ≤ n) (e : Nat.ble j i = true) : a + j ≤ n := Nat.le_trans (Nat.add_le_add_left (Nat.le_of_ble_eq_true e) a) h
theorem apb {a b i j n : Nat} (h : a ≤ i) (h2 : b ≤ j) (e : Nat.ble (i + j) n = true) : a + b ≤ n := Nat.le_trans (Nat.add_le_add h h2) (Nat.le_of_ble_eq_true e)
theorem apk {a i j n : Nat} (h : a ≤ i) (e : Nat.ble (i + j) n = true) : a + j ≤ n := Nat.le_trans (Nat.add_le_add_right h j) (Nat.le_of_ble_eq_true e)
section
variable {cn : PySem.Str} {cs : Scope} {ccd : Value} {x : PySem.Str} {pos : Pos} {a : Addr}
/-- a name's lookup, with light side proofs -/
theorem nL (hk : cs.kind = .function) (hd : (x == ("__debug__" : PySem.Str)) = false) {M : Model} {A : Around} {h₀ : Heap} {L : Addr} {cl : List (PySem.Str × Addr)}
    (hx : some .local = (envX cn cs L a ccd cl).kindOf x) {E : Value → Shared → Prop} {s : Shared} {m : PySem.Str → Option Value} {v : Value} {Q : Value → Shared → Prop}
    (F : Fr h₀ L s.heap m) (hv : some v = m x) (h : Q v s) : wpAny M A (eval (.Name x pos) (envX cn cs L a ccd cl)) Q E s :=
  nameX_L F hv.symm h hk hx.symm hd
theorem nK {v : Value} (hk : cs.kind = .function) (hd : (x == ("__debug__" : PySem.Str)) = false) {M : Model} {A : Around} {h₀ : Heap} {L : Addr} {cl : List (PySem.Str × Addr)}
    (hx : some .globalImplicit = (envX cn cs L a ccd cl).kindOf x) {E : Value → Shared → Prop} {s : Shared} {K : Frag} {p : Program} {loose : List PySem.Str} {m mg mb : PySem.Str → Option Value} {Q : Value → Shared → Prop}
    (F : Fr h₀ L s.heap m) (X : K.In h₀) (T : TopRead p loose mg mb h₀) (e : nsIn K mainGlobals x = some (some v)) (h : Q v s) : wpAny M A (eval (.Name x pos) (envX cn cs L a ccd cl)) Q E s :=
  nameX_K F X T e h hk hx.symm hd
theorem nB {v : Value} (hk : cs.kind = .function) (hd : (x == ("__debug__" : PySem.Str)) = false) (hn : x ≠ "__name__") (hv : bootBuiltins x = some v) {M : Model} {A : Around} {h₀ : Heap} {L : Addr} {cl : List (PySem.Str × Addr)}
    (hx : some .globalImplicit = (envX cn cs L a ccd cl).kindOf x) {E : Value → Shared → Prop} {s : Shared} {K : Frag} {p : Program} {loose : List PySem.Str} {m mg mb : PySem.Str → Option Value} {Q : Value → Shared → Prop}
    (F : Fr h₀ L s.heap m) (X : K.In h₀) (T : TopRead p loose mg mb h₀) (e : nsIn K mainGlobals x = some none) (h : Q v s) : wpAny M A (eval (.Name x pos) (envX cn cs L a ccd cl)) Q E s :=
  nameX_B F X T e hv hn h hk hx.symm hd
theorem nC (hk : cs.kind = .function) (hb : (x == ("__debug__" : PySem.Str)) = false) {M : Model} {A : Around} {h₀ : Heap} {L : Addr} {cl : List (PySem.Str × Addr)}
    (hx : some .cell = (envX cn cs L a ccd cl).kindOf x) {E : Value → Shared → Prop} {s : Shared} {news : List (Addr × Obj)} {c : Addr} {o : Obj} {v : Value} {Q : Value → Shared → Prop}
    (N : News h₀ L s.heap news) (hc : some c = cl.lookup x) (hm : (c, o) ∈ news) (hd : o.data = .cell (some v)) (h : Q v s) : wpAny M A (eval (.Name x pos) (envX cn cs L a ccd cl)) Q E s :=
  nameX_C N hc.symm hm hd h hk hx.symm hb
theorem stL {v : Value} (hk : cs.kind = .function) {M : Model} {A : Around} {h₀ : Heap} {L : Addr} {cl : List (PySem.Str × Addr)}
    (hx : some .local = (envX cn cs L a ccd cl).kindOf x) {E : Value → Shared → Prop} {s : Shared} {m : PySem.Str → Option Value} {news : List (Addr × Obj)} {Q : Unit → Shared → Prop}
    (F : Fr h₀ L s.heap m) (N : News h₀ L s.heap news)
    (h : ∀ h', Fr h₀ L h' (fun y => if y = x then some v else m y) → News h₀ L h' news → Q () { s with heap := h', toks := s.toks + 1 }) : wpAny M A (storeName (envX cn cs L a ccd cl) x v) Q E s :=
  storeX_L F N h hk hx.symm
end
/-- Q leads to Q': a continuation kept as a variable while a statement is walked -/
def Aim {α : Type} (Q Q' : α → Shared → Prop) : Prop := ∀ v s', Q v s' → Q' v s'
theorem Aim.use {α : Type} {Q Q' : α → Shared → Prop} (a : Aim Q Q') {v : α} {s : Shared} (h : Q v s) : Q' v s := a v s h
theorem aim {α : Type} {M : Model} {A : Around} {t : Sem α} {Q : α → Shared → Prop} {E : Value → Shared → Prop} {s : Shared} (h : ∀ Q', Aim Q Q' → wpAny M A t Q' E s) : wpAny M A t Q E s := h Q fun _ _ x => x
theorem aimed {α : Type} {M : Model} {A : Around} {t : Sem α} {Q Q' : α → Shared → Prop} {E : Value → Shared → Prop} {s : Shared} (_ : Aim Q Q') (h : wpAny M A t Q' E s) : wpAny M A t Q' E s := h
/-- the goal kept behind a variable while a hypothesis is taken apart -/
theorem hold {G : Prop} (h : ∀ P : Prop, (G → P) → P) : G := h G id
theorem all2 {α0 α1 : Type} {P : α0 × α1 → Prop} (h : ∀ a0 a1, P (a0, a1)) : ∀ x, P x := fun (a0, a1) => h a0 a1
theorem all3 {α0 α1 α2 : Type} {P : α0 × α1 × α2 → Prop} (h : ∀ a0 a1 a2, P (a0, a1, a2)) : ∀ x, P x := fun (a0, a1, a2) => h a0 a1 a2
theorem all4 {α0 α1 α2 α3 : Type} {P : α0 × α1 × α2 × α3 → Prop} (h : ∀ a0 a1 a2 a3, P (a0, a1, a2, a3)) : ∀ x, P x := fun (a0, a1, a2, a3) => h a0 a1 a2 a3
theorem all5 {α0 α1 α2 α3 α4 : Type} {P : α0 × α1 × α2 × α3 × α4 → Prop} (h : ∀ a0 a1 a2 a3 a4, P (a0, a1, a2, a3, a4)) : ∀ x, P x := fun (a0, a1, a2, a3, a4) => h a0 a1 a2 a3 a4
theorem all6 {α0 α1 α2 α3 α4 α5 : Type} {P : α0 × α1 × α2 × α3 × α4 × α5 → Prop} (h : ∀ a0 a1 a2 a3 a4 a5, P (a0, a1, a2, a3, a4, a5)) : ∀ x, P x := fun (a0, a1, a2, a3, a4, a5) => h a0 a1 a2 a3 a4 a5
theorem all7 {α0 α1 α2 α3 α4 α5 α6 : Type} {P : α0 × α1 × α2 × α3 × α4 × α5 × α6 → Prop} (h : ∀ a0 a1 a2 a3 a4 a5 a6, P (a0, a1, a2, a3, a4, a5, a6)) : ∀ x, P x := fun (a0, a1, a2, a3, a4, a5, a6) => h a0 a1 a2 a3 a4 a5 a6
theorem all8 {α0 α1 α2 α3 α4 α5 α6 α7 : Type} {P : α0 × α1 × α2 × α3 × α4 × α5 × α6 × α7 → Prop} (h : ∀ a0 a1 a2 a3 a4 a5 a6 a7, P (a0, a1, a2, a3, a4, a5, a6, a7)) : ∀ x, P x := fun (a0, a1, a2, a3, a4, a5, a6, a7) => h a0 a1 a2 a3 a4 a5 a6 a7
theorem all9 {α0 α1 α2 α3 α4 α5 α6 α7 α8 : Type} {P : α0 × α1 × α2 × α3 × α4 × α5 × α6 × α7 × α8 → Prop} (h : ∀ a0 a1 a2 a3 a4 a5 a6 a7 a8, P (a0, a1, a2, a3, a4, a5, a6, a7, a8)) : ∀ x, P x := fun (a0, a1, a2, a3, a4, a5, a6, a7, a8) => h a0 a1 a2 a3 a4 a5 a6 a7 a8
end Mine
end

section
open PySem PySem.W PySem.Spec PySem.Calls PyProof.Rows PyProof.V
namespace Mine

abbrev Led := List (Addr × Obj)
abbrev Nm := PySem.Str → Option Value
/-- a plain entry of the ledger: a tuple -/
def Tup (q : Addr × Obj) : Prop := q.2.cls = .type "tuple" ∧ TI.notDict q = true
abbrev top (dp un : Nat) (gd : Option (List Code)) (fr : List Env) : Around := { handled := none, depth := dp, frames := some fr, guards := gd, units := un }

/-- a LogFault is in flight through the frames l; the ledger's plain entries stand -/
def Thr (h₀ : Heap) (l : List Env) (e : Addr) (led : Led) (h : Heap) : Prop :=
  ∃ B a0, h₀.StaysIn B ∧ (∀ q ∈ led, TI.notDict q = true → B.get? q.1 = some q.2) ∧ Heap.FlyingW B l e (.ref 59) a0 h
def FrsAt (frs : Led) (h : Heap) : Prop := ∃ frs', TI.SameUp frs frs' ∧ ∀ q ∈ frs', h.get? q.1 = some q.2

theorem Thr.sub {h₀ h : Heap} {l : List Env} {e : Addr} {led led' : Led} (x : Thr h₀ l e led h) (k : ∀ p ∈ led', p ∈ led) : Thr h₀ l e led' h := by
  refine hold (fun Ph hPh => ?_)
  obtain ⟨B, a0, a, b, c⟩ := x
  refine hPh ?_
  clear hPh
  exact ⟨B, a0, a, fun q hq => b q (k q hq), c⟩

/-- the caller's standing facts -/
structure Cal (w : World) (dp un : Nat) (env : Env) (outer : List Env) (frs : Led) (h₀ : Heap) (L : Addr) (m : Nm) (led : Led) (need : Nat) (s : Shared)
    (p : Program) (loose : List PySem.Str) (mean : ExcName → Option Value) (mg mb : Nm) : Prop where
  F : Fr h₀ L s.heap m
  X : (TopL.heap_1 w.params).In h₀
  N : News h₀ L s.heap led
  T : Top p loose mean mg mb h₀
  Fs : TI.Frs outer frs
  Fi : ∀ p ∈ frs, p ∈ led
  hf : env.frame = some L
  hk : env.scope.kind = .function
  hd : dp + need < 1000
  hu : un + 8 * need < 9900

/-- a contract of a def that changes nothing it was handed, and catches nothing -/
def Con (prog : Program) (w : World) (f : Addr) (vs : List Value) (need : Nat) (led : Led) (Ret : Led → Value → Prop) (Exc : Prop) : Prop :=
  ∀ (dp un : Nat) (gd : Option (List Code)) (env : Env) (outer : List Env) (frs : Led) (h₀ : Heap) (L : Addr) (m : Nm) (s : Shared)
    (p : Program) (loose : List PySem.Str) (mean : ExcName → Option Value) (mg mb : Nm) (R : Result → Shared → Prop),
    Cal w dp un env outer frs h₀ L m led need s p loose mean mg mb →
    (∀ r tl h' tk', Fr h₀ L h' m → News h₀ L h' (tl ++ led) → (∀ q ∈ tl, Tup q) → Ret tl r → R (.ok (.ret r)) { s with heap := h', toks := tk' }) →
    (Exc → ∀ e h' tk', Thr h₀ (env :: outer) e led h' → h'.Ns L m → FrsAt frs h' → R (.error (.ref e)) { s with heap := h', toks := tk' }) →
    codeAny (model prog w) (top dp un gd (env :: outer)) (.call (.ref f) ⟨vs, []⟩) R s

section
variable {prog : Program} {w : World} {dp un need : Nat} {gd : Option (List Code)} {env : Env} {outer : List Env} {frs led : Led} {h₀ : Heap} {L : Addr} {m : Nm} {s : Shared}
  {p : Program} {loose : List PySem.Str} {mean : ExcName → Option Value} {mg mb : Nm} {R : Result → Shared → Prop}

theorem ns_of_dict {h h' : Heap} {L : Addr} {m : Nm} {o : Obj} {sl : Array (Option Value)} (n : h.Ns L m) (e : h.get? L = some o) (e' : h'.get? L = some { o with slots := sl }) : h'.Ns L m := by
  refine hold (fun Ph hPh => ?_)
  obtain ⟨o', es, ep, ho, hd, r⟩ := n
  refine hPh ?_
  clear hPh
  rw [e] at ho
  cases ho
  exact ⟨_, es, ep, e', hd, r⟩

theorem Con.use {f : Addr} {vs : List Value} {Ret : Led → Value → Prop} {Exc : Prop} {Q E : Value → Shared → Prop} (C : Con prog w f vs need led Ret Exc)
    (F : Fr h₀ L s.heap m) (N : News h₀ L s.heap led) (X : (TopL.heap_1 w.params).In h₀) (T : Top p loose mean mg mb h₀) (Fs : TI.Frs outer frs) (Fi : ∀ p ∈ frs, p ∈ led)
    (hf : env.frame = some L) (hk : env.scope.kind = .function) (hd : dp + need < 1000) (hu : un + 8 * need < 9900)
    (ok : ∀ r tl h' tk', Fr h₀ L h' m → News h₀ L h' (tl ++ led) → (∀ q ∈ tl, Tup q) → Ret tl r → Q r { s with heap := h', toks := tk' })
    (er : Exc → ∀ e h' tk', Thr h₀ (env :: outer) e led h' → h'.Ns L m → FrsAt frs h' → E (.ref e) { s with heap := h', toks := tk' }) :
    wpAny (model prog w) (top dp un gd (env :: outer)) (call (.ref f) vs) Q E s :=
  wpAny_call (C dp un gd env outer frs h₀ L m s p loose mean mg mb _ ⟨F, X, N, T, Fs, Fi, hf, hk, hd, hu⟩ ok er)
theorem Con.useV {f : Addr} {vs : List Value} {val : Tok → Value} {Q E : Value → Shared → Prop} (C : Con prog w f vs need led (fun tl r => tl = [] ∧ ∃ t, r = val t) False)
    (F : Fr h₀ L s.heap m) (N : News h₀ L s.heap led) (X : (TopL.heap_1 w.params).In h₀) (T : Top p loose mean mg mb h₀) (Fs : TI.Frs outer frs) (Fi : ∀ p ∈ frs, p ∈ led)
    (hf : env.frame = some L) (hk : env.scope.kind = .function) (hd : dp + need < 1000) (hu : un + 8 * need < 9900)
    (ok : ∀ t h' tk', Fr h₀ L h' m → News h₀ L h' led → Q (val t) { s with heap := h', toks := tk' }) :
    wpAny (model prog w) (top dp un gd (env :: outer)) (call (.ref f) vs) Q E s :=
  Con.use C F N X T Fs Fi hf hk hd hu (fun r tl h' tk' F' N' _ hr => by obtain ⟨rfl, t, rfl⟩ := hr; exact ok t h' tk' F' N') (fun x => x.elim)

theorem enter {name qual : PySem.Str} {params : Arguments} {body : List Stmt} {scope : Scope} {dV kV doc pm cdv ct oc : Value} {an od : Option Addr} {osl : Array (Option Value)} {f : Addr} {args : Args} {binds : List (PySem.Str × Value)}
    {Ret : Led → Value → Prop} {Exc : Prop}
    (C : Cal w dp un env outer frs h₀ L m led need s p loose mean mg mb)
    (ok : ∀ r tl h' tk', Fr h₀ L h' m → News h₀ L h' (tl ++ led) → (∀ q ∈ tl, Tup q) → Ret tl r → R (.ok (.ret r)) { s with heap := h', toks := tk' })
    (er : Exc → ∀ e h' tk', Thr h₀ (env :: outer) e led h' → h'.Ns L m → FrsAt frs h' → R (.error (.ref e)) { s with heap := h', toks := tk' })
    (ho : (TopL.heap_1 w.params).lookup f = some ⟨oc, od, .func (fnOf name qual params body scope dV kV doc pm an cdv ct), osl⟩) (hcd : codeIn (TopL.heap_1 w.params) cdv qual = true)
    (hbind : BindsTo s (fnOf name qual params body scope dV kV doc pm an cdv ct) args binds) (hloc : ∀ y ∈ binds, scope.names.lookup y.1 = some .local)
    (hneed : 0 < need)
    (hco : scope.isCoroutine = false) (hgen : scope.isGenerator = false) (hk : scope.kind = .function) (hcell : ∀ x ∈ scope.names, x.2 ≠ .cell)
    (h : ∀ L' h₁ tk₁ led' frs' Qc Ec, Fr h₀ L' h₁ (fun y => binds.reverse.lookup y) → News h₀ L' h₁ led' → (∀ q ∈ led, q ∈ led') → TI.Frs (env :: outer) frs' → (∀ p ∈ frs', p ∈ led') → (∀ p ∈ led', p.1 < L') →
      (∀ r tl h' m' tk', Fr h₀ L' h' m' → News h₀ L' h' (tl ++ led') → (∀ q ∈ tl, Tup q) → Ret tl r → Qc (.ret r) { s with heap := h', toks := tk' }) →
      (Exc → ∀ e h' tk', Thr h₀ (envOf qual scope L' f cdv :: env :: outer) e led' h' → FrsAt frs' h' → Ec (.ref e) { s with heap := h', toks := tk' }) →
      PassesOwn (model prog w) (top (dp + 1) (un + 3) gd (envOf qual scope L' f cdv :: env :: outer)) (envOf qual scope L' f cdv) Ec →
      (Exc → ∀ e h hs m' tk', Fr h₀ L' h m' → News h₀ L' h led' → (∀ b o, h.get? b = some o → hs.get? b = some o) → h.get? e = none → (∃ oe vs a0, hs.get? e = some oe ∧ oe.cls = .ref 59 ∧ oe.data = .fields vs ∧ vs[0]? = some a0 ∧ vs[1]? = some .none) →
        Ec (.ref e) { s with heap := hs, toks := tk' }) →
      wpAny (model prog w) (top (dp + 1) (un + 3) gd (envOf qual scope L' f cdv :: env :: outer)) (execs body (envOf qual scope L' f cdv)) Qc Ec { s with heap := h₁, toks := tk₁ }) :
    codeAny (model prog w) (top dp un gd (env :: outer)) (.call (.ref f) args) R s := by
  refine hold (fun Ph hPh => ?_)
  obtain ⟨F, X, N, T, Fs, Fi, hf, hke, hd, hu⟩ := C
  refine hPh ?_
  clear hPh
  refine codeAny_call_def (fd := fnOf name qual params body scope dV kV doc pm an cdv ct) (body := body) (binds := binds) (by show dp < 1000; (exact ltz hd)) ((X.keeps F.keep) _ _ ho) rfl (T.nolimit.keeps F.keep) (codeRec_of (X.keeps F.keep) hcd) rfl hbind hcell hloc (fun h₁ hns hk₁ => ?_) hco hgen hk
  refine hold (fun Ph hPh => ?_)
  obtain ⟨oL, es, ep, hL, hLd, hLk⟩ := id F.ns
  refine hPh ?_
  clear hPh
  have hLn : h₀.get? L = none := by
    cases q : h₀.get? L with
    | none => rfl
    | some o => exact absurd (Nat.lt_of_lt_of_le (Heap.lt_size q) F.above) (Nat.lt_irrefl _)
  have ltL : ∀ p ∈ ((L, oL) :: led : Led), p.1 < s.heap.objs.size := fun p hp => by
    rcases List.mem_cons.mp hp with rfl | hp
    · exact Heap.lt_size hL
    · exact Heap.lt_size (N p hp).1
  have FX : Fr h₀ s.heap.objs.size h₁ (fun y => binds.reverse.lookup y) := ⟨hns, fun b o e => hk₁ b o (F.keep b o e), Nat.le_trans F.above (Nat.le_of_lt (Heap.lt_size hL))⟩
  have NX : News h₀ s.heap.objs.size h₁ ((L, oL) :: led) := fun p hp => by
    refine ⟨?_, Nat.ne_of_lt (ltL p hp), ?_⟩
    · rcases List.mem_cons.mp hp with rfl | hp
      · exact hk₁ _ _ hL
      · exact hk₁ _ _ (N p hp).1
    · rcases List.mem_cons.mp hp with rfl | hp
      · exact hLn
      · exact (N p hp).2.2
  have FsX : TI.Frs (env :: outer) ((L, oL) :: frs) := ⟨by rw [hke]; decide, hf, ⟨es, ep, hLd⟩, Fs⟩
  have FiX : ∀ p ∈ ((L, oL) :: frs : Led), p ∈ ((L, oL) :: led : Led) := fun p hp => by
    rcases List.mem_cons.mp hp with rfl | hp
    · exact .head _
    · exact .tail _ (Fi p hp)
  have dictF : ∀ q ∈ ((L, oL) :: frs : Led), ∃ es ep, q.2.data = .dict es ep := TI.Frs.dict FsX
  have apart : ∀ q ∈ ((L, oL) :: led : Led), TI.notDict q = true → ∀ p ∈ ((L, oL) :: frs : Led), q.1 ≠ p.1 := fun q hq hn p hp e => by
    obtain ⟨es', ep', hd'⟩ := dictF p hp
    have h1 := (NX q hq).1
    have h2 := (NX p (FiX p hp)).1
    rw [e, h2] at h1
    exact TI.notDict_ne hn (by rw [← Option.some.inj h1]; exact hd')
  -- what an exception that leaves the frame says to the caller
  have out : Exc → ∀ e h' tk', Thr h₀ (env :: outer) e ((L, oL) :: led) h' → FrsAt ((L, oL) :: frs) h' → R (.error (.ref e)) { s with heap := h', toks := tk' } := by
    rintro hx e h' tk' ht ⟨frs', su, hat⟩
    cases frs' with
    | nil => exact False.elim su
    | cons q frs' =>
      obtain ⟨q1, ⟨sl, q2⟩, su'⟩ := su
      refine er hx e h' tk' (ht.sub fun p hp => .tail _ hp) ?_ ⟨frs', su', fun x hx => hat x (.tail _ hx)⟩
      have := hat q (.head _)
      rw [q1, q2] at this
      exact ns_of_dict F.ns hL this
  refine h _ _ _ _ _ (fun fl s' => R (.ok (.ret (match fl with | .ret v => v | _ => .none))) s') (fun e s' => wpAny (model prog w) ((top dp un gd (env :: outer)).deeper (envOf qual scope s.heap.objs.size f cdv)) (leaving (envOf qual scope s.heap.objs.size f cdv) e) (fun _ s'' => R (.error e) s'') (fun e' s'' => R (.error e') s'') s')
    FX NX (fun q hq => .tail _ hq) FsX FiX ltL (fun r tl h' m' tk' F' N' nd hr => ?_) (fun hx e h' tk' ht hfr => ?_) PassesOwn.leaving (fun hx e h hs m' tk' F' N' kp hen he => ?_)
  · have e1 : h'.get? L = some oL := (N' (L, oL) (List.mem_append_right _ (.head _))).1
    refine ok r tl h' tk' ⟨F.ns.at' fun o q => ?_, F'.keep, F.above⟩ (fun p hp => ?_) nd hr
    · rw [hL] at q; cases q; exact e1
    · rcases List.mem_append.mp hp with hp | hp
      · refine ⟨(N' p (List.mem_append_left _ hp)).1, fun q => ?_, (N' p (List.mem_append_left _ hp)).2.2⟩
        have h1 := (N' p (List.mem_append_left _ hp)).1
        rw [q, e1] at h1
        exact (TI.notDict_ne (nd p hp).2 (by rw [← Option.some.inj h1]; exact hLd)).elim
      · exact ⟨(N' p (List.mem_append_right _ (.tail _ hp))).1, (N p hp).2.1, (N p hp).2.2⟩
  · refine hold (fun Ph hPh => ?_)
    obtain ⟨B, a0, b1, b2, b3⟩ := ht
    refine hPh ?_
    clear hPh
    obtain ⟨frs', su, hat⟩ := hfr
    refine wpAny_leaves_onW rfl rfl b3 fun h'' x1 x2 => out hx e h'' tk' ⟨B, a0, b1, b2, x1⟩ ?_
    obtain ⟨frs'', su'', hat''⟩ := TI.sameUp_of (h' := h'') (frs := frs') fun q hq => by
      refine x2 q.1 q.2 (hat q hq) fun vs z => ?_
      obtain ⟨es', ep', hd'⟩ := TI.Frs.dict (TI.Frs.up FsX su) q hq
      rw [hd'] at z; cases z
    exact ⟨frs'', su.trans su'', hat''⟩
  · refine hold (fun Ph hPh => ?_)
    obtain ⟨oe, vs, a0, e1, e2, e3, e4, e5⟩ := he
    refine hPh ?_
    clear hPh
    have hLD : L ≠ s.heap.objs.size := Nat.ne_of_lt (Heap.lt_size hL)
    have hBs : (hideAll h (s.heap.objs.size :: ((L, oL) :: frs).map (·.1))).StaysIn hs := fun b o q => kp b o (of_hideAll _ q)
    have hfun : hs.FunFrames (hideAll h (s.heap.objs.size :: ((L, oL) :: frs).map (·.1))) (envOf qual scope s.heap.objs.size f cdv :: env :: outer) := by
      refine Heap.FunFrames.cons (by show scope.kind ≠ .module; rw [hk]; decide) rfl (F'.ns.at' fun o q => kp _ o q) (hideAll_none _ (.head _)) ?_
      exact TI.Frs.fun FsX fun q hq => ⟨kp _ _ (N' q (FiX q hq)).1, hideAll_none _ (.tail _ (List.mem_map_of_mem hq))⟩
    have hen' : (hideAll h (s.heap.objs.size :: ((L, oL) :: frs).map (·.1))).get? e = none := by
      cases q : (hideAll h (s.heap.objs.size :: ((L, oL) :: frs).map (·.1))).get? e with
      | none => rfl
      | some o => have := of_hideAll _ q; rw [hen] at this; cases this
    refine wpAny_leaving_firstW rfl hfun rfl e1 hBs hen' e3 e5 e4 fun h'' hL'' => ?_
    refine hold (fun Ph hPh => ?_)
    obtain ⟨k1, ⟨_, _, k2⟩, k3, k4⟩ := hL''
    refine hPh ?_
    clear hPh
    refine out hx e h'' tk' ⟨_, a0, fun b o q => hideAll_get _ (F'.keep b o q) fun hm => ?_, fun q hq hn => hideAll_get _ (N' q hq).1 fun hm => ?_, k1, hen', k2, by rw [← e2]; exact k3⟩ ?_
    · rcases List.mem_cons.mp hm with z | hm
      · have := Nat.lt_of_lt_of_le (Heap.lt_size q) F'.above
        rw [z] at this
        exact Nat.lt_irrefl _ this
      · obtain ⟨x, hx', z⟩ := List.mem_map.mp hm
        have := (N' x (FiX x hx')).2.2
        rw [show x.1 = b from z, q] at this; cases this
    · rcases List.mem_cons.mp hm with z | hm
      · exact (N' q hq).2.1 z
      · obtain ⟨x, hx', z⟩ := List.mem_map.mp hm
        exact apart q hq hn x hx' z.symm
    · exact TI.sameUp_of (h' := h'') (frs := ((L, oL) :: frs)) fun q hq => by
        refine k4 q.1 q.2 (kp _ _ (N' q (FiX q hq)).1) fun vs z => ?_
        obtain ⟨es', ep', hd'⟩ := dictF q hq
        rw [hd'] at z; cases z
end
end Mine
end

section
open PySem PySem.W PySem.Spec PySem.Calls PyProof.Rows PyProof.V
open PySem.Builtin PySem.Builtin.ObjectAttr
namespace Mine
theorem pre_fill : (fun (_ : OpenLaw) (_ : Params → Frag) => True) PySem.Challenge.rw_no0369_01 TopL.heap_1 := by
    k_fill; trivial
theorem codeAny_enter {prog : Program} {w : World} {dp un : Nat} {gd : Option (List Code)} {fr : List Env} {s : Shared} {R : Result → Shared → Prop} {p : Program} {loose : List PySem.Str} {mean : ExcName → Option Value} {mg mb : Nm} {g : Heap} {led : Led}
    {name qual : PySem.Str} {params : Arguments} {body : List Stmt} {scope : Scope} {dV kV doc pm cdv ct oc : Value} {an od : Option Addr} {osl : Array (Option Value)} {f : Addr} {args : Args} {binds : List (PySem.Str × Value)}
    (X : (TopL.heap_1 w.params).In g) (T : Top p loose mean mg mb g) (G : g.StaysIn s.heap) (Gz : g.objs.size ≤ s.heap.objs.size) (N : ∀ q ∈ led, s.heap.get? q.1 = some q.2 ∧ g.get? q.1 = none) (hroom : dp < 1000)
    (ho : (TopL.heap_1 w.params).lookup f = some ⟨oc, od, .func (fnOf name qual params body scope dV kV doc pm an cdv ct), osl⟩) (hcd : codeIn (TopL.heap_1 w.params) cdv qual = true)
    (hbind : BindsTo s (fnOf name qual params body scope dV kV doc pm an cdv ct) args binds) (hloc : ∀ y ∈ binds, scope.names.lookup y.1 = some .local)
    (hco : scope.isCoroutine = false) (hgen : scope.isGenerator = false) (hk : scope.kind = .function) (hcell : ∀ x ∈ scope.names, x.2 ≠ .cell)
    (h : ∀ L' h₁ tk₁, Fr g L' h₁ (fun y => binds.reverse.lookup y) → News g L' h₁ led →
      wpAny (model prog w) (top (dp + 1) (un + 3) gd (envOf qual scope L' f cdv :: fr)) (execs body (envOf qual scope L' f cdv)) (fun fl s' => R (.ok (.ret (match fl with | .ret v => v | _ => .none))) s')
        (fun e s' => wpAny (model prog w) (top (dp + 1) (un + 3) gd (envOf qual scope L' f cdv :: fr)) (leaving (envOf qual scope L' f cdv) e) (fun _ s'' => R (.error e) s'') (fun e' s'' => R (.error e') s'') s') { s with heap := h₁, toks := tk₁ }) :
    codeAny (model prog w) (top dp un gd fr) (.call (.ref f) args) R s := by
  refine codeAny_call_def (fd := fnOf name qual params body scope dV kV doc pm an cdv ct) (body := body) (binds := binds) hroom ((X.keeps G) _ _ ho) rfl (T.nolimit.keeps G) (codeRec_of (X.keeps G) hcd) rfl hbind hcell hloc (fun h₁ hns hk₁ => ?_) hco hgen hk
  exact h _ h₁ _ ⟨hns, fun b o e => hk₁ b o (G b o e), Gz⟩ fun q hq => ⟨hk₁ _ _ (N q hq).1, Nat.ne_of_lt (Heap.lt_size (N q hq).1), (N q hq).2⟩

theorem check_init_LF {M : Model} {A : Around} {E : Value → Shared → Prop} {w : World} {h : Heap} {g : Array GenState} {d : Drawn} {t : Nat} {os : OsState} (X : (TopL.heap_1 w.params).In h) {e : Addr} {oe : Obj} {rest : List Value} {Q : Unit → Shared → Prop}
    (he : h.get? e = some oe) (hcls : oe.cls = .ref 59) (hq : Q () ⟨h, g, d, t, os⟩) : wpAny M A (checkBuiltinCall "Exception.__init__" ⟨.ref e :: rest, []⟩) Q E ⟨h, g, d, t, os⟩ := by
  have F := PySem.F.excBase_Exception
  have hC : h.get? 59 = some (excClassObj (PySem.Str.ofString "LogFault") (PySem.Str.ofString "LogFault") 59 58 [.ref 46] [.ref 46, .type "Exception", .type "BaseException", .type "object"] true [] [] false none none
     (some (Value.ref 50)) none (some (Value.str (PySem.Str.ofString "LogFault") 236)) (some (Value.str (PySem.Str.ofString "LogFault") 244)) (some (Value.bool true)) "Exception.__new__") := X _ _ (by k_dflt k_is)
  have hcB : (Value.ref 59 :: [.ref 46, .type "Exception", .type "BaseException", .type "object"]).contains (.type "Exception") = true := by decide
  have hshort := F.noStar
  simp only [checkBuiltinCall, F.initKind, F.initSplit, F.initRow]
  repeat (first | (with_reducible refine wpAny_loadPart_at he ?_; rw [hcls]) | with_reducible refine wpAny_loadPart_at hC ?_ | (with_reducible refine wpAny_isSubtype_exc hC ?_; rw [hcB]) | wp_step)
  refine wpAny_onRaise ?_
  rw [show ∀ (a b : String) (n : Nat), Bind.check ⟨.positional, "*", "Exception", .self, [⟨"args", .varPos, false⟩]⟩ a b n (List.map (fun x => x.fst) ({ pos := Value.ref e :: rest } : Args).kw) = pure () from
    fun a b n => check_star_args _ _ _ _ _ _]
  exact wpAny_pure hq
theorem excInit_LF {prog : Program} {A : Around} {E : Value → Shared → Prop} {w : World} {s : Shared} (X : (TopL.heap_1 w.params).In s.heap) {e t : Addr} {rest : List Value} {dd : Option Addr} {sl : Array (Option Value)} {Q : Value → Shared → Prop}
    (he : s.heap.get? e = some ⟨.ref 59, dd, .fields #[.ref t, .none, .none, .none, .bool false, .none], sl⟩) (hz : rest.length ≤ sizeLine)
    (hq : ∀ h' t', (∀ b o, b ≠ e → s.heap.get? b = some o → h'.get? b = some o) → h'.get? e = some ⟨.ref 59, dd, .fields #[.ref t', .none, .none, .none, .bool false, .none], sl⟩ → Q .none { s with heap := h' }) :
    wpAny (model prog w) A (call (.builtin "Exception.__init__") (.ref e :: rest)) Q E s := by
  refine hold (fun Ph hPh => ?_)
  obtain ⟨h, g, d, tk, os⟩ := s
  refine hPh ?_
  clear hPh
  have F := PySem.F.excBase_Exception
  refine wpAny_call (codeAny_call_builtin F.init.plain F.initEntry (check_init_LF X he rfl ?_))
  wp_walk
  refine hq _ h.objs.size (fun b o hb ho => ?_) ?_
  · rw [Heap.get?_update_other _ _ (Ne.symm hb)]
    exact Heap.get?_push_of_some _ ho
  · rw [Heap.get?_update_self _ (Heap.get?_push_of_some _ he) rfl]
    rfl

theorem refuse_LF (self : Value) : refuseLoop self "__setattr__" [.ref 59, .ref 46, .type "Exception", .type "BaseException", .type "object"] = pure () := by
  rw [refuseLoop_ref, refuseLoop_ref]
  exact PySem.F.store_Exception.passes self
set_option maxHeartbeats 800000 in
theorem store_LF {prog : Program} {w : World} {A : Around} {h : Heap} {g : Array GenState} {d : Drawn} {t : Nat} {os : OsState} {x : Addr} {mA : Nm} {name : PySem.Str} {v : Value} {tk : Tok} {R : Result → Shared → Prop} {ns : List PySem.Str}
    (X : (TopL.heap_1 w.params).In h) (ht : takerIn (TopL.heap_1 w.params) 59 name = some none) (I : h.Inst x 59 mA)
    (hq : ∀ h' tk', h'.Inst x 59 (fun y => if y = name then some v else mA y) →
      (∀ b o, b ≠ x → (∀ o₀ dx, h.get? x = some o₀ → o₀.dict = some dx → b ≠ dx) → h.get? b = some o → h'.get? b = some o) →
      (∀ o₀, h.get? x = some o₀ → ∃ o₁, h'.get? x = some o₁ ∧ o₁.cls = o₀.cls ∧ o₁.data = o₀.data ∧ o₁.slots = o₀.slots ∧ (∀ dx, o₀.dict = some dx → o₁.dict = some dx) ∧ ∀ dx, o₁.dict = some dx → o₀.dict = some dx ∨ h.get? dx = none) → R (.ok (.ret .none)) ⟨h', g, d, tk', os⟩) (hw : Within mA ns := by within_ways) (hsz : ns.length ≤ sizeLine := by size_fits) :
    codeAny (model prog w) A (.call (.builtin "object.__setattr__") ⟨[.ref x, .str name tk, v], []⟩) R ⟨h, g, d, t, os⟩ := by
  refine hold (fun Ph hPh => ?_)
  obtain ⟨o, hx, hc, hnc, hd⟩ := I
  refine hPh ?_
  clear hPh
  have SF := PySem.F.store_object
  have tyL : Looks (model prog w) h (typeOf (.ref x)) (.ref 59) := hc ▸ (Looks.ld hx).andThen .now
  obtain ⟨cd, hcl, hmro, hhd⟩ : ∃ cd, clsIn (TopL.heap_1 w.params) 59 = some cd ∧ cd.mro = [.ref 59, .ref 46, .type "Exception", .type "BaseException", .type "object"] ∧ cd.hasDict = true := ⟨_, by k_dflt k_is, rfl, rfl⟩
  have hm : Looks (model prog w) h (mroOf (.ref 59)) [.ref 59, .ref 46, .type "Exception", .type "BaseException", .type "object"] := hmro ▸ (looks_clsIn X hcl).andThen .now
  have sub : Looks (model prog w) h (isInstance (.ref x) (.type "object")) true := tyL.andThen (looks_mroIn X (by unfold mroIn; rw [hcl, Option.bind_some, hmro]; rfl))
  refine codeAny_call_builtin SF.slot.plain SF.entry (@check_slot (model prog w) _ _ ⟨h, g, d, t, os⟩ "object.__setattr__" "object" "__setattr__" (.ref x) [.str name tk, v] [] _ SF.kind SF.split sub (SF.args (.ref x) (.str name tk) v) ?_)
  obtain ⟨attr, ha, hr⟩ := Option.bind_eq_some_iff.mp ht
  have L3 : Looks (model prog w) h (storeTaker? attr) none := by
    cases attr with
    | none => exact .now
    | some a =>
      obtain ⟨b, hb, hb'⟩ := Option.map_eq_some_iff.mp hr
      refine (looks_takesIn X hb).andThen ?_
      cases b with
      | true => cases hb'
      | false => exact .now
  rw [osa_eq, refuse_eq]
  refine wpAny_bind (wpAny_bind (tyL.here (wpAny_bind (hm.here ?_))))
  rw [refuse_LF]
  refine wpAny_pure (wpAny_bind (tyL.here (wpAny_bind ((looks_findIn X ha).here (wpAny_bind (L3.here ?_))))))
  dsimp only
  show wpAny _ _ (storeInOwnDict (.ref x) (.ref 59) (.str name tk) name v attr.isSome) _ _ _
  unfold storeInOwnDict
  have hload : Looks (model prog w) h (classData 59) cd := looks_clsIn X hcl
  refine wpAny_bind (wpAny_pure (a := ()) ?_)
  refine wpAny_bind ?_
  unfold ownDictForStores instanceDict
  refine wpAny_bind (wpAny_loadPart hx ?_)
  rw [hc]
  dsimp only
  refine wpAny_bind (hload.here ?_)
  rw [hhd]
  rw [if_neg (by decide)]
  rcases hd with ⟨hdn, hmA⟩ | ⟨dx, hdx, hne, hns⟩
  · rw [hdn]
    dsimp only
    rw [if_neg (by simp [typeHasDict])]
    split
    · rename_i c hcd
      exact absurd hcd (hnc c)
    · have hx₁ : (h.push { cls := .type "dict", data := .dict #[] }).get? x = some o := Heap.get?_push_of_some _ hx
      have hxs : x ≠ h.objs.size := Nat.ne_of_lt (Heap.lt_size hx)
      refine wpAny_bind (wpAny_alloc' ?_)
      refine wpAny_bind (wpAny_update' hx₁ ?_)
      refine wpAny_pure ?_
      have hgd : ((h.push { cls := .type "dict", data := .dict #[] }).update x fun o => { cls := o.cls, dict := some h.objs.size, data := o.data, slots := o.slots }).get? h.objs.size
          = some { cls := .type "dict", data := .dict #[] } :=
        (Heap.get?_update_ne _ _ _ _ hxs.symm).trans (Heap.get?_push_at rfl rfl)
      have hnd : ((h.push { cls := .type "dict", data := .dict #[] }).update x fun o => { cls := o.cls, dict := some h.objs.size, data := o.data, slots := o.slots }).Ns h.objs.size (fun _ => none) :=
        ⟨_, #[], _, hgd, rfl, fun e he => absurd he (by simp), fun _ => rfl⟩
      show wpAny _ _ (storeInDict h.objs.size (.str name tk) name v) _ _ _
      unfold storeInDict newKeyGuard
      refine wpAny_bind (wpAny_pure (wpAny_bind (wpAny_nsSet1 (Heap.Ns1.of_empty hnd) fun h' hn' hs => ?_)))
      refine hold (fun Ph hPh => ?_)
      obtain ⟨oD, esD, epD, hoD, hdD, hcD⟩ := hn'.count (Within.cons name v Within.nil)
      refine hPh ?_
      clear hPh
      refine wpAny_bind (wpAny_lookBehind hoD (by rw [hdD]; exact pastItsLine_dict (Nat.le_trans hcD (by rw [List.length_cons, List.length_nil, sizeLine_eq]; (exact Nat.succ_pos _)))) ?_)
      wp_walk
      have hx' : h'.get? x = some { cls := o.cls, dict := some h.objs.size, data := o.data, slots := o.slots } := ?_
      refine hq h' _ ⟨{ cls := o.cls, dict := some h.objs.size, data := o.data, slots := o.slots }, hx', hc, hnc, .inr ⟨h.objs.size, rfl, hxs.symm, ?_⟩⟩ (fun b ob hbx _ hb => ?_)
        (fun o₀ h₀ => by obtain rfl : o = o₀ := Option.some.inj (hx.symm.trans h₀); exact ⟨_, hx', rfl, rfl, rfl, (fun dx e => by rw [hdn] at e; cases e), fun dx e => by cases e; exact .inr (Heap.get?_none_of_le (Nat.le_refl _))⟩)
      · refine hold (fun Ph hPh => ?_)
        obtain ⟨o', es, ep, e1, e2, e3, eu, e4⟩ := hn'
        refine hPh ?_
        clear hPh
        exact ⟨o', es, ep, e1, e2, e3, eu, fun y => by rw [e4 y]; by_cases hy : y = name <;> simp [hy, hmA]⟩
      · exact (hs.2 b (Nat.ne_of_lt (Heap.lt_size hb))).trans ((Heap.get?_update_ne _ _ _ _ hbx).trans (Heap.get?_push_of_some _ hb))
      · refine (hs.2 x hxs).trans (Heap.get?_update_self _ hx₁ ?_)
        have hfr := (Heap.get?_some_iff.mp hx).2
        obtain ⟨oc, od, odt, osl⟩ := o
        cases odt <;> first | rfl | exact hfr
  · rw [hdx]
    refine wpAny_pure ?_
    show wpAny _ _ (storeInDict dx (.str name tk) name v) _ _ _
    unfold storeInDict newKeyGuard
    refine wpAny_bind (wpAny_pure (wpAny_bind (wpAny_nsSet1 hns fun h' hn' hs => ?_)))
    refine hold (fun Ph hPh => ?_)
    obtain ⟨oD, esD, epD, hoD, hdD, hcD⟩ := hn'.count (Within.cons name v hw)
    refine hPh ?_
    clear hPh
    refine wpAny_bind (wpAny_lookBehind hoD (by rw [hdD]; exact pastItsLine_dict (Nat.le_trans hcD (by rw [List.length_cons]; (exact Nat.succ_le_succ hsz)))) ?_)
    wp_walk
    refine hq h' _ ⟨o, (hs.2 x hne.symm).trans hx, hc, hnc, .inr ⟨dx, hdx, hne, hn'⟩⟩ (fun b ob _ hbd hb => ?_)
      (fun o₀ h₀ => ⟨o₀, (hs.2 x hne.symm).trans h₀, rfl, rfl, rfl, fun _ e => e, fun _ e => .inl e⟩)
    exact (hs.2 b (hbd o dx hx hdx)).trans hb

theorem set_LF {prog : Program} {w : World} {A : Around} {E : Value → Shared → Prop} {h : Heap} {g : Array GenState} {d : Drawn} {t : Nat} {os : OsState} {x : Addr} {mA : Nm} {name : PySem.Str} {v : Value} {Q : Unit → Shared → Prop} {ns : List PySem.Str}
    (X : (TopL.heap_1 w.params).In h) (ht : takerIn (TopL.heap_1 w.params) 59 name = some none) (I : h.Inst x 59 mA)
    (hq : ∀ h' tk', h'.Inst x 59 (fun y => if y = name then some v else mA y) →
      (∀ b o, b ≠ x → (∀ o₀ dx, h.get? x = some o₀ → o₀.dict = some dx → b ≠ dx) → h.get? b = some o → h'.get? b = some o) →
      (∀ o₀, h.get? x = some o₀ → ∃ o₁, h'.get? x = some o₁ ∧ o₁.cls = o₀.cls ∧ o₁.data = o₀.data ∧ o₁.slots = o₀.slots ∧ (∀ dx, o₀.dict = some dx → o₁.dict = some dx) ∧ ∀ dx, o₁.dict = some dx → o₀.dict = some dx ∨ h.get? dx = none) → Q () ⟨h', g, d, tk', os⟩) (hw : Within mA ns := by within_ways) (hsz : ns.length ≤ sizeLine := by size_fits) :
    wpAny (model prog w) A (setAttr (.ref x) name v) Q E ⟨h, g, d, t, os⟩ := by
  refine hold (fun Ph hPh => ?_)
  obtain ⟨o, hx, hc, hnc, hd⟩ := id I
  refine hPh ?_
  clear hPh
  have tyL : Looks (model prog w) h (typeOf (.ref x)) (.ref 59) := hc ▸ (Looks.ld hx).andThen .now
  have hs : findIn (TopL.heap_1 w.params) (.ref 59) "__setattr__" = some (some (.builtin "object.__setattr__")) := by k_dflt k_is
  refine wpAny_bind (wpAny_mkText (wpAny_bind (wpAny_bind (wpAny_bind (tyL _ _ _ _ (fun _ _ e => e) (looks_findIn X hs _ _ _ _ (fun _ _ e => e) (wpAny_holding ?_)))))))
  rw [PySem.F.store_object.slot.bind]
  refine wpAny_bind (wpAny_pure (wpAny_bind (wpAny_call (store_LF X ht I (fun h' tk' a b c => ?_) hw hsz))))
  exact wpAny_pure (wpAny_pure (hq h' tk' a b c))

abbrev lfObj (dd : Option Addr) (t : Addr) : Obj := ⟨.ref 59, dd, .fields #[.ref t, .none, .none, .none, .bool false, .none], #[]⟩
section
variable {prog : Program} {w : World} {A : Around} {E : Value → Shared → Prop} {s : Shared} {g : Heap} {L e t : Addr} {m : Nm} {name : PySem.Str} {v : Value}
theorem excInit_K {rest : List Value} {Q : Value → Shared → Prop} (F : Fr g L s.heap m) (X : (TopL.heap_1 w.params).In g) (N : News g L s.heap [(e, lfObj none t)]) (hz : rest.length ≤ sizeLine)
    (h : ∀ h' t', Fr g L h' m → News g L h' [(e, lfObj none t')] → Q .none { s with heap := h' }) :
    wpAny (model prog w) A (call (.builtin "Exception.__init__") (.ref e :: rest)) Q E s := by
  have D := N _ (.head _)
  have k : ∀ b o, g.get? b = some o → b ≠ e := fun b o q z => by rw [z, D.2.2] at q; cases q
  refine excInit_LF (X.keeps F.keep) D.1 hz fun h' t' hk he => h h' t' ⟨F.ns.at' fun o q => hk _ _ (Ne.symm D.2.1) q, fun b o q => hk b o (k b o q) (F.keep b o q), F.above⟩ fun q hq => ?_
  rw [List.mem_singleton.mp hq]
  exact ⟨he, D.2⟩
theorem set_K1 {Q : Unit → Shared → Prop} (F : Fr g L s.heap m) (X : (TopL.heap_1 w.params).In g) (N : News g L s.heap [(e, lfObj none t)]) (ht : takerIn (TopL.heap_1 w.params) 59 name = some none)
    (h : ∀ h' tk' d, Fr g L h' m → News g L h' [(e, lfObj (some d) t)] → (g.get? d = none ∧ d ≠ L) → h'.Inst e 59 (fun y => if y = name then some v else none) → Q () { s with heap := h', toks := tk' }) :
    wpAny (model prog w) A (setAttr (.ref e) name v) Q E s := by
  refine hold (fun Ph hPh => ?_)
  obtain ⟨hp, gs, dr, tk, os⟩ := s
  refine hPh ?_
  clear hPh
  have D := N _ (.head _)
  have k : ∀ b o, g.get? b = some o → b ≠ e := fun b o q z => by rw [z, D.2.2] at q; cases q
  refine set_LF (ns := []) (mA := fun _ => none) (X.keeps F.keep) ht ⟨_, D.1, rfl, fun c q => (by cases q), .inl ⟨rfl, fun _ => rfl⟩⟩ (fun h' tk' I hk ho => ?_) Within.nil (Nat.zero_le _)
  have hkk : ∀ b o, b ≠ e → hp.get? b = some o → h'.get? b = some o := fun b o hb q => hk b o hb (fun o₀ dx q1 q2 => by rw [D.1] at q1; cases q1; cases q2) q
  refine hold (fun Ph hPh => ?_)
  obtain ⟨o1, he, h1, h2, h3, h5, h4⟩ := ho _ D.1
  refine hPh ?_
  clear hPh
  refine hold (fun Ph hPh => ?_)
  obtain ⟨o2, he2, _, _, hd⟩ := id I
  refine hPh ?_
  clear hPh
  rw [he] at he2
  cases he2
  rcases hd with ⟨_, hn⟩ | ⟨d, hd1, hd2, hd3⟩
  · have := hn name
    simp at this
  · have e1 : o1 = lfObj (some d) t := by
      obtain ⟨a, b, c, dd⟩ := o1
      simp only at h1 h2 h3 hd1
      subst h1 h2 h3 hd1
      rfl
    have hdn : hp.get? d = none := (h4 d hd1).resolve_left (by intro z; cases z)
    have hF : Fr g L h' m := ⟨F.ns.at' fun o q => hkk _ _ (Ne.symm D.2.1) q, fun b o q => hkk b o (k b o q) (F.keep b o q), F.above⟩
    refine h h' tk' d hF (fun q hq => ?_) ⟨?_, ?_⟩ I
    · rw [List.mem_singleton.mp hq]
      exact ⟨e1 ▸ he, D.2⟩
    · cases q : g.get? d with
      | none => rfl
      | some o => have := F.keep _ _ q; rw [hdn] at this; cases this
    · rintro rfl
      refine hold (fun Ph hPh => ?_)
      obtain ⟨o, _, _, ho, _⟩ := F.ns
      refine hPh ?_
      clear hPh
      rw [hdn] at ho; cases ho
theorem set_K2 {Q : Unit → Shared → Prop} {d : Addr} {mA : Nm} {ns : List PySem.Str} (F : Fr g L s.heap m) (X : (TopL.heap_1 w.params).In g) (N : News g L s.heap [(e, lfObj (some d) t)]) (hd : g.get? d = none ∧ d ≠ L) (I : s.heap.Inst e 59 mA) (ht : takerIn (TopL.heap_1 w.params) 59 name = some none)
    (hw : Within mA ns) (hsz : ns.length ≤ sizeLine)
    (h : ∀ h' tk', Fr g L h' m → News g L h' [(e, lfObj (some d) t)] → Q () { s with heap := h', toks := tk' }) :
    wpAny (model prog w) A (setAttr (.ref e) name v) Q E s := by
  refine hold (fun Ph hPh => ?_)
  obtain ⟨hp, gs, dr, tk, os⟩ := s
  refine hPh ?_
  clear hPh
  have D := N _ (.head _)
  have k : ∀ b o, g.get? b = some o → b ≠ e ∧ b ≠ d := fun b o q => ⟨(fun z => by rw [z, D.2.2] at q; cases q), fun z => by rw [z, hd.1] at q; cases q⟩
  refine set_LF (X.keeps F.keep) ht I (fun h' tk' I' hk ho => ?_) hw hsz
  have hkk : ∀ b o, b ≠ e → b ≠ d → hp.get? b = some o → h'.get? b = some o := fun b o hb hb2 q => hk b o hb (fun o₀ dx q1 q2 => by rw [D.1] at q1; cases q1; cases q2; exact hb2) q
  refine hold (fun Ph hPh => ?_)
  obtain ⟨o1, he, h1, h2, h3, h5, h4⟩ := ho _ D.1
  refine hPh ?_
  clear hPh
  refine hold (fun Ph hPh => ?_)
  obtain ⟨o2, he2, _, _, hd'⟩ := id I'
  refine hPh ?_
  clear hPh
  rw [he] at he2
  cases he2
  rcases hd' with ⟨_, hn⟩ | ⟨d', hd1, hd2, hd3⟩
  · have := hn name
    simp at this
  · have hdd : d' = d := by
      have := h5 d rfl
      rw [hd1] at this
      exact Option.some.inj this
    subst hdd
    have e1 : o1 = lfObj (some d') t := by
      obtain ⟨a, b, c, dd⟩ := o1
      simp only at h1 h2 h3 hd1
      subst h1 h2 h3 hd1
      rfl
    exact h h' tk' ⟨F.ns.at' fun o q => hkk _ _ (Ne.symm D.2.1) (Ne.symm hd.2) q, fun b o q => hkk b o (k b o q).1 (k b o q).2 (F.keep b o q), F.above⟩ (fun q hq => by
      rw [List.mem_singleton.mp hq]
      exact ⟨e1 ▸ he, D.2⟩)
end
end Mine
end

section
open PySem PySem.W PySem.Spec PySem.Calls PyProof.Rows PyProof.V
namespace Mine
theorem pre_fill2 : (fun (_ : OpenLaw) (_ : Params → Frag) => True) PySem.Challenge.rw_no0369_01 TopL.heap_1 := by
    k_fill; trivial
theorem init_LF {prog : Program} {w : World} {dp un : Nat} {gd : Option (List Code)} {fr : List Env} {g : Heap} {e t : Addr} {s : Shared} {a : PySem.Str} {ta : Tok} {b : Int} {tb : Tok}
    {p : Program} {loose : List PySem.Str} {mean : ExcName → Option Value} {mg mb : Nm}
    (X : (TopL.heap_1 w.params).In g) (T : Top p loose mean mg mb g)
    (G : g.StaysIn s.heap) (Gz : g.objs.size ≤ s.heap.objs.size) (N : ∀ q ∈ [(e, lfObj none t)], s.heap.get? q.1 = some q.2 ∧ g.get? q.1 = none)
    (hdp : dp < 1000) {R : Result → Shared → Prop}
    (ret : ∀ h' tk' d t', g.StaysIn h' → h'.get? e = some (lfObj (some d) t') → R (.ok (.ret .none)) { s with heap := h', toks := tk' })
   : codeAny (model prog w) (top dp un gd fr) (.call (.ref 36) ⟨[.ref e, .str a ta, .int b tb], []⟩) R s := by
  k_dflt (refine' codeAny_enter X T G Gz N hdp ?k6 ?k7 ?k9 ?kB ?c2 ?c3 ?c4 ?c5 ?_; (case k6 => k_is); (case k7 => k_is); (case k9 => exact binds_K (X.keeps G) rfl (by k_is) rfl rfl rfl); (case c5 => decide); (case kB => exact locs rfl); (case c2 => exact rfl); (case c3 => exact rfl); (case c4 => exact rfl); k_whole)
  intro L' h₁ tk₁ F N
  repeat' (first | ((with_reducible show wpAny _ _ (getMethod _ _ _) _ _ _); (k_here; refine' method_type ?F ?X ?m (by decide +kernel) ?e ?h ?_; (case F => k_asm); (case X => k_asm); (case m => kernel_rfl); (case e => k_dflt k_is); (case h => k_handed))) | ((with_reducible show wpAny _ _ (call (Value.builtin "Exception.__init__") _) _ _ _); (k_here; refine' excInit_K ?F ?X ?N ?z ?_; (case F => k_asm); (case X => k_asm); (case N => k_asm); (case z => size_fits); k_whole; intro h' t' F' N'; k_sweep)) | ((with_reducible show wpAny _ _ (setAttr _ _ _) _ _ _); (k_here; first | (refine' set_K1 ?F ?X ?N ?t ?_; (case F => k_asm); (case X => k_asm); (case N => k_asm); (case t => k_dflt k_is); k_whole; intro h' tk' d' F' N' hd' I'; k_sweep) | (refine' set_K2 ?F ?X ?N ?hd ?I ?t ?w ?z ?_; (case F => k_asm); (case X => k_asm); (case N => k_asm); (case hd => assumption); (case I => assumption); (case t => k_dflt k_is); (case w => exact Within.cons _ _ Within.nil); (case z => exact Nat.le_of_ble_eq_true rfl); k_whole; intro h' tk' F' N'; k_sweep))) | walk1 | (dsimp only; walk1))
  rename News _ _ _ _ => N9
  rename Fr _ _ _ _ => F9
  exact ret _ _ _ _ F9.keep (N9 _ (.head _)).1

theorem lf_obj {w : World} {h : Heap} (X : (TopL.heap_1 w.params).In h) : h.get? 59 = some (excClassObj (PySem.Str.ofString "LogFault") (PySem.Str.ofString "LogFault") 59 58 [.ref 46] [.ref 46, .type "Exception", .type "BaseException", .type "object"] true [] [] false none none
     (some (Value.ref 50)) none (some (Value.str (PySem.Str.ofString "LogFault") 236)) (some (Value.str (PySem.Str.ofString "LogFault") 244)) (some (Value.bool true)) "Exception.__new__") := X _ _ (by k_dflt k_is)

theorem check_new_LF {M : Model} {A : Around} {E : Value → Shared → Prop} {w : World} {h : Heap} {g : Array GenState} {d : Drawn} {t : Nat} {os : OsState} (X : (TopL.heap_1 w.params).In h) {rest : List Value} {Q : Unit → Shared → Prop}
    (hq : Q () ⟨h, g, d, t, os⟩) : wpAny M A (checkBuiltinCall "Exception.__new__" ⟨.ref 59 :: rest, []⟩) Q E ⟨h, g, d, t, os⟩ := by
  have F := PySem.F.excBase_Exception
  have hC := lf_obj X
  have hcont : (Value.ref 59 :: [.ref 46, .type "Exception", .type "BaseException", .type "object"]).contains (.type "Exception") = true := by decide
  have hstar := F.noStar
  simp only [checkBuiltinCall, F.newKind, F.newSplit, F.newRow]
  repeat (first | refine wpAny_loadPart_at hC ?_ | (refine wpAny_isSubtype_exc hC ?_; rw [hcont]) | refine wpAny_staticBase_exc hC ?_ | refine wpAny_madeBy_exc hC ?_ | simp only [bne_self_eq_false, Bool.false_eq_true, if_false] | wp_step)
  exact hq
theorem new_LF {prog : Program} {w : World} {A : Around} {R : Result → Shared → Prop} {h : Heap} {g : Array GenState} {d : Drawn} {t : Nat} {os : OsState} (X : (TopL.heap_1 w.params).In h) {rest : List Value}
    (hq : R (.ok (.ret (.ref (h.objs.size + 1)))) ⟨(h.push { cls := .type "tuple", data := .seq rest.toArray }).push (lfObj none h.objs.size), g, d, t, os⟩) (hrest : rest.length ≤ sizeLine) :
    codeAny (model prog w) A (.builtin "Exception.__new__" ⟨.ref 59 :: rest, []⟩) R ⟨h, g, d, t, os⟩ := by
  have F := PySem.F.excBase_Exception
  have hC := lf_obj X
  have hends := F.ends
  have hcB : (Value.ref 59 :: [.ref 46, .type "Exception", .type "BaseException", .type "object"]).contains (.type "Exception") = true := by decide
  have hcA : (Value.ref 59 :: [.ref 46, .type "Exception", .type "BaseException", .type "object"]).contains (.type "AttributeError") = false := by decide
  have hcN : (Value.ref 59 :: [.ref 46, .type "Exception", .type "BaseException", .type "object"]).contains (.type "NameError") = false := by decide
  refine codeAny_builtinAt F.entry ?_
  unfold Builtin.«BaseException.__new__»
  refine PySem.wpAt_bind ?_
  show PySem.wpAt _ _ _ (stack >>= _) _ _ _
  refine PySem.wpAt_bind (PySem.wpAt_stack fun p below => PySem.wpAt_of_wpAny ?_)
  wp_walk
  refine PySem.wpAt_of_wpAny ?_
  rw [F.owner]
  repeat (first | with_reducible refine wpAny_madeHere_exc F.canon hC ?_ | with_reducible refine wpAny_loadPart_at hC ?_ | (with_reducible refine wpAny_isSubtype_exc hC ?_; first | rw [hcB] | rw [hcA] | rw [hcN]) | wp_step)
  show R _ _
  rw [Heap.size_push]
  exact hq
theorem call_LF {prog : Program} {w : World} {dp un : Nat} {gd : Option (List Code)} {fr : List Env} {E : Value → Shared → Prop} {h₀ : Heap} {s : Shared} {a : PySem.Str} {ta : Tok} {b : Int} {tb : Tok}
    {p : Program} {loose : List PySem.Str} {mean : ExcName → Option Value} {mg mb : Nm} {Q : Value → Shared → Prop}
    (X : (TopL.heap_1 w.params).In h₀) (T : Top p loose mean mg mb h₀) (G : h₀.StaysIn s.heap) (hdp : dp + 1 < 1000)
    (ret : ∀ h' tk' e t d, (∀ b o, s.heap.get? b = some o → h'.get? b = some o) → s.heap.get? e = none → h'.get? e = some (lfObj (some d) t) → Q (.ref e) { s with heap := h', toks := tk' }) :
    wpAny (model prog w) (top dp un gd fr) (call (.ref 59) [.str a ta, .int b tb]) Q E s := by
  obtain ⟨h, g, d, t, os⟩ := s
  have Xh := X.keeps G
  have hC := lf_obj Xh
  have f1 := tc_lookup
  have f2 := tc_bind (.ref 59)
  have hT : (⟨h, g, d, t, os⟩ : Shared).TypeIs (.ref 59) "type" := ⟨_, hC, rfl⟩
  refine wpAny_call (codeAny_of_tree ?_)
  show wpAny _ _ (callAny (.ref 59) _) _ _ _
  repeat (any_goals (first | assumption | with_reducible refine wpAny_loadPart_at hC ?_ | wp_step))
  refine ⟨rfl, ?_⟩
  refine codeAny_call_builtin_at (Code.quiet_builtin _ (by decide +kernel)) entry_typeCall (wpAny_check_type_call_sub hC ?_)
  repeat (first | with_reducible refine wpAny_loadPart_at hC ?_ | with_reducible refine wpAny_madeBy_exc hC ?_ | wp_step)
  refine codeAny_call_builtin_code (Code.quiet_builtin _ PySem.F.excBase_Exception.quiet) (check_new_LF Xh ?_)
  refine new_LF Xh ?_ (Nat.le_of_ble_eq_true rfl)
  show wpAny _ _ _ _ _ _
  have k : ∀ c o, h.get? c = some o → ((h.push { cls := .type "tuple", data := .seq #[Value.str a ta, Value.int b tb] }).push (lfObj none h.objs.size)).get? c = some o := fun c o e => Heap.get?_push_of_some _ (Heap.get?_push_of_some _ e)
  have X₁ : (TopL.heap_1 w.params).In ((h.push { cls := .type "tuple", data := .seq #[Value.str a ta, Value.int b tb] }).push (lfObj none h.objs.size)) := Frag.In.keeps Xh k
  have hC₁ := lf_obj X₁
  have hget : ((h.push { cls := .type "tuple", data := .seq #[Value.str a ta, Value.int b tb] }).push (lfObj none h.objs.size)).get? (h.objs.size + 1) = some (lfObj none h.objs.size) := by heap_get
  have hcC : (Value.ref 59 :: [.ref 46, .type "Exception", .type "BaseException", .type "object"]).contains (.ref 59) = true := by decide
  unfold isInstance
  repeat (first | with_reducible refine wpAny_loadPart_at hget ?_ | wp_step)
  show wpAny _ _ (isSubtype (.ref 59) (.ref 59)) _ _ _
  refine wpAny_isSubtype_exc hC₁ ?_
  rw [hcC]
  rw [if_neg (by decide)]
  have tyL : Looks (model prog w) ((h.push { cls := .type "tuple", data := .seq #[Value.str a ta, Value.int b tb] }).push (lfObj none h.objs.size)) (typeOf (.ref (h.objs.size + 1))) (.ref 59) := (Looks.ld hget).andThen .now
  have hi : findIn (TopL.heap_1 w.params) (.ref 59) "__init__" = some (some (.ref 36)) := by k_dflt k_is
  have hf : typeIn (TopL.heap_1 w.params) (.ref 36) = some (.type "function") := by k_dflt k_is
  refine wpAny_bind (wpAny_holding ?_)
  unfold callSpecial? specialOf
  refine wpAny_bind (wpAny_bind (tyL.here ((looks_findIn X₁ hi).here ?_)))
  dsimp only
  refine wpAny_holding (wpAny_bind ((bind_fn X₁ _ hf).here ?_))
  refine wpAny_bind ?_
  show wpAny _ _ (call (.ref 36) [.ref (h.objs.size + 1), .str a ta, .int b tb] []) _ _ _
  refine wpAny_call ?_
  have hnew : h₀.get? (h.objs.size + 1) = none := by
    cases q : h₀.get? (h.objs.size + 1) with
    | none => rfl
    | some o =>
      have z : h.objs.size + 1 < h.objs.size := Heap.lt_size (G _ _ q)
      lia
  have Gg : h₀.StaysIn (hideAll ((h.push { cls := .type "tuple", data := .seq #[Value.str a ta, Value.int b tb] }).push (lfObj none h.objs.size)) [h.objs.size + 1]) := fun c o q => hideAll_get _ (k _ _ (G _ _ q)) fun hm => by
    rw [List.mem_singleton.mp hm, hnew] at q; cases q
  refine init_LF (t := h.objs.size) (dp := dp + 1) (un := un + 1) (gd := gd) (fr := fr) (X.keeps Gg) (T.keeps Gg) (fun c o q => of_hideAll _ q) (Nat.le_of_eq (hideAll_size _ _)) (fun q hq => ?_) ?hdq (fun h' tk' d' t' st he => ?_)
  case hdq => exact hdp
  · rw [List.mem_singleton.mp hq]
    exact ⟨hget, hideAll_none _ (.head _)⟩
  · refine wpAny_pure ?_
    dsimp only
    rw [if_neg (by decide)]
    refine wpAny_pure ?_
    refine ret h' tk' _ t' d' (fun c o q => ?_) ?_ he
    · refine st _ _ (hideAll_get _ (k _ _ q) fun hm => ?_)
      have z : c < h.objs.size := Heap.lt_size q
      rw [List.mem_singleton.mp hm] at z
      exact absurd z (Nat.not_lt.mpr (Nat.le_succ _))
    · exact Heap.get?_none_of_le (Nat.le_succ _)
end Mine
end

section
open PySem PySem.W PySem.Spec PySem.Calls PyProof.Rows PyProof.V
namespace Mine
theorem pre_fill3 : (fun (_ : OpenLaw) (_ : Params → Frag) => True) PySem.Challenge.rw_no0369_01 TopL.heap_1 := by
    k_fill; trivial
section
variable {prog : Program} {w : World} {A : Around} {E : Value → Shared → Prop} {s : Shared} {env : Env}
theorem raise_LF {ex : Expr} {pos : Pos} {Q : Flow → Shared → Prop} (hh : A.handled = none)
    (h : wpAny (model prog w) A (eval ex env) (fun v s₁ => ∃ e t d, v = .ref e ∧ (TopL.heap_1 w.params).In s₁.heap ∧ s₁.heap.get? e = some (lfObj (some d) t) ∧ E (.ref e) s₁) E s) :
    wpAny (model prog w) A (exec (.Raise (some ex) none pos) env) Q E s := by
  rw [arm_exec_Raise]
  have hcB : (Value.ref 59 :: [.ref 46, .type "Exception", .type "BaseException", .type "object"]).contains (.type "BaseException") = true := by decide
  have main : wpAny (model prog w) A (raiseStmt env (some (eval ex env >>= fun v => standAt pos >>= fun _ => pure v)) none) Q E s := by
    unfold raiseStmt
    refine wpAny_bind (wpAny_bind (wpAny_mono h (fun v s₁ h₁ => wpAny_bind (wpAny_standAt (wpAny_pure ?_))) fun _ _ x => x))
    refine hold (fun Ph hPh => ?_)
    obtain ⟨e, t, d, rfl, X, he, hE⟩ := h₁
    refine hPh ?_
    clear hPh
    have hC := lf_obj X
    refine hold (fun Ph hPh => ?_)
    obtain ⟨hp, g, dr, tk, os⟩ := s₁
    refine hPh ?_
    clear hPh
    repeat (first | with_reducible refine wpAny_loadPart_at he ?_ | with_reducible refine wpAny_loadPart_at hC ?_ | (with_reducible refine wpAny_isSubtype_exc hC ?_; rw [hcB]) | wp_step)
    exact wpAny_raiseNew_none hh hE
  exact wpAny_bind (wpAny_standAt main)
end

section
variable {prog : Program} {w : World} {dp un : Nat} {gd : Option (List Code)} {name : PySem.Str} {scope : Scope} {L a e : Addr} {cd : Value} {outer : List Env} {frs led : Led} {h₀ : Heap} {m : Nm} {s' : Shared}
  {p : Program} {loose : List PySem.Str} {mean : ExcName → Option Value} {mg mb : Nm} {b₀ : Stmt} {suite : List Stmt} {pos np : Pos} {rest : List ExceptHandler} {Q : Flow → Shared → Prop} {E : Value → Shared → Prop}

theorem caught_LF (ht : Thr h₀ (envOf name scope L a cd :: outer) e led s'.heap) (hns : s'.heap.Ns L m) (hfr : FrsAt frs s'.heap) (X : (TopL.heap_1 w.params).In h₀) (T : Top p loose mean mg mb h₀) (hab : h₀.objs.size ≤ L) (Fs : TI.Frs outer frs)
    (k : ∀ h' frs', Fr h₀ L h' m → TI.SameUp frs frs' → (∀ q ∈ led, TI.notDict q = true → h'.get? q.1 = some q.2) → (∀ q ∈ frs', h'.get? q.1 = some q.2) →
      wpAny (model prog w) ((top dp un gd (envOf name scope L a cd :: outer)).mark (some (.ref e))) (execs (b₀ :: suite) (envOf name scope L a cd)) Q E { s' with heap := h' })
    (hk : scope.kind = .function := by rfl) (hx : (envOf name scope L a cd).kindOf "LogFault" = some .globalImplicit := by rfl)
    (hE : PassesOwnAt (model prog w) ((top dp un gd (envOf name scope L a cd :: outer)).mark (some (.ref e))) (top dp un gd (envOf name scope L a cd :: outer)) (envOf name scope L a cd) E := by passes_own) :
    wpAny (model prog w) (top dp un gd (envOf name scope L a cd :: outer)) (noteFrame (.ref e) (envOf name scope L a cd))
      (fun _ s₂ => wpAny (model prog w) (top dp un gd (envOf name scope L a cd :: outer)) (setFlight (.ref e) none) (fun _ s₃ =>
        wpAny (model prog w) (top dp un gd (envOf name scope L a cd :: outer)) (handleBy (.ref e) (envOf name scope L a cd) (.ExceptHandler (some (.Name "LogFault" np)) none (b₀ :: suite) pos :: rest)) Q E s₃) E s₂) E s' := by
  refine hold (fun Ph hPh => ?_)
  obtain ⟨B, a0, hB, hl, hfl⟩ := ht
  refine hPh ?_
  clear hPh
  obtain ⟨frs₁, su₁, hat₁⟩ := hfr
  refine wpAny_looks_onW rfl rfl hfl fun h₄ hheld₄ hsm₄ => ?_
  refine wpAny_landsW hheld₄ fun h₅ hheld hsm₅' => ?_
  have hsm₅ := hsm₄.trans hsm₅'
  have F₅ : Fr h₀ L h₅ m := ⟨hsm₅.ns hns, fun b o q => hheld.1 _ _ (hB _ _ q), hab⟩
  obtain ⟨ob, hob, hobc⟩ := hheld.there
  have hC := lf_obj (X.keeps F₅.keep)
  have ex : nsIn (TopL.heap_1 w.params) mainGlobals "LogFault" = some (some (.ref 59)) := by k_dflt k_is
  refine wpAny_handleBy_cons (codeAny_handlers_test (name_K F₅ X (topRead_of T) ex ?_ hk hx (by decide))) (by intro q; cases q)
  refine wpAny_excMatches_sub_self hC hob hobc (by decide) (codeAny_handlers_suite ?_)
  refine lands_againW hheld fun h₆ hfl₆ hsm₆ => ?_
  have hsm := hsm₅.trans hsm₆
  have F₆ : Fr h₀ L h₆ m := ⟨hsm.ns hns, fun b o q => hfl₆.1 _ _ (hB _ _ q), hab⟩
  obtain ⟨frs₂, su₂, hat₂⟩ := TI.sameUp_of (h' := h₆) (frs := frs₁) fun q hq => by
    refine hsm q.1 q.2 (hat₁ q hq) fun vs z => ?_
    obtain ⟨es', ep', hd'⟩ := TI.Frs.dict (TI.Frs.up Fs su₁) q hq
    rw [hd'] at z; cases z
  exact wpAny_passesOwnAt hE (k h₆ frs₂ F₆ (su₁.trans su₂) (fun q hq hn => hfl₆.1 _ _ (hl q hq hn)) hat₂)
end

/-- a contract of a def that may catch a LogFault within: the frames' dicts come back up to their slots -/
def ConC (prog : Program) (w : World) (f : Addr) (vs : List Value) (need : Nat) (led : Led) (Ret : Led → Value → Prop) : Prop :=
  ∀ (dp un : Nat) (gd : Option (List Code)) (env : Env) (outer : List Env) (frs : Led) (h₀ : Heap) (L : Addr) (m : Nm) (s : Shared)
    (p : Program) (loose : List PySem.Str) (mean : ExcName → Option Value) (mg mb : Nm) (R : Result → Shared → Prop),
    (∀ q ∈ led, TI.notDict q = true) →
    Cal w dp un env outer frs h₀ L m (led ++ frs) need s p loose mean mg mb →
    (∀ r tl frs' h' tk', Fr h₀ L h' m → TI.SameUp frs frs' → News h₀ L h' (tl ++ (led ++ frs')) → (∀ q ∈ tl, TI.notDict q = true) → Ret tl r → R (.ok (.ret r)) { s with heap := h', toks := tk' }) →
    codeAny (model prog w) (top dp un gd (env :: outer)) (.call (.ref f) ⟨vs, []⟩) R s

section
variable {prog : Program} {w : World} {dp un need : Nat} {gd : Option (List Code)} {env : Env} {outer : List Env} {frs led : Led} {h₀ : Heap} {L : Addr} {m : Nm} {s : Shared}
  {p : Program} {loose : List PySem.Str} {mean : ExcName → Option Value} {mg mb : Nm} {R : Result → Shared → Prop}

theorem ConC.use {f : Addr} {vs : List Value} {Ret : Led → Value → Prop} {Q E : Value → Shared → Prop} (C : ConC prog w f vs need led Ret)
    (F : Fr h₀ L s.heap m) (N : News h₀ L s.heap (led ++ frs)) (X : (TopL.heap_1 w.params).In h₀) (T : Top p loose mean mg mb h₀) (Fs : TI.Frs outer frs) (hnd : ∀ q ∈ led, TI.notDict q = true)
    (hf : env.frame = some L) (hk : env.scope.kind = .function) (hdp : dp + need < 1000) (hu : un + 8 * need < 9900)
    (ok : ∀ r tl frs' h' tk', Fr h₀ L h' m → TI.SameUp frs frs' → News h₀ L h' (tl ++ (led ++ frs')) → (∀ q ∈ tl, TI.notDict q = true) → Ret tl r → Q r { s with heap := h', toks := tk' }) :
    wpAny (model prog w) (top dp un gd (env :: outer)) (call (.ref f) vs) Q E s :=
  wpAny_call (C dp un gd env outer frs h₀ L m s p loose mean mg mb _ hnd ⟨F, X, N, T, Fs, fun p hp => List.mem_append_right _ hp, hf, hk, hdp, hu⟩ ok)

theorem enterC {name qual : PySem.Str} {params : Arguments} {body : List Stmt} {scope : Scope} {dV kV doc pm cdv ct oc : Value} {an od : Option Addr} {osl : Array (Option Value)} {f : Addr} {args : Args} {binds : List (PySem.Str × Value)}
    {Ret : Led → Value → Prop}
    (hnd : ∀ q ∈ led, TI.notDict q = true)
    (C : Cal w dp un env outer frs h₀ L m (led ++ frs) need s p loose mean mg mb)
    (ok : ∀ r tl frs' h' tk', Fr h₀ L h' m → TI.SameUp frs frs' → News h₀ L h' (tl ++ (led ++ frs')) → (∀ q ∈ tl, TI.notDict q = true) → Ret tl r → R (.ok (.ret r)) { s with heap := h', toks := tk' })
    (ho : (TopL.heap_1 w.params).lookup f = some ⟨oc, od, .func (fnOf name qual params body scope dV kV doc pm an cdv ct), osl⟩) (hcd : codeIn (TopL.heap_1 w.params) cdv qual = true)
    (hbind : BindsTo s (fnOf name qual params body scope dV kV doc pm an cdv ct) args binds) (hloc : ∀ y ∈ binds, scope.names.lookup y.1 = some .local)
    (hneed : 0 < need)
    (hco : scope.isCoroutine = false) (hgen : scope.isGenerator = false) (hk : scope.kind = .function) (hcell : ∀ x ∈ scope.names, x.2 ≠ .cell)
    (h : ∀ L' h₁ tk₁ frs₁ Qc Ec, Fr h₀ L' h₁ (fun y => binds.reverse.lookup y) → News h₀ L' h₁ (led ++ frs₁) → TI.Frs (env :: outer) frs₁ → (∀ p ∈ led ++ frs₁, p.1 < L') →
      (∀ r tl frs₂ h' m' tk', Fr h₀ L' h' m' → TI.SameUp frs₁ frs₂ → News h₀ L' h' (tl ++ (led ++ frs₂)) → (∀ q ∈ tl, TI.notDict q = true) → Ret tl r → Qc (.ret r) { s with heap := h', toks := tk' }) →
      PassesOwn (model prog w) (top (dp + 1) (un + 3) gd (envOf qual scope L' f cdv :: env :: outer)) (envOf qual scope L' f cdv) Ec →
      (∀ e, PassesOwnAt (model prog w) ((top (dp + 1) (un + 3) gd (envOf qual scope L' f cdv :: env :: outer)).mark (some (.ref e))) (top (dp + 1) (un + 3) gd (envOf qual scope L' f cdv :: env :: outer)) (envOf qual scope L' f cdv) Ec) →
      wpAny (model prog w) (top (dp + 1) (un + 3) gd (envOf qual scope L' f cdv :: env :: outer)) (execs body (envOf qual scope L' f cdv)) Qc Ec { s with heap := h₁, toks := tk₁ }) :
    codeAny (model prog w) (top dp un gd (env :: outer)) (.call (.ref f) args) R s := by
  refine hold (fun Ph hPh => ?_)
  obtain ⟨F, X, N, T, Fs, Fi, hf, hke, hd, hu⟩ := C
  refine hPh ?_
  clear hPh
  refine codeAny_call_def (fd := fnOf name qual params body scope dV kV doc pm an cdv ct) (body := body) (binds := binds) (by show dp < 1000; (exact ltz hd)) ((X.keeps F.keep) _ _ ho) rfl (T.nolimit.keeps F.keep) (codeRec_of (X.keeps F.keep) hcd) rfl hbind hcell hloc (fun h₁ hns hk₁ => ?_) hco hgen hk
  refine hold (fun Ph hPh => ?_)
  obtain ⟨oL, es, ep, hL, hLd, hLk⟩ := id F.ns
  refine hPh ?_
  clear hPh
  have hLn : h₀.get? L = none := by
    cases q : h₀.get? L with
    | none => rfl
    | some o => exact absurd (Nat.lt_of_lt_of_le (Heap.lt_size q) F.above) (Nat.lt_irrefl _)
  have mem3 : ∀ p, p ∈ led ++ ((L, oL) :: frs) → p = (L, oL) ∨ p ∈ led ++ frs := fun p hp => by
    rcases List.mem_append.mp hp with hp | hp
    · exact .inr (List.mem_append_left _ hp)
    · rcases List.mem_cons.mp hp with hp | hp
      · exact .inl hp
      · exact .inr (List.mem_append_right _ hp)
  have ltL : ∀ p ∈ led ++ ((L, oL) :: frs), p.1 < s.heap.objs.size := fun p hp => by
    rcases mem3 p hp with rfl | hp
    · exact Heap.lt_size hL
    · exact Heap.lt_size (N p hp).1
  have FX : Fr h₀ s.heap.objs.size h₁ (fun y => binds.reverse.lookup y) := ⟨hns, fun b o e => hk₁ b o (F.keep b o e), Nat.le_trans F.above (Nat.le_of_lt (Heap.lt_size hL))⟩
  have NX : News h₀ s.heap.objs.size h₁ (led ++ ((L, oL) :: frs)) := fun p hp => by
    refine ⟨?_, Nat.ne_of_lt (ltL p hp), ?_⟩
    · rcases mem3 p hp with rfl | hp
      · exact hk₁ _ _ hL
      · exact hk₁ _ _ (N p hp).1
    · rcases mem3 p hp with rfl | hp
      · exact hLn
      · exact (N p hp).2.2
  have FsX : TI.Frs (env :: outer) ((L, oL) :: frs) := ⟨by rw [hke]; decide, hf, ⟨es, ep, hLd⟩, Fs⟩
  refine h _ _ _ _ (fun fl s' => R (.ok (.ret (match fl with | .ret v => v | _ => .none))) s') (fun e s' => wpAny (model prog w) ((top dp un gd (env :: outer)).deeper (envOf qual scope s.heap.objs.size f cdv)) (leaving (envOf qual scope s.heap.objs.size f cdv) e) (fun _ s'' => R (.error e) s'') (fun e' s'' => R (.error e') s'') s')
    FX NX FsX ltL (fun r tl frs₂ h' m' tk' F' su N' nd hr => ?_) PassesOwn.leaving (fun e => PassesOwnAt.leaving)
  cases frs₂ with
  | nil => exact False.elim su
  | cons q frs₂ =>
    obtain ⟨q1, ⟨sl, q2⟩, su'⟩ := su
    have e1 : h'.get? L = some { oL with slots := sl } := by
      have := (N' q (List.mem_append_right _ (List.mem_append_right _ (.head _)))).1
      rwa [q1, q2] at this
    refine ok r tl frs₂ h' tk' ⟨ns_of_dict F.ns hL e1, F'.keep, F.above⟩ su' (fun p hp => ?_) nd hr
    have hp' : p ∈ tl ++ (led ++ (q :: frs₂)) := by
      rcases List.mem_append.mp hp with hp | hp
      · exact List.mem_append_left _ hp
      · rcases List.mem_append.mp hp with hp | hp
        · exact List.mem_append_right _ (List.mem_append_left _ hp)
        · exact List.mem_append_right _ (List.mem_append_right _ (.tail _ hp))
    refine ⟨(N' p hp').1, fun z => ?_, (N' p hp').2.2⟩
    have h1 := (N' p hp').1
    rw [z, e1] at h1
    have dd : ∀ x : Addr × Obj, some ({ oL with slots := sl } : Obj) = some x.2 → TI.notDict x = true → False := fun x hx hn => TI.notDict_ne hn (by rw [← Option.some.inj hx]; exact hLd)
    rcases List.mem_append.mp hp with hp | hp
    · exact dd _ h1 (nd p hp)
    · rcases List.mem_append.mp hp with hp | hp
      · exact dd _ h1 (hnd p hp)
      · -- a frame below: its address is not L
        obtain ⟨x, hx, ex⟩ := TI.SameUp.fwd su' p hp
        exact (N x (List.mem_append_right _ hx)).2.1 (ex ▸ z)
end
theorem eraL {Exc : Prop} {h₀ : Heap} {L' : Addr} {led' : Led} {Ec : Value → Shared → Prop} {s : Shared}
    (era : Exc → ∀ e h hs m' tk', Fr h₀ L' h m' → News h₀ L' h led' → (∀ b o, h.get? b = some o → hs.get? b = some o) → h.get? e = none → (∃ oe vs a0, hs.get? e = some oe ∧ oe.cls = .ref 59 ∧ oe.data = .fields vs ∧ vs[0]? = some a0 ∧ vs[1]? = some .none) →
        Ec (.ref e) { s with heap := hs, toks := tk' }) :
    Exc → ∀ {e h hs m' tk' t d}, hs.get? e = some (lfObj (some d) t) → (∀ b o, h.get? b = some o → hs.get? b = some o) → h.get? e = none → Fr h₀ L' h m' → News h₀ L' h led' → Ec (.ref e) { s with heap := hs, toks := tk' } :=
  fun hx e h hs m' tk' _ _ o k n F N => era hx e h hs m' tk' F N k n ⟨_, _, _, o, rfl, rfl, rfl, rfl⟩
end Mine
end

section
open PySem PySem.W PySem.Spec PySem.Calls PyProof.Rows PyProof.V
namespace Mine
/-! A logic of the stacks that hold no reader of a bytearray. Nothing is raised in it. -/
def Calm (Γ : PySem.Ctx) : Prop := okCode Γ.code = true ∧ okStack Γ.below = true
abbrev E0 : Value → Shared → Prop := fun _ _ => False
def wpC {α : Type} (M : Model) (A : Around) (t : Sem α) (Q : α → Shared → Prop) (s : Shared) : Prop :=
  ∀ Γ p, Γ.In A → Calm Γ → Sem.wp M Γ t (fun a _ s' => Q a s') (fun _ _ _ => False) p s
def codeC (M : Model) (A : Around) (c : Code) (R : Flow → Shared → Prop) (s : Shared) : Prop :=
  ∀ Γ p, Γ.code = c → Γ.Below A → okStack Γ.below = true → wpCode M Γ (fun r s' => ∃ f, r = .ok f ∧ R f s') p s

section
variable {α β : Type} {M : Model} {A : Around} {s : Shared}
theorem wpC_of_any {t : Sem α} {Q : α → Shared → Prop} (h : wpAny M A t Q E0 s) : wpC M A t Q s := fun Γ p hΓ _ => h Γ p hΓ
theorem codeC_of_any {c : Code} {R : Flow → Shared → Prop} (h : codeAny M A c (fun r s' => ∃ f, r = .ok f ∧ R f s') s) : codeC M A c R s := fun Γ p hc hΓ _ => h Γ p hc hΓ
theorem wpC_mono {t : Sem α} {Q Q' : α → Shared → Prop} (h : wpC M A t Q s) (hQ : ∀ a s, Q a s → Q' a s) : wpC M A t Q' s :=
  fun Γ p hΓ hc => Sem.wp_mono M Γ t (fun a _ s => hQ a s) (fun _ _ _ x => x) p s (h Γ p hΓ hc)
theorem codeC_mono {c : Code} {R R' : Flow → Shared → Prop} (h : codeC M A c R s) (hR : ∀ f s, R f s → R' f s) : codeC M A c R' s :=
  fun Γ p hc hΓ ho => wpCode_mono (fun r s' ⟨f, e, x⟩ => ⟨f, e, hR f s' x⟩) (h Γ p hc hΓ ho)
theorem wpC_pure {a : α} {Q : α → Shared → Prop} (h : Q a s) : wpC M A (pure a) Q s := fun _ _ _ _ => h
theorem wpC_bind {m : Sem α} {f : α → Sem β} {Q : β → Shared → Prop} (h : wpC M A m (fun a s' => wpC M A (f a) Q s') s) : wpC M A (m >>= f) Q s := fun Γ p hΓ hc => by
  rw [Sem.wp_bind']
  exact Sem.wp_mono M Γ m (fun a p' s' h' => h' Γ p' hΓ hc) (fun _ _ _ h' => h') p s (h Γ p hΓ hc)
theorem wpC_then {m : Sem α} {f : α → Sem β} {Q : β → Shared → Prop} (h : wpAny M A m (fun a s' => wpC M A (f a) Q s') E0 s) : wpC M A (m >>= f) Q s := wpC_bind (wpC_of_any h)
theorem wpC_holding {vs : List Value} {m : Sem α} {Q : α → Shared → Prop} (h : wpC M A m Q s) : wpC M A (holding vs m) Q s := fun Γ p hΓ hc => by rw [Sem.wp_holding]; exact h Γ p hΓ hc
theorem wpC_keep {vs : List Value} {m : Sem α} {Q : α → Shared → Prop} (h : wpC M A m Q s) : wpC M A (m.keep vs) Q s := fun Γ p hΓ hc => by rw [Sem.wp_keep]; exact h Γ p hΓ hc
theorem wpC_onRaise {m : Sem α} {k : Value → Sem Unit} {Q : α → Shared → Prop} (h : wpC M A m Q s) : wpC M A (m.onRaise k) Q s := fun Γ p hΓ hc => by
  rw [Sem.wp_onRaise]
  exact Sem.wp_mono M Γ m (fun _ _ _ h' => h') (fun (_ : Value) _ _ (h' : False) => h'.elim) p s (h Γ p hΓ hc)
theorem wpC_operate {vs : List Value} {m : Sem Value} {Q : Value → Shared → Prop} (h : wpC M A m Q s) : wpC M A (operate vs m) Q s := fun Γ p hΓ hc => by
  rw [Sem.wp_operate]; exact h Γ p hΓ hc
theorem Calm.enter {Γ : PySem.Ctx} (h : Calm Γ) (c : Code) (hd : Option Value) (p : Pos) : okStack (Γ.enter c hd p).below = true := by
  show okStack ((Γ.code, p) :: Γ.below) = true
  unfold okStack
  rw [List.all_cons, h.1]
  exact h.2
theorem wpC_run {c : Code} {h : Option Value} {Q : Flow → Shared → Prop} (hc : codeC M (A.mark h) c Q s) (hnb : h ≠ some byPass := by intro x; cases x) : wpC M A (run c h) Q s :=
  fun Γ p hΓ ho => by
    rw [Sem.wp_run]
    exact wpCode_mono (fun r s' ⟨f, e, x⟩ => by subst e; exact x) (hc _ p rfl (hΓ.enter c h p hnb) (ho.enter c h p))
theorem wpC_runValue {c : Code} {Q : Value → Shared → Prop} (hc : codeC M A c (fun f s' => ∃ v, f = .ret v ∧ Q v s') s) : wpC M A (runValue c) Q s := fun Γ p hΓ ho => by
  rw [Sem.wp_runValue]
  exact wpCode_mono (fun r s' ⟨f, e, v, e', x⟩ => by subst e; subst e'; exact x) (hc _ p rfl (hΓ.enter c none p (by intro x; cases x)) (ho.enter c none p))
theorem wpC_call {f : Value} {pos : List Value} {kw : List (PySem.Str × Value)} {Q : Value → Shared → Prop} (hc : codeC M A (.call f ⟨pos, kw⟩) (fun fl s' => ∃ v, fl = .ret v ∧ Q v s') s) : wpC M A (call f pos kw) Q s := wpC_runValue hc
theorem codeC_of_tree {c : Code} {R : Flow → Shared → Prop} (ok : okCode c = true)
    (h : wpC M (A.under c) (M.den c) (fun fin s' => match fin with | .done f => R f s' | .again c' => c'.quiet = true ∧ codeC M A c' R s') s) : codeC M A c R s := fun Γ p hc hΓ ho => by
  rw [wpCode_iff_wp, hc]
  refine Sem.wp_mono M Γ _ ?_ ?_ p s (h Γ p (hc ▸ hΓ.in) ⟨by rw [hc]; exact ok, ho⟩)
  · intro fin p' s' h'
    cases fin with
    | done f => exact ⟨f, rfl, h'⟩
    | again c' => exact ⟨h'.1, h'.2 (Γ.goto c') p' rfl (hΓ.goto c') ho⟩
  · exact fun _ _ _ h' => h'.elim
theorem codeC_loop {c : Code} {R : Flow → Shared → Prop} (ok : okCode c = true) (hq : c.quiet = true) (I : Nat → Shared → Prop)
    (turn : ∀ n s, I n s → wpC M (A.under c) (M.den c) (fun fin s' => match fin with | .done f => R f s' | .again c' => c'.quiet = true ∧ ((c' = c ∧ ∃ m, m < n ∧ I m s') ∨ codeC M A c' R s')) s) (n : Nat) (h : I n s) : codeC M A c R s := by
  induction n using Nat.strongRecOn generalizing s with
  | ind n ih =>
    refine codeC_of_tree ok (wpC_mono (turn n s h) fun fin s' hf => ?_)
    cases fin with
    | done f => exact hf
    | again c' =>
      obtain ⟨hq', hf⟩ := hf
      rcases hf with ⟨rfl, m, hm, hI⟩ | hf
      · exact ⟨hq', ih m hm hI⟩
      · exact ⟨hq', hf⟩
theorem okStack_exported {l : List (Code × Pos)} (h : okStack l = true) (self : Value) : (l.any fun
    | (.builtin "bytearray.__contains__" ⟨v :: _, _⟩, _) | (.builtin "bytearray.__mod__" ⟨v :: _, _⟩, _)
    | (.builtin "bytearray.__rmod__" ⟨_ :: v :: _, _⟩, _) | (.builtin "_struct.pack_into.held" ⟨v :: _, _⟩, _) => PySem.Builtin.Bytes.sameRef v self
    | (.builtin "bytearray.find.held" ⟨_ :: _ :: held, _⟩, _) => held.any (PySem.Builtin.Bytes.sameRef self)
    | (.builtin id ⟨v :: _, _⟩, _) => PySem.Builtin.Bytes.sameRef v self && PySem.Builtin.Bytes.decodersThatHold.contains id
    | _ => false) = false := by
  rw [List.any_eq_false]
  intro x hx
  have hk := List.all_eq_true.mp h x hx
  obtain ⟨c, p⟩ := x
  cases c with
  | builtin id a =>
    have hk' : holders.contains id = false := by simpa only [okCode, Bool.not_eq_true'] using hk
    unfold holders at hk'
    rw [List.contains_eq_any_beq, List.any_append, Bool.or_eq_false_iff] at hk'
    have h2 := hk'.2
    rw [← List.contains_eq_any_beq] at h2
    have h1 := hk'.1
    simp only [List.any_cons, List.any_nil, Bool.or_false, Bool.or_eq_false_iff, beq_eq_false_iff_ne, ne_eq] at h1
    refine hold (fun Ph hPh => ?_)
    obtain ⟨e1, e2, e3, e4, e5⟩ := h1
    refine hPh ?_
    clear hPh
    obtain ⟨pos, kw⟩ := a
    unfold okStack_exported.match_1
    refine (fun (h : _ = false) => Bool.eq_false_iff.mp h) ?_
    first | dsimp only [okStack_exported._sparseCasesOn_1, okCode._sparseCasesOn_1] | dsimp only [okStack_exported._sparseCasesOn_1] | dsimp only [okCode._sparseCasesOn_1]
    rw [dif_neg e1, dif_neg e2, dif_neg e3, dif_neg e4, dif_neg e5]
    cases pos with
    | nil => rfl
    | cons v r =>
      show (PySem.Builtin.Bytes.sameRef v self && PySem.Builtin.Bytes.decodersThatHold.contains id) = false
      rw [h2, Bool.and_false]
  | _ => exact Bool.false_ne_true
theorem wpC_exported {self : Value} {Q : Bool → Shared → Prop} (h : Q false s) : wpC M A (PySem.Builtin.Bytes.exported self) Q s := fun Γ p _ ho => by
  unfold PySem.Builtin.Bytes.exported
  rw [Sem.wp_bind']
  exact Eq.mpr (congrArg (fun b => Q b s) (okStack_exported (l := (Γ.code, p) :: Γ.below) (by unfold okStack; rw [List.all_cons, ho.1]; exact ho.2) self)) h
theorem wpC_checkResize {a : Addr} {o : Obj} {b : Array UInt8} {Q : Unit → Shared → Prop} (ho : s.heap.get? a = some o) (hd : o.data = .bytearray b 0) (h : Q () s) : wpC M A (PySem.Builtin.Bytes.checkResize (.ref a)) Q s := by
  unfold PySem.Builtin.Bytes.checkResize
  unfold orM
  refine wpC_bind (wpC_bind (wpC_exported ?_))
  dsimp only [toBool]
  refine wpC_of_any (wpAny_bind (m := PySem.Builtin.Bytes.exportsOf (.ref a)) ?_)
  unfold PySem.Builtin.Bytes.exportsOf
  refine wpAny_bind (wpAny_load ho ?_)
  rw [hd]
  exact wpAny_pure (wpAny_pure (wpC_pure h))
end
end Mine
end

section
open PySem PySem.W PySem.Spec PySem.Calls PyProof.Rows PyProof.V
namespace Mine
section
variable {α β : Type} {M : Model} {A : Around} {s : Shared} {env : Env}
theorem wpC_execs_nil {Q : Flow → Shared → Prop} (h : Q .next s) : wpC M A (execs [] env) Q s := fun _ _ _ _ => h
theorem wpC_execs_cons {st : Stmt} {rest : List Stmt} {Q : Flow → Shared → Prop} (h : wpC M A (exec st env) (fun f s' => match f with | .next => wpC M A (execs rest env) Q s' | f => Q f s') s) :
    wpC M A (execs (st :: rest) env) Q s := by
  rw [execs_cons]
  refine wpC_bind (wpC_mono h fun f s' h' => ?_)
  cases f <;> first | exact h' | exact wpC_pure h'
/-- a statement that needs no clean stack -/
theorem wpC_leaf {st : Stmt} {rest : List Stmt} {Q : Flow → Shared → Prop} (h : wpAny M A (exec st env) (fun f s' => match f with | .next => wpC M A (execs rest env) Q s' | f => Q f s') E0 s) :
    wpC M A (execs (st :: rest) env) Q s := wpC_execs_cons (wpC_of_any h)
theorem wpC_Assign {x : PySem.Str} {pos' pos : Pos} {value : Expr} {Q : Flow → Shared → Prop} (h : wpC M A (eval value env) (fun v s₁ => wpAny M A (storeName env x v) (fun _ => Q .next) E0 s₁) s)
    (hs : swapsWith value (some (.Name x pos')) pos.line env = pure false := by rfl) : wpC M A (exec (.Assign [.Name x pos'] value pos) env) Q s := by
  rw [exec_Assign_Name env x pos' value pos hs]
  refine wpC_then (wpAny_standAt (wpC_bind (wpC_mono h fun v s₁ h₁ => wpC_then (wpAny_standAt (wpC_then (wpAny_bindName (wpAny_mono h₁ (fun _ _ h₂ => wpC_pure h₂) fun _ _ x => x)))))))
theorem wpC_Expr {e : Expr} {pos : Pos} {Q : Flow → Shared → Prop} (h : wpC M A (eval e env) (fun v s' => match v with | .ref _ => False | _ => Q .next s') s)
    (hi : interactive env = false := by rfl) (hs : swapsWith e none pos.line env = pure false := by rfl) : wpC M A (exec (.Expr e pos) env) Q s := by
  rw [exec_Expr env e pos hi hs]
  refine wpC_then (wpAny_standAt (wpC_bind (wpC_mono h fun v s' h' => ?_)))
  have hv : ∀ a, v ≠ .ref a := fun a hva => by subst hva; exact h'
  rw [dropValue_plain hv]
  refine wpC_pure ?_
  cases v <;> first | exact h' | exact (hv _ rfl).elim
theorem wpC_Return {e : Expr} {pos : Pos} {Q : Flow → Shared → Prop} (h : wpC M A (eval e env) (fun v => Q (.ret v)) s) : wpC M A (exec (.Return (some e) pos) env) Q s := by
  rw [exec_Return_some]
  exact wpC_then (wpAny_standAt (wpC_bind (wpC_mono h fun v s' h' => wpC_pure h')))
theorem wpC_If {test : Expr} {body orelse : List Stmt} {pos : Pos} {Q : Flow → Shared → Prop}
    (h : wpC M A (isTrue test env (eval test env)) (fun b s₂ => if b = true then wpC M A (execs body env) Q s₂ else wpC M A (execs orelse env) Q s₂) s) : wpC M A (exec (.If test body orelse pos) env) Q s := by
  rw [exec_If]
  refine wpC_then (wpAny_standAt (wpC_bind (wpC_mono h fun b s₂ h₂ => ?_)))
  cases b
  · exact h₂
  · exact h₂
theorem wpC_BinOp {l r : Expr} {op : Operator} {pos : Pos} {Q : Value → Shared → Prop} (h : wpC M A (eval l env) (fun a s₁ => wpC M A (eval r env) (fun b s₂ => wpC M A (binaryOp op a b) Q s₂) s₁) s) :
    wpC M A (eval (.BinOp l op r pos) env) Q s := by
  rw [eval_BinOp]
  exact wpC_bind (wpC_mono h fun a s₁ h₁ => wpC_bind (wpC_holding (wpC_mono h₁ fun b s₂ h₂ => wpC_then (wpAny_standAt (wpC_operate h₂)))))
theorem wpC_isTrue_Compare {l r whole : _} {op : CmpOp} {pos : Pos} {Q : Bool → Shared → Prop}
    (h : wpC M A (eval l env) (fun a s₁ => wpC M A (eval r env) (fun b s₂ => wpC M A (compareOp op a b) (fun c s₃ => wpAny M A (truthy c) Q E0 s₃) s₂) s₁) s)
    (hm : behindInMarks op r = false := by with_unfolding_all rfl) : wpC M A (isTrue (.Compare l [op] [r] pos) env whole) Q s := by
  rw [isTrue_Compare1, markedBehindIn_of_false hm]
  exact wpC_bind (wpC_mono h fun a s₁ h₁ => wpC_bind (wpC_holding (wpC_mono h₁ fun b s₂ h₂ => wpC_then (wpAny_standAt (wpC_bind (wpC_operate (wpC_mono h₂ fun c s₃ h₃ => wpC_holding (wpC_of_any h₃))))))))
theorem wpC_Call {func : Expr} {args : List Expr} {pos : Pos} {Q : Value → Shared → Prop}
    (h : wpAny M A (eval func env) (fun f s₁ => wpC M A (callWith pos f [] (backTo pos (starEach args env)) []) Q s₁) E0 s)
    (he : eval (.Call func args [] pos) env = (do callWith pos (← eval func env) [] (backTo pos (starEach args env)) (backToKw pos (keywordEach [] env))) := by rfl) : wpC M A (eval (.Call func args [] pos) env) Q s := by
  rw [he]; exact wpC_then h
theorem wpC_Meth {o : Expr} {name : PySem.Str} {apos pos : Pos} {args : List Expr} {pl : Sem Bool} {Q : Value → Shared → Prop}
    (h : wpAny M A (eval o env) (fun ov s₁ => wpAny M A (getMethod ov name pl) (fun fx s₂ => wpC M A (callWith pos fx.1 fx.2 (backTo pos (starEach args env)) []) Q s₂) E0 s₁) E0 s)
    (he : eval (.Call (.Attribute o name apos) args [] pos) env = (do
      let ov ← eval o env
      standAt apos.atName
      let (f, first) ← holding [ov] (getMethod ov name pl)
      callWith pos f first (backTo pos (starEach args env)) []) := by rfl) : wpC M A (eval (.Call (.Attribute o name apos) args [] pos) env) Q s := by
  rw [he]
  exact wpC_then (wpAny_mono h (fun ov s₁ h₁ => wpC_then (wpAny_standAt (wpC_then (wpAny_holding (wpAny_mono h₁ (fun fx s₂ h₂ => h₂) fun _ _ x => x))))) fun _ _ x => x)
theorem wpC_spliced_nil {Q : List Value → Shared → Prop} (h : Q [] s) : wpC M A (spliced []) Q s := wpC_pure h
theorem wpC_spliced {x : Sem Value} {rest : List (Bool × Sem Value)} {Q : List Value → Shared → Prop} (h : wpC M A x (fun v s₁ => wpC M A (spliced rest) (fun vs s₂ => Q (v :: vs) s₂) s₁) s) : wpC M A (spliced ((false, x) :: rest)) Q s := by
  rw [spliced]
  refine wpC_bind (wpC_mono h fun v s₁ h₁ => ?_)
  simp only [Bool.false_eq_true, if_false]
  exact wpC_bind (wpC_pure (wpC_bind (wpC_holding (wpC_mono h₁ fun vs s₂ h₂ => wpC_pure h₂))))
/-- one argument -/
theorem wpC_args1 {e : Expr} {pos : Pos} {Q : List Value → Shared → Prop} (h : wpC M A (eval e env) (fun v s₁ => Q [v] s₁) s)
    (he : starEach [e] env = [(false, eval e env)] := by rfl) : wpC M A (spliced (backTo pos (starEach [e] env))) Q s := by
  rw [he]
  exact wpC_spliced (wpC_mono h fun v s₁ h₁ => wpC_spliced_nil h₁)
theorem wpC_evalArgs {f : Value} {x : Sem Value} {rest : List (Bool × Sem Value)} {Q : Args → Shared → Prop}
    (h : wpC M A (spliced ((false, x) :: rest)) (fun vs s' => Q ⟨vs, []⟩ s') s) : wpC M A (evalArgs f true ((false, x) :: rest) []) Q s := by
  unfold evalArgs
  show wpC M A (spliced ((false, x) :: rest) >>= _) Q s
  refine wpC_bind (wpC_mono h fun vs s' h' => ?_)
  refine wpC_holding ?_
  exact wpC_bind (wpC_pure (wpC_bind (wpC_pure (wpC_pure h'))))
theorem wpC_evalArgs0 {f : Value} {Q : Args → Shared → Prop} (h : Q ⟨[], []⟩ s) : wpC M A (evalArgs f true [] []) Q s := by
  exact wpC_of_any (PyProof.Rows.evalArgs_none h)
/-- a call of what the machine keeps itself: a builtin, a type -/
theorem wpC_callWith_machine {pos : Pos} {f : Value} {first : List Value} {args : List (Bool × Sem Value)} {Q : Value → Shared → Prop} (hplain : args.any (·.1) = false) (hf : ∀ a, f ≠ .ref a)
    (h : wpC M A (evalArgs f true args []) (fun a s₁ => wpC M A (call f (first ++ a.pos) a.kw) Q s₁) s) : wpC M A (callWith pos f first args []) Q s := by
  unfold callWith
  refine wpC_bind (wpC_holding (wpC_mono h fun a s₁ h₁ => wpC_then (wpAny_standAt ?_)))
  simp only [hplain, List.any_nil, Bool.or_false]
  have hk : keeperOf f = pure .machine := by
    unfold keeperOf
    cases f <;> first | rfl | exact absurd rfl (hf _)
  rw [hk]
  refine wpC_bind (wpC_pure ?_)
  exact wpC_bind (wpC_mono h₁ fun r s₂ hr => wpC_then (wpAny_holding (wpAny_point (wpC_pure hr))))
theorem wpC_callWith_builtin {pos : Pos} {id : String} {first : List Value} {e : Expr} {rest : List Expr} {Q : Value → Shared → Prop}
    (h : wpC M A (spliced (backTo pos (starEach (e :: rest) env))) (fun vs s₁ => wpC M A (call (.builtin id) (first ++ vs)) Q s₁) s)
    (he : starEach (e :: rest) env = (false, eval e env) :: starEach rest env := by rfl)
    (hplain : (backTo pos (starEach rest env)).any (·.1) = false := by rfl) : wpC M A (callWith pos (.builtin id) first (backTo pos (starEach (e :: rest) env)) []) Q s := by
  rw [he] at h ⊢
  exact wpC_callWith_machine (by show (false || (backTo pos (starEach rest env)).any (·.1)) = false; rw [hplain]; rfl) (fun _ x => by cases x) (wpC_evalArgs h)
theorem wpC_callWith_type0 {pos : Pos} {T : String} {Q : Value → Shared → Prop} (h : wpC M A (call (.type T) []) Q s) : wpC M A (callWith pos (.type T) [] (backTo pos (starEach [] env)) []) Q s :=
  wpC_callWith_machine (args := []) rfl (fun _ x => by cases x) (wpC_evalArgs0 h)
theorem wpC_callWith_def {pos : Pos} {f : Addr} {o : Obj} {fd : FuncData} {e : Expr} {rest : List Expr} {Q : Value → Shared → Prop} (hd : o.data = .func fd)
    (h : wpC M A (spliced (backTo pos (starEach (e :: rest) env))) (fun vs s₁ => s₁.heap.get? f = some o ∧ wpC M A (call (.ref f) vs) Q s₁) s)
    (he : starEach (e :: rest) env = (false, eval e env) :: starEach rest env := by rfl)
    (hplain : (backTo pos (starEach rest env)).any (·.1) = false := by rfl) : wpC M A (callWith pos (.ref f) [] (backTo pos (starEach (e :: rest) env)) []) Q s := by
  rw [he] at h ⊢
  unfold callWith
  refine wpC_bind (wpC_holding (wpC_evalArgs (wpC_mono h fun vs s₁ h₁ => wpC_then (wpAny_standAt ?_))))
  have hs : (((false, eval e env) :: backTo pos (starEach rest env)).any (·.1)) = false := by
    show (false || (backTo pos (starEach rest env)).any (·.1)) = false
    rw [hplain]; rfl
  have hb : backTo pos ((false, eval e env) :: starEach rest env) = (false, eval e env) :: backTo pos (starEach rest env) := rfl
  simp only [hb, hs, List.any_nil, Bool.or_false]
  refine wpC_bind (m := keeperOf (.ref f)) ?_
  unfold keeperOf
  refine wpC_then (wpAny_load h₁.1 ?_)
  rw [hd]
  refine wpC_pure ?_
  have tail : ∀ {t : Sem Value}, wpC M A t Q s₁ → wpC M A (t >>= fun r => holding [r] point >>= fun _ => pure r) Q s₁ :=
    fun ht => wpC_bind (wpC_mono ht fun r s₂ hr => wpC_then (wpAny_holding (wpAny_point (wpC_pure hr))))
  dsimp only
  split
  · exact tail h₁.2
  · exact tail (wpC_keep h₁.2)
end
section
variable {prog : Program} {w : World} {A : Around} {s : Shared}
theorem codeC_func {body : List Stmt} {env : Env} {R : Flow → Shared → Prop} (h : wpC (model prog w) (A.deeper env) (execs body env) (fun f s' => R (.ret (match f with | .ret v => v | _ => .none)) s') s) : codeC (model prog w) A (.func body env) R s := by
  refine codeC_of_tree rfl ?_
  show wpC _ (A.deeper env) (do point; match ← (execs body env).onRaise (leaving env) with | .ret v => ret v | _ => ret .none) _ s
  refine wpC_then (wpAny_point (wpC_bind (wpC_onRaise (wpC_mono h fun f s' h' => ?_))))
  cases f <;> exact wpC_pure h'
theorem codeC_call_function {a : Addr} {args : Args} {o : Obj} {fd : FuncData} {body : List Stmt} {R : Flow → Shared → Prop} (hroom : A.depth < recursionLimit) (ho : s.heap.get? a = some o)
    (hd' : o.data = .func fd) (hco : fd.scope.isCoroutine = false) (hgen : fd.scope.isGenerator = false) (hbody : fd.body = .stmts body) (hcd : s.heap.CodeRec fd.code fd.qualname)
    (h : wpAny (model prog w) A.in1 (bindArgs fd args) (fun binds s₁ =>
      wpAny (model prog w) A.in1 (newFunctionEnv fd.scope fd.globals fd.closure binds (fd.qualname ++ ".<locals>.") (some a) fd.code none fd.builtins)
        (fun env s₂ => s₂.heap.NoLimit ∧ codeC (model prog w) A (.func body env) R s₂) E0 s₁) E0 s) : codeC (model prog w) A (.call (.ref a) args) R s := by
  refine codeC_of_tree rfl (wpC_of_any ?_)
  show wpAny _ A.in1 (callAny (.ref a) args) _ _ s
  simp only [callAny]
  refine wpAny_bind (wpAny_load ho ?_)
  refine hold (fun Ph hPh => ?_)
  obtain ⟨c, oc, vs, tq, hc, hoc, hdc, hq⟩ := hcd
  refine hPh ?_
  clear hPh
  simp only [hd', callFunction, hco, hgen, hbody, hc]
  rw [hc] at h
  refine wpAny_bind (m := field (.ref c) 1) (wpAny_field hoc hdc hq (wpAny_bind (wpAny_pure ?_)))
  exact wpAny_bind (wpAny_mono h (fun binds s₁ h₁ => wpAny_bind (wpAny_mono h₁ (fun env s₂ h₂ => wpAny_bind (wpAny_enterFrame h₂.1 hroom
    (wpAny_pure (And.intro rfl h₂.2)))) fun _ _ h' => h')) fun _ _ h' => h')
theorem codeC_builtin {id : String} {args : Args} {b : Builtin} {R : Flow → Shared → Prop} (hq : plainId id = true) (ok : holders.contains id = false) (hb : entryFor table id = some b)
    (h : wpC (model prog w) A.in1 (b args) (fun fin s' => match fin with | .done f => R f s' | .again c' => c'.quiet = true ∧ codeC (model prog w) A c' R s') s) : codeC (model prog w) A (.builtin id args) R s := by
  refine codeC_of_tree (by show (!holders.contains id) = true; rw [ok]; rfl) ?_
  rw [Around.under_plainId hq]
  show wpC _ _ (match entryFor table id with | some b => b args | none => unsupported ((withoutEnding? id "#data").getD id)) _ s
  rw [hb]; exact h
theorem codeC_call_builtin {id : String} {args : Args} {b : Builtin} {R : Flow → Shared → Prop} (hq : plainId id = true) (ok : holders.contains id = false) (hb : entryFor table id = some b)
    (h : wpAny (model prog w) A.in1 (checkBuiltinCall id args) (fun _ s₁ => wpC (model prog w) A.in1 (b args)
      (fun fin s' => match fin with | .done f => R f s' | .again c' => c'.quiet = true ∧ codeC (model prog w) A c' R s') s₁) E0 s) : codeC (model prog w) A (.call (.builtin id) args) R s := by
  refine codeC_of_tree rfl ?_
  show wpC _ A.in1 (do checkBuiltinCall id args; again (.builtin id args)) _ s
  exact wpC_then (wpAny_mono h (fun _ s₁ h₁ => wpC_pure (And.intro (plainId_quiet hq args) (codeC_builtin hq ok hb h₁))) fun _ _ x => x)
theorem codeC_whileLoop {test : Expr} {body : List Stmt} {env : Env} {R : Flow → Shared → Prop} (I : Nat → Shared → Prop)
    (turn : ∀ n s, I n s → wpAny (model prog w) A (isTrue test env (eval test env)) (fun b s₂ =>
        if b = true then wpC (model prog w) A (execs body env) (fun f s₃ => match f with
            | .next | .cont => ∃ m, m < n ∧ I m s₃
            | .brk => R .next s₃
            | .ret v => R (.ret v) s₃) s₂
        else R .next s₂) E0 s)
    (n : Nat) (h : I n s) : codeC (model prog w) A (.whileLoop test body [] env) R s := by
  refine codeC_loop rfl rfl I (fun n s hI => ?_) n h
  show wpC _ A ((whileTurn test body [] env).onRaise (fun x => do noteFrame x env; theTreesLotGoes x)) _ s
  refine wpC_onRaise ?_
  simp only [whileTurn]
  refine wpC_then (wpAny_mono (turn n s hI) (fun b s₂ h₂ => ?_) fun _ _ h' => h')
  cases b with
  | false =>
    simp only [Bool.false_eq_true, if_false] at h₂ ⊢
    exact wpC_bind (wpC_execs_nil (wpC_pure h₂))
  | true =>
    simp only [if_true] at h₂ ⊢
    refine wpC_bind (wpC_mono h₂ fun f s₃ h₃ => ?_)
    cases f with
    | next => exact wpC_pure ⟨rfl, .inl ⟨rfl, h₃⟩⟩
    | cont => exact wpC_pure ⟨rfl, .inl ⟨rfl, h₃⟩⟩
    | brk => exact wpC_pure h₃
    | ret v => exact wpC_pure h₃
theorem wpC_runOwn {c : Code} {env : Env} {Q : Flow → Shared → Prop} (hc : codeC M A c Q s) : wpC M A (runOwn c env none) Q s := by
  unfold runOwn
  exact wpC_onRaise (wpC_run (by rw [show A.mark none = A from by cases A; rfl]; exact hc))
theorem wpC_While {test : Expr} {body : List Stmt} {pos : Pos} {env : Env} {Q : Flow → Shared → Prop} (h : codeC M A (.whileLoop test body [] env) Q s) : wpC M A (exec (.While test body [] pos) env) Q s := by
  rw [exec_While]; exact wpC_then (wpAny_standAt (wpC_runOwn h))
theorem codeC_forLoop {target : Expr} {it : Value} {body : List Stmt} {env : Env} {R : Flow → Shared → Prop} (I : Nat → Shared → Prop)
    (turn : ∀ n s, I n s → wpAny (model prog w) A (pyNext it) (fun r s₁ => match r with
      | none => R .next s₁
      | some v => wpAny (model prog w) A (assign target env v) (fun _ s₂ => wpC (model prog w) A (execs body env) (fun f s₃ => match f with
          | .next | .cont => ∃ m, m < n ∧ I m s₃
          | .brk => R .next s₃
          | .ret v => R (.ret v) s₃) s₂) E0 s₁) E0 s)
    (n : Nat) (h : I n s) (ht : ∀ v, letOwnedTupleGo target it v = pure () := by intro _; rfl) : codeC (model prog w) A (.forLoop target it body [] env) R s := by
  refine codeC_loop rfl rfl I (fun n s hI => ?_) n h
  show wpC _ _ ((forTurn target it body [] env).onRaise (fun x => do noteFrame x env; theTreesLotGoes x)) _ s
  refine wpC_onRaise ?_
  simp only [forTurn]
  refine wpC_then (wpAny_standAt (wpC_bind (wpC_onRaise (wpC_mono (wpC_of_any (turn n s hI)) fun r s₁ h₁ => ?_))))
  cases r with
  | none => exact wpC_pure ⟨rfl, .inr (codeC_of_tree rfl (wpC_bind (wpC_onRaise (wpC_execs_nil (wpC_pure h₁)))))⟩
  | some v =>
    refine wpC_then (wpAny_of_eq (ht v) ?_)
    refine wpC_then (wpAny_mono h₁ (fun _ s₂ h₂ => wpC_bind (wpC_mono h₂ fun f s₃ h₃ => ?_)) fun _ _ h' => h')
    cases f with
    | next => exact wpC_pure ⟨rfl, .inl ⟨rfl, h₃⟩⟩
    | cont => exact wpC_pure ⟨rfl, .inl ⟨rfl, h₃⟩⟩
    | brk => exact wpC_pure h₃
    | ret v => exact wpC_pure h₃
theorem wpC_For {target iter : Expr} {body : List Stmt} {pos : Pos} {env : Env} {Q : Flow → Shared → Prop}
    (h : wpAny M A (eval iter env) (fun x s₁ => wpAny M A (pyIter x) (fun it s₂ => codeC M A (.forLoop target it body [] env) Q s₂) E0 s₁) E0 s)
    (hs : ∀ x, foldedSetIterable iter env x = pure x := by intro _; rfl) : wpC M A (exec (.For target iter body [] pos) env) Q s := by
  rw [exec_For]
  exact wpC_then (wpAny_standAt (wpC_then (wpAny_mono h (fun x s₁ h₁ => wpC_then (wpAny_of_eq (hs x) (wpC_then (wpAny_standAt (wpC_then (wpAny_holding
    (wpAny_mono h₁ (fun it s₂ h₂ => wpC_runOwn h₂) fun _ _ h' => h'))))))) fun _ _ h' => h')))
end
end Mine
end

section
open PySem PySem.W PySem.Spec PySem.Calls PyProof.Rows PyProof.V
namespace Mine
theorem ba_mro : mroOf (.type "bytearray") = pure [.type "bytearray", .type "object"] := by rw [mroOf_type]; kernel_rfl
theorem ba_lookup_new : typeLookup (.type "bytearray") "__new__" = pure (some (.builtin "bytearray.__new__")) := by rw [typeLookup_type, builtinLookup_eq_fast]; kernel_rfl
theorem ba_slot_init : Slot "bytearray" "__init__" "bytearray.__init__" :=
  .of (owner := "bytearray") (n := "__init__") (by rw [typeLookup_type, builtinLookup_eq_fast]; kernel_rfl) (by decide +kernel) (by decide +kernel) (by decide +kernel)
    (by first | exact .inl (by decide +kernel) | exact .inr (by decide +kernel)) (by rw [isSubtype_type]; kernel_rfl)
theorem ba_called : TypeCalled "bytearray" "bytearray.__new__" "bytearray.__init__" :=
  ⟨by decide +kernel, by decide +kernel, ⟨_, _, ba_mro⟩, madeBy_type ba_mro ba_lookup_new (by decide +kernel), by decide +kernel, by rw [isSubtype_type]; kernel_rfl, ba_slot_init⟩
theorem ba_typeCall : checkTypeCall "bytearray" ⟨[], []⟩ = pure () := by kernel_rfl
theorem ba_newCall : checkBuiltinCall "bytearray.__new__" ⟨[.type "bytearray"], []⟩ = pure () := by kernel_rfl
theorem ba_entry_new : entryFor table "bytearray.__new__" = some Builtin.«list.__new__» := by rw [table_eq_tree]; kernel_rfl
theorem ba_entry_init : entryFor table "bytearray.__init__" = some Builtin.«bytearray.__init__» := by first | exact entryFor_of_fast (by kernel_rfl) | exact entryFor_of_tree (by kernel_rfl)
theorem ba_entry_append : entryFor table "bytearray.append" = some Builtin.«bytearray.append» := by first | exact entryFor_of_fast (by kernel_rfl) | exact entryFor_of_tree (by kernel_rfl)
theorem ba_entry_extend : entryFor table "bytearray.extend" = some Builtin.«bytearray.extend» := by first | exact entryFor_of_fast (by kernel_rfl) | exact entryFor_of_tree (by kernel_rfl)
theorem ba_plain_new : plainId "bytearray.__new__" = true := by decide +kernel
theorem ba_plain_init : plainId "bytearray.__init__" = true := by decide +kernel
theorem ba_plain_append : plainId "bytearray.append" = true := by decide +kernel
theorem ba_plain_extend : plainId "bytearray.extend" = true := by decide +kernel
theorem ba_sub : isSubtype (.type "bytearray") (.type "bytearray") = pure true := by rw [isSubtype_type]; kernel_rfl
set_option maxRecDepth 1000000 in
theorem ba_owner : ("bytearray.__new__".splitOn ".__new__").headD "" = "bytearray" := by simp +decide [String.splitOn, String.splitOnAux]
theorem ba_slot_append : Slot "bytearray" "append" "bytearray.append" :=
  .of (owner := "bytearray") (n := "append") (by rw [typeLookup_type, builtinLookup_eq_fast]; kernel_rfl) (by decide +kernel) (by decide +kernel) (by decide +kernel)
    (by first | exact .inl (by decide +kernel) | exact .inr (by decide +kernel)) (by rw [isSubtype_type]; kernel_rfl)
theorem ba_slot_extend : Slot "bytearray" "extend" "bytearray.extend" :=
  .of (owner := "bytearray") (n := "extend") (by rw [typeLookup_type, builtinLookup_eq_fast]; kernel_rfl) (by decide +kernel) (by decide +kernel) (by decide +kernel)
    (by first | exact .inl (by decide +kernel) | exact .inr (by decide +kernel)) (by rw [isSubtype_type]; kernel_rfl)
theorem ba_release : typeLookup (.type "bytearray") "__release_buffer__" = pure (some (.builtin "bytearray.__release_buffer__")) := by rw [typeLookup_type, builtinLookup_eq_fast]; kernel_rfl
theorem ba_buffer : typeLookup (.type "bytearray") "__buffer__" = pure (some (.builtin "bytearray.__buffer__")) := by rw [typeLookup_type, builtinLookup_eq_fast]; kernel_rfl
theorem by_buffer : typeLookup (.type "bytes") "__buffer__" = pure (some (.builtin "bytes.__buffer__")) := by rw [typeLookup_type, builtinLookup_eq_fast]; kernel_rfl
theorem ba_nobytes : typeLookup (.type "bytearray") "__bytes__" = pure none := by rw [typeLookup_type, builtinLookup_eq_fast]; kernel_rfl
theorem ba_noindex : typeLookup (.type "bytearray") "__index__" = pure none := by rw [typeLookup_type, builtinLookup_eq_fast]; kernel_rfl
theorem by_release : typeLookup (.type "bytes") "__release_buffer__" = pure none := by rw [typeLookup_type, builtinLookup_eq_fast]; kernel_rfl
theorem by_sub : isSubtype (.type "bytes") (.type "bytes") = pure true := by rw [isSubtype_type]; kernel_rfl

abbrev baObj (b : Array UInt8) : Obj := { cls := .type "bytearray", data := .bytearray b }
section
variable {prog : Program} {w : World} {A : Around} {s : Shared}
theorem code_ba_new {Q : Value → Shared → Prop} (h : Q (.ref s.heap.objs.size) { s with heap := s.heap.push (baObj #[]) }) :
    codeAny (model prog w) A (.call (.builtin "bytearray.__new__") ⟨[.type "bytearray"], []⟩) (wants Q E0) s := by
  refine codeAny_of_tree ?_
  show wpAny _ A.in1 (do checkBuiltinCall "bytearray.__new__" ⟨[.type "bytearray"], []⟩; again (.builtin "bytearray.__new__" ⟨[.type "bytearray"], []⟩)) _ _ s
  refine wpAny_bind (wpAny_of_eq ba_newCall (wpAny_pure ⟨plainId_quiet ba_plain_new _, codeAny_builtin_stack ba_entry_new rfl fun p st => ?_⟩))
  rw [Around.under_plainId ba_plain_new _]
  have hsub := ba_sub
  have hown := ba_owner
  obtain ⟨hp, g, d, tk, os⟩ := s
  simp only [hown]
  wp_walk
  exact h
end
end Mine
end

section
open PySem PySem.W PySem.Spec PySem.Calls PyProof.Rows PyProof.V
namespace Mine
section
variable {prog : Program} {w : World} {A : Around} {s : Shared}
theorem wpC_if_false {α : Type} {M : Model} {c : Bool} {a b : Sem α} {Q : α → Shared → Prop} (hc : c = false) (h : wpC M A b Q s) : wpC M A (if c = true then a else b) Q s := by
  subst hc; exact h
theorem wpC_if_true {α : Type} {M : Model} {c : Bool} {a b : Sem α} {Q : α → Shared → Prop} (hc : c = true) (h : wpC M A a Q s) : wpC M A (if c = true then a else b) Q s := by
  subst hc; exact h

theorem wpC_specialOf {M : Model} {v : Value} {T : String} {name : PySem.Str} {r : Option Value} {Q : Option Value → Shared → Prop} (hT : s.TypeIs v T) (h : typeLookup (.type T) name = pure r) (hQ : Q r s) : wpC M A (specialOf v name) Q s := wpC_of_any (wpAny_specialOf hT h hQ)
theorem wpC_of_eq {α : Type} {M : Model} {t : Sem α} {a : α} {Q : α → Shared → Prop} (e : t = pure a) (h : Q a s) : wpC M A t Q s := wpC_of_any (wpAny_of_eq e h)
theorem wpC_rule {M : Model} {tag : String} {Q : Unit → Shared → Prop} (h : Q () s) : wpC M A (rule tag) Q s := wpC_of_any (wpAny_rule h)

theorem ownRelease_ba {M : Model} {a : Addr} {E : Value → Shared → Prop} {Q : Bool → Shared → Prop} (hT : s.TypeIs (.ref a) "bytearray") (h : Q false s) : wpAny M A (Builtin.Bytes.ownRelease (.ref a)) Q E s := by
  unfold Builtin.Bytes.ownRelease Builtin.Bytes.slotIsOwn
  refine wpAny_bind (wpAny_bind (wpAny_specialOf hT ba_release ?_))
  dsimp only
  refine bm_if_false (by decide +kernel) ?_
  have e : ("bytearray.__release_buffer__".dropRight ("__release_buffer__".length + 1)) = "bytearray" := by decide +kernel
  rw [e]
  refine wpAny_isInstance hT ba_sub ?_
  exact wpAny_pure h

theorem exportsOf_ba {M : Model} {a : Addr} {b : Array UInt8} {E : Value → Shared → Prop} {Q : Nat → Shared → Prop} (ho : s.heap.get? a = some (baObj b)) (h : Q 0 s) : wpAny M A (Builtin.Bytes.exportsOf (.ref a)) Q E s := by
  unfold Builtin.Bytes.exportsOf
  exact wpAny_bind (wpAny_load ho (wpAny_pure h))

theorem payload_ba {M : Model} {a : Addr} {b : Array UInt8} {E : Value → Shared → Prop} {Q : Array UInt8 → Shared → Prop} (ho : s.heap.get? a = some (baObj b)) (h : Q b s) : wpAny M A (Builtin.Bytes.payload (.ref a)) Q E s := by
  unfold Builtin.Bytes.payload Builtin.Bytes.payload?
  exact wpAny_bind (wpAny_bind (wpAny_load ho (wpAny_pure (wpAny_pure h))))

theorem wpC_mapBytearray {a : Addr} {b : Array UInt8} {f : Array UInt8 → Array UInt8} {Q : Unit → Shared → Prop} {M : Model} {E : Value → Shared → Prop} (ho : s.heap.get? a = some (baObj b)) (hz : (f b).size ≤ sizeLine)
    (h : ∀ h', h'.get? a = some (baObj (f b)) → Heap.SameBut a s.heap h' → Q () { s with heap := h' }) : wpAny M A (Builtin.Bytes.write (.ref a) f) Q E s := by
  show wpAny _ _ (updateBytearray a f) _ _ _
  unfold updateBytearray
  refine wpAny_bind (wpAny_load ho ?_)
  show wpAny _ _ (update a (Obj.mapBytearray f) >>= fun _ => lookBehind a) _ _ _
  refine wpAny_bind (wpAny_update ho ?_)
  have h2 : (s.heap.update a (Obj.mapBytearray f)).get? a = some (baObj (f b)) := Heap.get?_update_self (Obj.mapBytearray f) ho rfl
  refine wpAny_lookBehind h2 ?_ (h _ h2 (Heap.SameBut.update ..))
  show (if (f b).size > sizeLine then some "bytearray:memory" else none) = none
  rw [if_neg (Nat.not_lt.mpr hz)]

theorem init_ba {a : Addr} {Q : Fin → Shared → Prop} (ho : s.heap.get? a = some (baObj #[]))
    (h : ∀ h', h'.get? a = some (baObj #[]) → Heap.SameBut a s.heap h' → Q (.done (.ret .none)) { s with heap := h' }) : wpC (model prog w) A (Builtin.«bytearray.__init__» ⟨[.ref a], []⟩) Q s := by
  have hT : s.TypeIs (.ref a) "bytearray" := ⟨_, ho, rfl⟩
  unfold Builtin.«bytearray.__init__»
  dsimp only
  refine wpC_then (ownRelease_ba hT ?_)
  refine wpC_if_false rfl ?_
  refine wpC_bind (wpC_of_eq (a := [none, none, none]) (by kernel_rfl) ?_)
  dsimp only
  refine wpC_bind (wpC_of_eq (a := ()) rfl ?_)
  refine wpC_bind (wpC_of_eq (a := ()) rfl ?_)
  unfold orM
  refine wpC_bind (wpC_bind (wpC_exported ?_))
  dsimp only [toBool]
  refine wpC_then (exportsOf_ba ho (wpC_pure ?_))
  refine wpC_if_false rfl ?_
  refine wpC_then (wpC_mapBytearray ho (Nat.zero_le _) fun h' e1 e2 => ?_)
  exact wpC_pure (h h' e1 e2)

theorem codeC_builtin_at {id : String} {args : Args} {b : Builtin} {R : Flow → Shared → Prop} (ok : holders.contains id = false) (hb : entryFor table id = some b)
    (h : wpC (model prog w) (A.under (.builtin id args)) (b args) (fun fin s' => match fin with | .done f => R f s' | .again c' => c'.quiet = true ∧ codeC (model prog w) A c' R s') s) : codeC (model prog w) A (.builtin id args) R s := by
  refine codeC_of_tree (by show (!holders.contains id) = true; rw [ok]; rfl) ?_
  show wpC _ _ (match entryFor table id with | some b => b args | none => unsupported ((withoutEnding? id "#data").getD id)) _ s
  rw [hb]; exact h

theorem call_ba {Q : Value → Shared → Prop} (h : ∀ h', (∀ b o, s.heap.get? b = some o → h'.get? b = some o) → h'.get? s.heap.objs.size = some (baObj #[]) → Q (.ref s.heap.objs.size) { s with heap := h' }) :
    wpC (model prog w) A (call (.type "bytearray") []) Q s := by
  obtain ⟨c, tl, hmro⟩ := ba_called.mro
  have hmade := ba_called.made
  have hsub := ba_called.sub
  refine wpC_call (codeC_of_tree rfl ?_)
  show wpC _ _ (callAny (.type "bytearray") _) _ _
  refine wpC_pure ⟨Code.quiet_builtin _ (by decide +kernel), codeC_builtin_at (by decide +kernel) F.entry_type_call ?_⟩
  rw [Around.under_plain (weight_type_call_type "bytearray" [] []) (units_type_call_type "bytearray" [] [])]
  unfold Builtin.«type.__call__»
  dsimp only
  refine wpC_if_false ba_called.notType ?_
  refine wpC_if_false ba_called.canCreate ?_
  refine wpC_bind (wpC_of_eq ba_typeCall ?_)
  refine wpC_bind (wpC_of_eq hmro ?_)
  refine wpC_if_false rfl ?_
  refine wpC_bind (wpC_of_eq hmade ?_)
  dsimp only
  refine wpC_bind (wpC_pure ?_)
  refine wpC_bind (wpC_holding (wpC_call (codeC_of_any (codeAny_mono (code_ba_new (Q := fun v s' => v = .ref s.heap.objs.size ∧ s' = { s with heap := s.heap.push (baObj #[]) }) ⟨rfl, rfl⟩) fun r s₁ hr => ?_))))
  rcases r with e | (v | _ | _ | _)
  · exact hr.elim
  all_goals try exact hr.elim
  obtain ⟨rfl, rfl⟩ := hr
  refine ⟨_, rfl, _, rfl, ?_⟩
  have ho : (s.heap.push (baObj #[])).get? s.heap.objs.size = some (baObj #[]) := Heap.get?_push_size _ rfl
  have hT : Shared.TypeIs { s with heap := s.heap.push (baObj #[]) } (.ref s.heap.objs.size) "bytearray" := ⟨_, ho, rfl⟩
  refine wpC_then (wpAny_isInstance hT hsub ?_)
  refine wpC_if_false rfl ?_
  refine wpC_bind (wpC_holding ?_)
  unfold callSpecial?
  refine wpC_bind (wpC_specialOf hT ba_slot_init.lookup ?_)
  dsimp only
  refine wpC_holding ?_
  rw [ba_slot_init.bind]
  refine wpC_bind (wpC_pure ?_)
  dsimp only
  refine wpC_bind (wpC_call (codeC_call_builtin ba_plain_init (by decide +kernel) ba_entry_init (ba_slot_init.check _ _ _ _ _ _ _ _ hT (by unfold argsOk; kernel_rfl) (init_ba ho fun h' e1 e2 => ⟨_, rfl, ?_⟩))))
  refine wpC_pure ?_
  dsimp only
  refine wpC_if_false rfl ?_
  refine wpC_pure ?_
  exact ⟨_, rfl, h h' (fun b o e => e2.extBut b o (Nat.ne_of_lt (Heap.lt_size e)) (Heap.get?_push_of_some _ e)) e1⟩
end
end Mine
end

section
open PySem PySem.W PySem.Spec PySem.Calls PyProof.Rows PyProof.V
namespace Mine
theorem by_bytes : typeLookup (.type "bytes") "__bytes__" = pure (some (.builtin "bytes.__bytes__")) := by rw [typeLookup_type, builtinLookup_eq_fast]; kernel_rfl
theorem ba_getattribute : typeLookup (.type "bytearray") "__getattribute__" = pure (some (.builtin "bytearray.__getattribute__")) := by rw [typeLookup_type, builtinLookup_eq_fast]; kernel_rfl
theorem ba_nogetattr : typeLookup (.type "bytearray") "__getattr__" = pure none := by rw [typeLookup_type, builtinLookup_eq_fast]; kernel_rfl
theorem ba_typeOf_append : typeOf (.builtin "bytearray.append") = pure (.type "method_descriptor") := by kernel_rfl
theorem ba_typeOf_extend : typeOf (.builtin "bytearray.extend") = pure (.type "method_descriptor") := by kernel_rfl
section
variable {prog : Program} {w : World} {A : Around} {s : Shared}
theorem append_ba {a : Addr} {b : Array UInt8} {n : Int} {t : Tok} {Q : Value → Shared → Prop} (ho : s.heap.get? a = some (baObj b)) (hn : 0 ≤ n ∧ n < 256) (hz : b.size + 1 ≤ sizeLine)
    (h : ∀ h', h'.get? a = some (baObj (b.push n.toNat.toUInt8)) → Heap.SameBut a s.heap h' → Q .none { s with heap := h' }) :
    wpC (model prog w) A (call (.builtin "bytearray.append") [.ref a, .int n t]) Q s := by
  have hT : s.TypeIs (.ref a) "bytearray" := ⟨_, ho, rfl⟩
  refine wpC_call (codeC_call_builtin ba_plain_append (by decide +kernel) ba_entry_append (ba_slot_append.check _ _ _ _ _ _ _ _ hT (by unfold argsOk; kernel_rfl) ?_))
  unfold Builtin.«bytearray.append»
  refine wpC_bind (wpC_of_eq (a := (.ref a, .int n t)) rfl ?_)
  dsimp only
  refine wpC_bind ?_
  unfold Builtin.Bytes.byteValue
  refine wpC_bind (wpC_of_eq (rfl : asIndex (.int n t) = pure n) ?_)
  refine wpC_if_false (by simp only [Bool.or_eq_false_iff, decide_eq_false_iff_not]; lia) ?_
  refine wpC_pure ?_
  refine wpC_bind (wpC_checkResize ho rfl ?_)
  refine wpC_then (wpC_mapBytearray ho (by rw [Array.size_push]; exact hz) fun h' e1 e2 => ?_)
  exact wpC_pure ⟨_, rfl, h h' e1 e2⟩

theorem slotOwn_bytes {M : Model} {c : Array UInt8} {t : Tok} {E : Value → Shared → Prop} {Q : Bool → Shared → Prop} (h : Q true s) : wpAny M A (Builtin.Bytes.slotIsOwn (.bytes c t) "__buffer__") Q E s := by
  have hT : s.TypeIs (.bytes c t) "bytes" := PySem.W.typeIs_bytes _ _ _
  unfold Builtin.Bytes.slotIsOwn
  refine wpAny_bind (wpAny_specialOf hT by_buffer ?_)
  dsimp only
  refine bm_if_false (by decide +kernel) ?_
  have e : ("bytes.__buffer__".dropRight ("__buffer__".length + 1)) = "bytes" := by decide +kernel
  rw [e]
  exact wpAny_isInstance hT by_sub h
theorem ownRelease_bytes {M : Model} {c : Array UInt8} {t : Tok} {E : Value → Shared → Prop} {Q : Bool → Shared → Prop} (h : Q false s) : wpAny M A (Builtin.Bytes.ownRelease (.bytes c t)) Q E s := by
  have hT : s.TypeIs (.bytes c t) "bytes" := PySem.W.typeIs_bytes _ _ _
  unfold Builtin.Bytes.ownRelease Builtin.Bytes.slotIsOwn
  exact wpAny_bind (wpAny_bind (wpAny_specialOf hT by_release (wpAny_pure (wpAny_pure h))))
theorem buffer_bytes {M : Model} {id : String} {full : Bool} {c : Array UInt8} {t : Tok} {E : Value → Shared → Prop} {Q : Option (Array UInt8) → Shared → Prop} (h : Q (some c) s) : wpAny M A (Builtin.Bytes.buffer? id (.bytes c t) full) Q E s := by
  have hT : s.TypeIs (.bytes c t) "bytes" := PySem.W.typeIs_bytes _ _ _
  unfold Builtin.Bytes.buffer?
  refine wpAny_bind (wpAny_specialOf hT by_buffer ?_)
  dsimp only
  refine wpAny_bind (slotOwn_bytes ?_)
  refine bm_if_false rfl ?_
  refine wpAny_bind (wpAny_specialOf hT by_buffer ?_)
  try dsimp only
  refine wpAny_bind (ownRelease_bytes ?_)
  refine bm_if_false rfl ?_
  exact wpAny_bind (wpAny_bind (wpAny_pure (wpAny_pure (wpAny_pure h))))

theorem extend_ba {a : Addr} {b c : Array UInt8} {t : Tok} {Q : Value → Shared → Prop} (ho : s.heap.get? a = some (baObj b)) (hz : (b ++ c).size ≤ sizeLine)
    (h : ∀ h', h'.get? a = some (baObj (b ++ c)) → Heap.SameBut a s.heap h' → Q .none { s with heap := h' }) :
    wpC (model prog w) A (call (.builtin "bytearray.extend") [.ref a, .bytes c t]) Q s := by
  have hT : s.TypeIs (.ref a) "bytearray" := ⟨_, ho, rfl⟩
  have hT2 : s.TypeIs (.bytes c t) "bytes" := PySem.W.typeIs_bytes _ _ _
  refine wpC_call (codeC_call_builtin ba_plain_extend (by decide +kernel) ba_entry_extend (ba_slot_extend.check _ _ _ _ _ _ _ _ hT (by unfold argsOk; kernel_rfl) ?_))
  unfold Builtin.«bytearray.extend»
  refine wpC_bind (wpC_of_eq (a := (.ref a, .bytes c t)) rfl ?_)
  dsimp only
  refine wpC_bind (wpC_specialOf hT2 by_buffer ?_)
  refine wpC_if_true rfl ?_
  refine wpC_bind (wpC_rule ?_)
  refine wpC_then (payload_ba ho ?_)
  refine wpC_bind ?_
  unfold Builtin.Bytes.takeBufferQuiet?
  refine wpC_bind (wpC_of_any (wpAny_attempt ?_))
  unfold Builtin.Bytes.takeBuffer?
  refine wpAny_bind (wpAny_specialOf hT2 by_buffer ?_)
  dsimp only
  refine wpAny_bind (slotOwn_bytes ?_)
  refine bm_if_false rfl ?_
  refine wpAny_bind (wpAny_specialOf hT2 by_buffer ?_)
  try dsimp only
  refine wpAny_bind (buffer_bytes (wpAny_pure ?_))
  refine wpC_pure ?_
  dsimp only [Option.map]
  refine wpC_if_true rfl ?_
  have main : wpC (model prog w) A.in1 (if (!c.isEmpty) = true then Builtin.Bytes.checkResize (.ref a) >>= fun _ => (Builtin.Bytes.write (.ref a) (· ++ c) >>= fun _ => ret .none) else Builtin.Bytes.write (.ref a) (· ++ c) >>= fun _ => ret .none)
      (fun fin s' => ∃ h', fin = .done (.ret .none) ∧ s' = { s with heap := h' } ∧ h'.get? a = some (baObj (b ++ c)) ∧ Heap.SameBut a s.heap h') s := by
    have fin : wpC (model prog w) A.in1 (Builtin.Bytes.write (.ref a) (· ++ c) >>= fun _ => ret .none) (fun fin s' => ∃ h', fin = .done (.ret .none) ∧ s' = { s with heap := h' } ∧ h'.get? a = some (baObj (b ++ c)) ∧ Heap.SameBut a s.heap h') s :=
      wpC_then (wpC_mapBytearray ho hz fun h' e1 e2 => wpC_pure ⟨h', rfl, rfl, e1, e2⟩)
    cases hc : c.isEmpty with
    | true => exact fin
    | false => exact wpC_bind (wpC_checkResize ho rfl fin)
  refine wpC_mono (show wpC (model prog w) A.in1 _ _ _ from main) ?_
  rintro fin s' ⟨h', rfl, rfl, e1, e2⟩
  exact ⟨_, rfl, h h' e1 e2⟩

theorem slotOwn_ba {M : Model} {a : Addr} {E : Value → Shared → Prop} {Q : Bool → Shared → Prop} (hT : s.TypeIs (.ref a) "bytearray") (h : Q true s) : wpAny M A (Builtin.Bytes.slotIsOwn (.ref a) "__buffer__") Q E s := by
  unfold Builtin.Bytes.slotIsOwn
  refine wpAny_bind (wpAny_specialOf hT ba_buffer ?_)
  dsimp only
  refine bm_if_false (by decide +kernel) ?_
  have e : ("bytearray.__buffer__".dropRight ("__buffer__".length + 1)) = "bytearray" := by decide +kernel
  rw [e]
  exact wpAny_isInstance hT ba_sub h
theorem buffer_ba {M : Model} {id : String} {full : Bool} {a : Addr} {b : Array UInt8} {E : Value → Shared → Prop} {Q : Option (Array UInt8) → Shared → Prop} (ho : s.heap.get? a = some (baObj b)) (h : Q (some b) s) : wpAny M A (Builtin.Bytes.buffer? id (.ref a) full) Q E s := by
  have hT : s.TypeIs (.ref a) "bytearray" := ⟨_, ho, rfl⟩
  unfold Builtin.Bytes.buffer?
  refine wpAny_bind (wpAny_specialOf hT ba_buffer ?_)
  dsimp only
  refine wpAny_bind (slotOwn_ba hT ?_)
  refine bm_if_false rfl ?_
  refine wpAny_bind (wpAny_specialOf hT ba_buffer ?_)
  try dsimp only
  refine wpAny_bind (ownRelease_ba hT ?_)
  refine bm_if_false rfl ?_
  exact wpAny_bind (payload_ba ho (wpAny_pure h))

theorem new_bytes_ba {a : Addr} {b : Array UInt8} {Q : Value → Shared → Prop} {E : Value → Shared → Prop} (ho : s.heap.get? a = some (baObj b)) (hz : b.size ≤ sizeLine) (hQ : ∀ t k, Q (.bytes b t) { s with toks := k }) :
    codeAny (model prog w) A (.call (.builtin "bytes.__new__") ⟨[.type "bytes", .ref a], []⟩) (wants Q E) s := by
  refine codeAny_of_tree ?_
  show wpAny _ A.in1 (do checkBuiltinCall "bytes.__new__" ⟨[.type "bytes", .ref a], []⟩; again (.builtin "bytes.__new__" ⟨[.type "bytes", .ref a], []⟩)) _ _ s
  refine wpAny_bind (wpAny_of_eq (F.bm_newCall _) (wpAny_pure ⟨plainId_quiet F.bm_plain _, codeAny_builtin F.bm_entry ?_⟩))
  rw [Around.under_plainId F.bm_plain _]
  have hT : s.TypeIs (.ref a) "bytearray" := ⟨_, ho, rfl⟩
  unfold Builtin.«bytes.__new__»
  refine wpAny_bind (wpAny_of_eq (a := true) rfl ?_)
  refine bm_if_false rfl ?_
  refine wpAny_bind (wpAny_of_eq F.bm_sub ?_)
  refine bm_if_false rfl ?_
  refine wpAny_bind (wpAny_of_eq (F.bm_bind _) ?_)
  refine wpAny_bind (wpAny_of_eq (a := ()) rfl ?_)
  refine wpAny_bind (wpAny_of_eq (a := ()) rfl ?_)
  refine bm_if_false rfl ?_
  refine wpAny_bind (wpAny_specialOf hT ba_nobytes ?_)
  refine wpAny_bind (wpAny_bind ?_)
  show wpAny _ _ (load a >>= _) _ _ _
  refine wpAny_bind (wpAny_load ho ?_)
  refine wpAny_pure (wpAny_pure ?_)
  refine bm_if_false rfl ?_
  refine wpAny_bind (wpAny_specialOf hT ba_noindex ?_)
  refine bm_if_true rfl ?_
  first
    | show wpAny _ _ (Builtin.Bytes.buffer? "bytes.__new__" (.ref a) true >>= _) _ _ _
    | (refine wpAny_bind ?_; show wpAny _ _ (Builtin.Bytes.buffer? "bytes.__new__" (.ref a) true >>= _) _ _ _)
  refine wpAny_bind (buffer_ba ho ?_)
  dsimp only
  refine wpAny_bind (wpAny_rule ?_)
  refine wpAny_bind (wpAny_mkBytes ?_ hz)
  show wpAny _ _ (if (Value.type "bytes" == Value.type "bytes") = true then _ else _) _ _ _
  refine bm_if_true (by decide) ?_
  first
    | exact wpAny_pure (hQ _ _)
    | exact wpAny_bind (wpAny_pure (wpAny_pure (hQ _ _)))
    | exact wpAny_bind (wpAny_pure (wpAny_pure (wpAny_pure (hQ _ _))))

theorem new_bytes_bytes {b : Array UInt8} {t : Tok} {Q : Value → Shared → Prop} {E : Value → Shared → Prop} (hQ : Q (.bytes b t) s) :
    codeAny (model prog w) A (.call (.builtin "bytes.__new__") ⟨[.type "bytes", .bytes b t], []⟩) (wants Q E) s := by
  refine codeAny_of_tree ?_
  show wpAny _ A.in1 (do checkBuiltinCall "bytes.__new__" ⟨[.type "bytes", .bytes b t], []⟩; again (.builtin "bytes.__new__" ⟨[.type "bytes", .bytes b t], []⟩)) _ _ s
  refine wpAny_bind (wpAny_of_eq (F.bm_newCall _) (wpAny_pure ⟨plainId_quiet F.bm_plain _, codeAny_builtin F.bm_entry ?_⟩))
  rw [Around.under_plainId F.bm_plain _]
  have hT : s.TypeIs (.bytes b t) "bytes" := PySem.W.typeIs_bytes _ _ _
  unfold Builtin.«bytes.__new__»
  refine wpAny_bind (wpAny_of_eq (a := true) rfl ?_)
  refine bm_if_false rfl ?_
  refine wpAny_bind (wpAny_of_eq F.bm_sub ?_)
  refine bm_if_false rfl ?_
  refine wpAny_bind (wpAny_of_eq (F.bm_bind _) ?_)
  refine wpAny_bind (wpAny_of_eq (a := ()) rfl ?_)
  refine wpAny_bind (wpAny_of_eq (a := ()) rfl ?_)
  refine bm_if_false rfl ?_
  refine wpAny_bind (wpAny_specialOf hT by_bytes ?_)
  dsimp only
  refine wpAny_bind (wpAny_rule ?_)
  refine wpAny_bind (wpAny_typeOf hT ?_)
  refine bm_if_true (by decide) ?_
  show wpAny _ _ (if (Value.type "bytes" == Value.type "bytes") = true then _ else _) _ _ _
  refine bm_if_true (by decide) ?_
  first
    | exact wpAny_pure hQ
    | exact wpAny_bind (wpAny_pure (wpAny_pure hQ))
    | exact wpAny_bind (wpAny_pure (wpAny_pure (wpAny_pure hQ)))

theorem call_bytes_ba {a : Addr} {b : Array UInt8} {Q : Value → Shared → Prop} {E : Value → Shared → Prop} (ho : s.heap.get? a = some (baObj b)) (hz : b.size ≤ sizeLine) (hQ : ∀ t k, Q (.bytes b t) { s with toks := k }) :
    wpAny (model prog w) A (call (.type "bytes") [.ref a]) Q E s := by
  refine callType_codes (Q₁ := fun obj s₁ => s₁.TypeIs obj "bytes" ∧ Q obj s₁) F.bm_called (F.bm_typeCall _) F.entry_object_init
    (new_bytes_ba ho hz fun t k => ⟨PySem.W.typeIs_bytes _ _ _, hQ t k⟩) fun obj s₁ h₁ => ?_
  exact ⟨h₁.1, F.args_object_init_2 obj _, object_init_meets F.bm_called.init.lookup F.bm_called.made (by decide) prog w A.in1 _ s₁ ⟨h₁.1, rfl, h₁.2⟩⟩
theorem call_bytes_bytes {b : Array UInt8} {t : Tok} {Q : Value → Shared → Prop} {E : Value → Shared → Prop} (hQ : Q (.bytes b t) s) :
    wpAny (model prog w) A (call (.type "bytes") [.bytes b t]) Q E s := by
  refine callType_codes (Q₁ := fun obj s₁ => s₁.TypeIs obj "bytes" ∧ Q obj s₁) F.bm_called (F.bm_typeCall _) F.entry_object_init
    (new_bytes_bytes ⟨PySem.W.typeIs_bytes _ _ _, hQ⟩) fun obj s₁ h₁ => ?_
  exact ⟨h₁.1, F.args_object_init_2 obj _, object_init_meets F.bm_called.init.lookup F.bm_called.made (by decide) prog w A.in1 _ s₁ ⟨h₁.1, rfl, h₁.2⟩⟩

theorem getMethod_ba {M : Model} {a : Addr} {b : Array UInt8} {name : PySem.Str} {id : String} {pl : Sem Bool} {Q : Value × List Value → Shared → Prop} {E : Value → Shared → Prop} (ho : s.heap.get? a = some (baObj b))
    (hl : typeLookup (.type "bytearray") name = pure (some (.builtin id))) (htf : typeOf (.builtin id) = pure (.type "method_descriptor"))
    (h : Q (.builtin id, [.ref a]) s) : wpAny M A (getMethod (.ref a) name pl) Q E s := by
  have hT : s.TypeIs (.ref a) "bytearray" := ⟨_, ho, rfl⟩
  unfold getMethod
  refine wpAny_bind (wpAny_specialOf hT ba_getattribute ?_)
  refine bm_if_false (by decide +kernel) ?_
  refine wpAny_bind (wpAny_specialOf hT ba_nogetattr ?_)
  refine bm_if_false rfl ?_
  refine wpAny_bind (wpAny_specialOf hT hl ?_)
  refine wpAny_bind (wpAny_of_eq htf ?_)
  refine bm_if_false (by decide) ?_
  dsimp only
  refine wpAny_bind (wpAny_loadPart ho ?_)
  dsimp only
  exact wpAny_bind (wpAny_rule (wpAny_pure h))
end
end Mine
end

section
open PySem PySem.W PySem.Spec PySem.Calls PyProof.Rows PyProof.V
namespace Mine
/-- a contract of a def that needs a clean stack, raises nothing and changes nothing it was handed -/
def ConS (prog : Program) (w : World) (f : Addr) (vs : List Value) (need : Nat) (led : Led) (Ret : Led → Value → Prop) : Prop :=
  ∀ (dp un : Nat) (gd : Option (List Code)) (env : Env) (outer : List Env) (frs : Led) (h₀ : Heap) (L : Addr) (m : Nm) (s : Shared)
    (p : Program) (loose : List PySem.Str) (mean : ExcName → Option Value) (mg mb : Nm) (R : Flow → Shared → Prop),
    Cal w dp un env outer frs h₀ L m led need s p loose mean mg mb →
    (∀ r tl h' tk', Fr h₀ L h' m → News h₀ L h' (tl ++ led) → (∀ q ∈ tl, Tup q) → Ret tl r → R (.ret r) { s with heap := h', toks := tk' }) →
    codeC (model prog w) (top dp un gd (env :: outer)) (.call (.ref f) ⟨vs, []⟩) R s

section
variable {prog : Program} {w : World} {dp un need : Nat} {gd : Option (List Code)} {env : Env} {outer : List Env} {frs led : Led} {h₀ : Heap} {L : Addr} {m : Nm} {s : Shared}
  {p : Program} {loose : List PySem.Str} {mean : ExcName → Option Value} {mg mb : Nm}

theorem ConS.of {f : Addr} {vs : List Value} {Ret : Led → Value → Prop} (C : Con prog w f vs need led Ret False) : ConS prog w f vs need led Ret := by
  intro dp un gd env outer frs h₀ L m s p loose mean mg mb R K ok
  exact codeC_of_any (C dp un gd env outer frs h₀ L m s p loose mean mg mb (fun r s' => ∃ f, r = .ok f ∧ R f s') K
    (fun r tl h' tk' a b c d => ⟨_, rfl, ok r tl h' tk' a b c d⟩) (fun x => x.elim))

theorem ConS.use {f : Addr} {vs : List Value} {Ret : Led → Value → Prop} {Q : Value → Shared → Prop} (C : ConS prog w f vs need led Ret)
    (F : Fr h₀ L s.heap m) (N : News h₀ L s.heap led) (X : (TopL.heap_1 w.params).In h₀) (T : Top p loose mean mg mb h₀) (Fs : TI.Frs outer frs) (Fi : ∀ p ∈ frs, p ∈ led)
    (hf : env.frame = some L) (hk : env.scope.kind = .function) (hd : dp + need < 1000) (hu : un + 8 * need < 9900)
    (ok : ∀ r tl h' tk', Fr h₀ L h' m → News h₀ L h' (tl ++ led) → (∀ q ∈ tl, Tup q) → Ret tl r → Q r { s with heap := h', toks := tk' }) :
    wpC (model prog w) (top dp un gd (env :: outer)) (call (.ref f) vs) Q s :=
  wpC_call (C dp un gd env outer frs h₀ L m s p loose mean mg mb _ ⟨F, X, N, T, Fs, Fi, hf, hk, hd, hu⟩ fun r tl h' tk' a b c d => ⟨r, rfl, ok r tl h' tk' a b c d⟩)
theorem ConS.useV {f : Addr} {vs : List Value} {val : Tok → Value} {Q : Value → Shared → Prop} (C : ConS prog w f vs need led (fun tl r => tl = [] ∧ ∃ t, r = val t))
    (F : Fr h₀ L s.heap m) (N : News h₀ L s.heap led) (X : (TopL.heap_1 w.params).In h₀) (T : Top p loose mean mg mb h₀) (Fs : TI.Frs outer frs) (Fi : ∀ p ∈ frs, p ∈ led)
    (hf : env.frame = some L) (hk : env.scope.kind = .function) (hd : dp + need < 1000) (hu : un + 8 * need < 9900)
    (ok : ∀ t h' tk', Fr h₀ L h' m → News h₀ L h' led → Q (val t) { s with heap := h', toks := tk' }) :
    wpC (model prog w) (top dp un gd (env :: outer)) (call (.ref f) vs) Q s :=
  ConS.use C F N X T Fs Fi hf hk hd hu (fun r tl h' tk' F' N' _ hr => by obtain ⟨rfl, t, rfl⟩ := hr; exact ok t h' tk' F' N')

/-- what stands when a frame is opened over the caller's, and what the caller has again at its return -/
theorem Cal.into (C : Cal w dp un env outer frs h₀ L m led need s p loose mean mg mb) {h₁ : Heap} (hk₁ : ∀ b o, s.heap.get? b = some o → h₁.get? b = some o) :
    ∃ led' frs', News h₀ s.heap.objs.size h₁ led' ∧ (∀ q ∈ led, q ∈ led') ∧ TI.Frs (env :: outer) frs' ∧ (∀ p ∈ frs', p ∈ led') ∧ (∀ p ∈ led', p.1 < s.heap.objs.size) ∧
      (∀ tl h' m', Fr h₀ s.heap.objs.size h' m' → News h₀ s.heap.objs.size h' (tl ++ led') → (∀ q ∈ tl, Tup q) → Fr h₀ L h' m ∧ News h₀ L h' (tl ++ led)) := by
  refine hold (fun Ph hPh => ?_)
  obtain ⟨F, X, N, T, Fs, Fi, hf, hke, hd, hu⟩ := C
  refine hPh ?_
  clear hPh
  refine hold (fun Ph hPh => ?_)
  obtain ⟨oL, es, ep, hL, hLd, hLk⟩ := id F.ns
  refine hPh ?_
  clear hPh
  have hLn : h₀.get? L = none := by
    cases q : h₀.get? L with
    | none => rfl
    | some o => exact absurd (Nat.lt_of_lt_of_le (Heap.lt_size q) F.above) (Nat.lt_irrefl _)
  have ltL : ∀ p ∈ ((L, oL) :: led : Led), p.1 < s.heap.objs.size := fun p hp => by
    rcases List.mem_cons.mp hp with rfl | hp
    · exact Heap.lt_size hL
    · exact Heap.lt_size (N p hp).1
  refine ⟨(L, oL) :: led, (L, oL) :: frs, fun p hp => ⟨?_, Nat.ne_of_lt (ltL p hp), ?_⟩, fun q hq => .tail _ hq, ⟨by rw [hke]; decide, hf, ⟨es, ep, hLd⟩, Fs⟩, fun p hp => ?_, ltL, fun tl h' m' F' N' nd => ?_⟩
  · rcases List.mem_cons.mp hp with rfl | hp
    · exact hk₁ _ _ hL
    · exact hk₁ _ _ (N p hp).1
  · rcases List.mem_cons.mp hp with rfl | hp
    · exact hLn
    · exact (N p hp).2.2
  · rcases List.mem_cons.mp hp with rfl | hp
    · exact .head _
    · exact .tail _ (Fi p hp)
  · have e1 : h'.get? L = some oL := (N' (L, oL) (List.mem_append_right _ (.head _))).1
    refine ⟨⟨F.ns.at' fun o q => ?_, F'.keep, F.above⟩, fun p hp => ?_⟩
    · rw [hL] at q; cases q; exact e1
    · rcases List.mem_append.mp hp with hp | hp
      · refine ⟨(N' p (List.mem_append_left _ hp)).1, fun q => ?_, (N' p (List.mem_append_left _ hp)).2.2⟩
        have h1 := (N' p (List.mem_append_left _ hp)).1
        rw [q, e1] at h1
        exact (TI.notDict_ne (nd p hp).2 (by rw [← Option.some.inj h1]; exact hLd)).elim
      · exact ⟨(N' p (List.mem_append_right _ (.tail _ hp))).1, (N p hp).2.1, (N p hp).2.2⟩

theorem enterS {name qual : PySem.Str} {params : Arguments} {body : List Stmt} {scope : Scope} {dV kV doc pm cdv ct oc : Value} {an od : Option Addr} {osl : Array (Option Value)} {f : Addr} {args : Args} {binds : List (PySem.Str × Value)}
    {Ret : Led → Value → Prop} {R : Flow → Shared → Prop}
    (C : Cal w dp un env outer frs h₀ L m led need s p loose mean mg mb)
    (ok : ∀ r tl h' tk', Fr h₀ L h' m → News h₀ L h' (tl ++ led) → (∀ q ∈ tl, Tup q) → Ret tl r → R (.ret r) { s with heap := h', toks := tk' })
    (ho : (TopL.heap_1 w.params).lookup f = some ⟨oc, od, .func (fnOf name qual params body scope dV kV doc pm an cdv ct), osl⟩) (hcd : codeIn (TopL.heap_1 w.params) cdv qual = true)
    (hbind : BindsTo s (fnOf name qual params body scope dV kV doc pm an cdv ct) args binds) (hloc : ∀ y ∈ binds, scope.names.lookup y.1 = some .local)
    (hneed : 0 < need)
    (hco : scope.isCoroutine = false) (hgen : scope.isGenerator = false) (hk : scope.kind = .function) (hcell : ∀ x ∈ scope.names, x.2 ≠ .cell)
    (h : ∀ L' h₁ tk₁ led' frs' Qc, Fr h₀ L' h₁ (fun y => binds.reverse.lookup y) → News h₀ L' h₁ led' → (∀ q ∈ led, q ∈ led') → TI.Frs (env :: outer) frs' → (∀ p ∈ frs', p ∈ led') → (∀ p ∈ led', p.1 < L') →
      (∀ r tl h' m' tk', Fr h₀ L' h' m' → News h₀ L' h' (tl ++ led') → (∀ q ∈ tl, Tup q) → Ret tl r → Qc (.ret r) { s with heap := h', toks := tk' }) →
      wpC (model prog w) (top (dp + 1) (un + 3) gd (envOf qual scope L' f cdv :: env :: outer)) (execs body (envOf qual scope L' f cdv)) Qc { s with heap := h₁, toks := tk₁ }) :
    codeC (model prog w) (top dp un gd (env :: outer)) (.call (.ref f) args) R s := by
  refine codeC_call_function (fd := fnOf name qual params body scope dV kV doc pm an cdv ct) (body := body) (by show dp < 1000; have := C.hd; (exact ltz this)) ((C.X.keeps C.F.keep) _ _ ho) rfl hco hgen rfl (codeRec_of (C.X.keeps C.F.keep) hcd) (hbind _ _ _ _ ?_)
  refine wpAny_newFunctionEnv hcell hloc (fun h₁ hns hsb => ⟨(C.T.nolimit.keeps C.F.keep).fresh _ hsb, codeC_func ?_⟩) hk
  have hk₁ : ∀ b o, s.heap.get? b = some o → h₁.get? b = some o := fun b o e => hsb.extBut b o (Nat.ne_of_lt (Heap.lt_size e)) (Heap.get?_push_of_some _ e)
  refine hold (fun Ph hPh => ?_)
  obtain ⟨led', frs', N', hin, Fs', Fi', lt', back⟩ := C.into hk₁
  refine hPh ?_
  clear hPh
  have hsz : h₀.objs.size ≤ s.heap.objs.size := by
    refine hold (fun Ph hPh => ?_)
    obtain ⟨oL, _, _, hL, _⟩ := id C.F.ns
    refine hPh ?_
    clear hPh
    exact Nat.le_trans C.F.above (Nat.le_of_lt (Heap.lt_size hL))
  refine h _ _ _ led' frs' _ ⟨hns, fun b o e => hk₁ b o (C.F.keep b o e), hsz⟩ N' hin Fs' Fi' lt' fun r tl h' m' tk' F' N'' nd hr => ?_
  obtain ⟨a, b⟩ := back tl h' m' F' N'' nd
  exact ok r tl h' tk' a b nd hr

theorem enterSX {name qual : PySem.Str} {params : Arguments} {body : List Stmt} {scope : Scope} {dV kV doc pm cdv ct oc : Value} {an od : Option Addr} {osl : Array (Option Value)} {f : Addr} {args : Args} {binds : List (PySem.Str × Value)}
    {Ret : Led → Value → Prop} {R : Flow → Shared → Prop}
    (C : Cal w dp un env outer frs h₀ L m led need s p loose mean mg mb)
    (ok : ∀ r tl h' tk', Fr h₀ L h' m → News h₀ L h' (tl ++ led) → (∀ q ∈ tl, Tup q) → Ret tl r → R (.ret r) { s with heap := h', toks := tk' })
    (ho : (TopL.heap_1 w.params).lookup f = some ⟨oc, od, .func (fnOf name qual params body scope dV kV doc pm an cdv ct), osl⟩) (hcd : codeIn (TopL.heap_1 w.params) cdv qual = true)
    (hbind : BindsTo s (fnOf name qual params body scope dV kV doc pm an cdv ct) args binds)
    (hkind : (binds.all fun y => scope.names.lookup y.1 == some .local || scope.names.lookup y.1 == some .cell) = true)
    (hnd : ((cellsFrom 0 scope.names []).map (·.1)).Nodup)
    (hneed : 0 < need)
    (hco : scope.isCoroutine = false) (hgen : scope.isGenerator = false) (hk : scope.kind = .function)
    (h : ∀ L' h₁ tk₁ cells led' frs' Qc, Fr h₀ L' h₁ (bindL (envOfC qual scope L' f cdv).kindOf binds fun _ => none) → News h₀ L' h₁ (cells ++ led') → CellsAre (bindC (envOfC qual scope L' f cdv).kindOf binds fun _ => none) (cellsFrom (L' + 1) scope.names []) cells →
      (∀ q ∈ led, q ∈ led') → TI.Frs (env :: outer) frs' → (∀ p ∈ frs', p ∈ led') → (∀ p ∈ led', p.1 < L') →
      (∀ r tl h' m' tk', Fr h₀ L' h' m' → News h₀ L' h' (tl ++ led') → (∀ q ∈ tl, Tup q) → Ret tl r → Qc (.ret r) { s with heap := h', toks := tk' }) →
      wpC (model prog w) (top (dp + 1) (un + 3) gd (envOfC qual scope L' f cdv :: env :: outer)) (execs body (envOfC qual scope L' f cdv)) Qc { s with heap := h₁, toks := tk₁ }) :
    codeC (model prog w) (top dp un gd (env :: outer)) (.call (.ref f) args) R s := by
  refine codeC_call_function (fd := fnOf name qual params body scope dV kV doc pm an cdv ct) (body := body) (by show dp < 1000; have := C.hd; (exact ltz this)) ((C.X.keeps C.F.keep) _ _ ho) rfl hco hgen rfl (codeRec_of (C.X.keeps C.F.keep) hcd) (hbind _ _ _ _ ?_)
  refine wpAny_newFunctionEnv_cells hk (kindsX hkind _) fun env' he s' x => ?_
  subst he
  refine ⟨(C.T.nolimit.keeps C.F.keep).keeps x.toInCall.keep, codeC_func ?_⟩
  obtain ⟨h₁, tk, rfl, _⟩ := x.done
  have hk₁ := x.toInCall.keep
  obtain ⟨cells, NC, Y⟩ := Cl.news (h₀ := s.heap) (Nat.le_refl _) fun n c hm => ⟨x.cell n c (lookup_of_mem_nodup (cellsFrom_names scope.names 0 (s.heap.objs.size + 1) [] [] rfl ▸ hnd) hm), x.above n c hm⟩
  refine hold (fun Ph hPh => ?_)
  obtain ⟨led', frs', N', hin, Fs', Fi', lt', back⟩ := C.into hk₁
  refine hPh ?_
  clear hPh
  have hsz : h₀.objs.size ≤ s.heap.objs.size := by
    refine hold (fun Ph hPh => ?_)
    obtain ⟨oL, _, _, hL, _⟩ := id C.F.ns
    refine hPh ?_
    clear hPh
    exact Nat.le_trans C.F.above (Nat.le_of_lt (Heap.lt_size hL))
  refine h _ _ _ cells led' frs' _ ⟨x.toInCall.ns, fun b o e => hk₁ b o (C.F.keep b o e), hsz⟩ (fun p hp => ?_) Y hin Fs' Fi' lt' fun r tl h' m' tk' F' N'' nd hr => ?_
  · rcases List.mem_append.mp hp with hp | hp
    · refine ⟨(NC p hp).1, (NC p hp).2.1, ?_⟩
      cases q : h₀.get? p.1 with
      | none => rfl
      | some o => have := C.F.keep _ _ q; rw [(NC p hp).2.2] at this; cases this
    · exact N' p hp
  · obtain ⟨a, b⟩ := back tl h' m' F' N'' nd
    exact ok r tl h' tk' a b nd hr
end
end Mine
end

section
open PySem PySem.W PySem.Spec PySem.Calls PyProof.Rows PyProof.V
namespace Mine
section
variable {prog : Program} {w : World} {A : Around} {Q : Flow → Shared → Prop} {s : Shared} {env : Env} {h₀ : Heap} {L : Addr}
theorem ksw_whileC {σ : Type} {test : Expr} {body : List Stmt} {pos : Pos} {m₀ : Nm} (Ld : σ → Led) (ps : σ → List (PySem.Str × Value)) (Facts : σ → Prop) (stored : List PySem.Str) (P : σ → Prop) (μ : σ → Nat) (c₀ : σ)
    (F : Fr h₀ L s.heap m₀) (N : News h₀ L s.heap (Ld c₀)) (hf : Facts c₀) (hk : ∀ p ∈ ps c₀, m₀ p.1 = some p.2) (hp : P c₀)
    (turn : ∀ (c : σ) (u : Nm) h tk, Facts c → P c → Fr h₀ L h (kstB (fun z => if stored.contains z then u z else m₀ z) (ps c)) → News h₀ L h (Ld c) →
      wpAny (model prog w) A (isTrue test env (eval test env)) (fun b s₂ =>
        if b = true then wpC (model prog w) A (execs body env) (fun f s₃ => f = .next ∧ KswEnd h₀ L s Ld ps Facts stored m₀ P μ c s₃) s₂ else Q .next s₂) E0 { s with heap := h, toks := tk }) :
    wpC (model prog w) A (exec (.While test body [] pos) env) Q s := by
  refine wpC_While (codeC_whileLoop (fun n s' => ∃ c h tk m₁, s' = { s with heap := h, toks := tk } ∧ μ c = n ∧ Fr h₀ L h m₁ ∧ News h₀ L h (Ld c) ∧ Facts c ∧ (∀ p ∈ ps c, m₁ p.1 = some p.2) ∧ (∀ z, (∀ p ∈ ps c, z ≠ p.1) → stored.contains z = false → m₁ z = m₀ z) ∧ P c) ?_ (μ c₀) ⟨c₀, s.heap, s.toks, m₀, rfl, rfl, F, N, hf, hk, fun _ _ _ => rfl, hp⟩)
  intro n s' q2
  refine hold (fun Ph hPh => ?_)
  obtain ⟨c, h, tk, m₁, rfl, rfl, F₁, N₁, hf', h1, h2, hp'⟩ := q2
  refine hPh ?_
  clear hPh
  refine wpAny_mono (turn c m₁ h tk hf' hp' (ksw_fr h1 h2 F₁) N₁) (fun b s₂ p => ?_) fun _ _ x => x
  cases b with
  | false => simpa using p
  | true =>
    simp only [if_true] at p ⊢
    refine wpC_mono p fun f s₃ q => ?_
    refine hold (fun Ph hPh => ?_)
    obtain ⟨rfl, c', h', tk', m', news', rfl, F', N', hn, hf9, hk9, hr9, hp9, hm9⟩ := q
    refine hPh ?_
    clear hPh
    exact ⟨_, hm9, c', h', tk', m', rfl, rfl, F', fun p hp => N' p (hn p hp), hf9, hk9, hr9, hp9⟩

def ForEnd {σ : Type} (h₀ : Heap) (L : Addr) (s : Shared) (own : Led) (Ld : σ → Led) (ps : σ → List (PySem.Str × Value)) (stored : List PySem.Str) (m₀ : Nm) (J : σ → Prop) (s₃ : Shared) : Prop :=
  ∃ c' h' tk' m' news', s₃ = { s with heap := h', toks := tk' } ∧ Fr h₀ L h' m' ∧ News h₀ L h' news' ∧ (∀ p ∈ own, p ∈ news') ∧ (∀ p ∈ Ld c', p ∈ news') ∧ (∀ p ∈ ps c', m' p.1 = some p.2) ∧ (∀ z, (∀ p ∈ ps c', z ≠ p.1) → stored.contains z = false → m' z = m₀ z) ∧ J c'

theorem codeC_for {I : Addr} {fp wr : List Addr} {n : Nat} {P : Nat → Value → Prop} {St : Nat → Heap → Prop} (W : Walks prog w A I fp wr n P St) {σ : Type} {x : PySem.Str} {px : Pos} {body : List Stmt} {m₀ : Nm}
    (J : Nat → σ → Prop) (Ld : σ → Led) (ps : σ → List (PySem.Str × Value)) (stored : List PySem.Str) (c₀ : σ)
    (hx : env.kindOf x = some .local) (hpl : (env.scope.kind == .class || (env.scope.kind == .module && env.locals != env.globals)) = false) (hxs : stored.contains x = true)
    (hLf : env.locals ∉ fp) (hwr : ∀ b ∈ wr, h₀.get? b = none) (hnw : ∀ i c, J i c → ∀ p ∈ Ld c, p.1 ∉ wr)
    (st : St 0 s.heap) (F : Fr h₀ env.locals s.heap m₀) (N : News h₀ env.locals s.heap (Ld c₀)) (hk : ∀ p ∈ ps c₀, m₀ p.1 = some p.2) (h0 : J 0 c₀)
    (turn : ∀ i (c : σ) v (u : Nm) h tk own, i < n → P i v → J i c → (∀ p ∈ own, p.1 ∈ fp) →
      Fr h₀ env.locals h (fun y => if y = x then some v else kstB (fun z => if stored.contains z then u z else m₀ z) (ps c) y) → News h₀ env.locals h (own ++ Ld c) →
      wpC (model prog w) A (execs body env) (fun f s₃ => f = .next ∧ ForEnd h₀ env.locals s own Ld ps stored m₀ (J (i + 1)) s₃) { s with heap := h, toks := tk })
    (done : ∀ (c : σ) (u : Nm) h tk, J n c → Fr h₀ env.locals h (kstB (fun z => if stored.contains z then u z else m₀ z) (ps c)) → News h₀ env.locals h (Ld c) → Q .next { s with heap := h, toks := tk }) :
    codeC (model prog w) A (.forLoop (.Name x px) (.ref I) body [] env) Q s := by
  have hLw : env.locals ∉ wr := fun h => hLf (W.sub _ h)
  refine codeC_forLoop (fun k s' => ∃ i c h tk m₁, k = n - i ∧ i ≤ n ∧ s' = { s with heap := h, toks := tk } ∧ St i h ∧ Fr h₀ env.locals h m₁ ∧ News h₀ env.locals h (Ld c) ∧ (∀ p ∈ ps c, m₁ p.1 = some p.2) ∧ (∀ z, (∀ p ∈ ps c, z ≠ p.1) → stored.contains z = false → m₁ z = m₀ z) ∧ J i c) ?_ n
    ⟨0, c₀, s.heap, s.toks, m₀, (Nat.sub_zero n).symm, Nat.zero_le _, rfl, st, F, N, hk, fun _ _ _ => rfl, h0⟩
  intro k s' q2
  refine hold (fun Ph hPh => ?_)
  obtain ⟨i, c, h, tk, m₁, rfl, hi, rfl, st₁, F₁, N₁, h1, h2, hJ⟩ := q2
  refine hPh ?_
  clear hPh
  have keepF : ∀ h', (∀ b o, b ∉ wr → h.get? b = some o → h'.get? b = some o) → Fr h₀ env.locals h' m₁ ∧ News h₀ env.locals h' (Ld c) := fun h' hk' =>
    ⟨⟨F₁.ns.at' fun o e => hk' _ o hLw e, fun b o e => hk' b o (fun hb => by rw [hwr b hb] at e; cases e) (F₁.keep b o e), F₁.above⟩,
     fun p hp => ⟨hk' _ _ (hnw i c hJ p hp) (N₁ p hp).1, (N₁ p hp).2⟩⟩
  by_cases hin : i < n
  · refine W.item i _ _ _ hin st₁ fun v h' tk' hP st' hk' => ?_
    obtain ⟨F₂, N₂⟩ := keepF h' hk'
    dsimp only
    refine wpAny_assign_Name (wpAny_storeName_local hx F₂.ns (fun h'' hn hs => ?_) hpl)
    have F₃ : Fr h₀ env.locals h'' (fun y => if y = x then some v else m₁ y) := F₂.set hn hs
    have N₃ : News h₀ env.locals h'' (Ld c) := N₂.set hs
    have st₃ : St (i + 1) h'' := W.frame _ h' h'' st' fun b hb o e => (hs.2 b (fun q => hLf (q ▸ hb))).trans e
    have em : kstB (fun z => if stored.contains z then m₁ z else m₀ z) (ps c) = m₁ := by
      funext y
      refine kstB_eq h1 fun hn => ?_
      show (if stored.contains y = true then m₁ y else m₀ y) = m₁ y
      cases h3 : stored.contains y with
      | true => simp
      | false => simp only [Bool.false_eq_true, if_false]; exact (h2 y hn h3).symm
    have own : ∃ own : Led, (∀ p ∈ own, p.1 ∈ fp) ∧ (∀ p ∈ own, h''.get? p.1 = some p.2 ∧ h₀.get? p.1 = none) ∧ ∀ b ∈ fp, h₀.get? b = none → ∀ o, h''.get? b = some o → (b, o) ∈ own := by
      refine ⟨fp.filterMap fun b => match h₀.get? b, h''.get? b with | none, some o => some (b, o) | _, _ => none, fun p hp => ?_, fun p hp => ?_, fun b hb e o e' => ?_⟩
      · obtain ⟨b, hb, e⟩ := List.mem_filterMap.mp hp
        split at e
        · cases e; exact hb
        · cases e
      · obtain ⟨b, hb, e⟩ := List.mem_filterMap.mp hp
        split at e
        · rename_i e1 e2
          cases e; exact ⟨e2, e1⟩
        · cases e
      · exact List.mem_filterMap.mpr ⟨b, hb, by simp [e, e']⟩
    obtain ⟨own, o1, o2, o3⟩ := own
    refine wpC_mono (turn i c v m₁ h'' (tk' + 1) own hin hP hJ o1 (by rw [em]; exact F₃) (fun p hp => ?_)) fun f s₃ q => ?_
    · rcases List.mem_append.mp hp with hp | hp
      · exact ⟨(o2 p hp).1, fun q => hLf (q ▸ o1 p hp), (o2 p hp).2⟩
      · exact N₃ p hp
    · refine hold (fun Ph hPh => ?_)
      obtain ⟨rfl, c', h3, tk3, m3, news', rfl, F4, N4, n1, n2, k1, k2, j⟩ := q
      refine hPh ?_
      clear hPh
      refine ⟨n - (i + 1), by omega, i + 1, c', h3, tk3, m3, rfl, hin, rfl, ?_, F4, fun p hp => N4 p (n2 p hp), k1, k2, j⟩
      refine W.frame _ h'' h3 st₃ fun b hb o e => ?_
      cases q : h₀.get? b with
      | none => exact (N4 _ (n1 _ (o3 b hb q o e))).1
      | some o' =>
        have e1 := F₃.keep b o' q
        rw [e] at e1
        cases e1
        exact F4.keep b o q
  · have e : i = n := Nat.le_antisymm hi (Nat.le_of_not_lt hin)
    subst e
    refine W.done _ _ _ st₁ fun h' tk' hk' => ?_
    obtain ⟨F₂, N₂⟩ := keepF h' hk'
    dsimp only
    exact done c m₁ h' tk' hJ (ksw_fr h1 h2 F₂) N₂
end
end Mine
end

section
open PySem PySem.W PySem.Spec PySem.Calls PyProof.Rows PyProof.V
namespace Mine
section
variable {M : Model} {A : Around} {s : Shared} {env : Env}
theorem wpC_callWith_K {K : Frag} {h₀ : Heap} {pos : Pos} {f : Value} {e : Expr} {rest : List Expr} {Q : Value → Shared → Prop} (_X : K.In h₀) (hk : keepIn K f = true)
    (h : wpC M A (spliced (backTo pos (starEach (e :: rest) env))) (fun vs s₁ => K.In s₁.heap ∧ wpC M A (call f vs) Q s₁) s)
    (he : starEach (e :: rest) env = (false, eval e env) :: starEach rest env := by rfl)
    (hplain : (backTo pos (starEach rest env)).any (·.1) = false := by rfl) : wpC M A (callWith pos f [] (backTo pos (starEach (e :: rest) env)) []) Q s := by
  rw [he] at h ⊢
  unfold callWith
  refine wpC_bind (wpC_holding (wpC_evalArgs (wpC_mono h fun vs s₁ h₁ => wpC_then (wpAny_standAt ?_))))
  have hs : (((false, eval e env) :: backTo pos (starEach rest env)).any (·.1)) = false := by
    show (false || (backTo pos (starEach rest env)).any (·.1)) = false
    rw [hplain]; rfl
  have hb : backTo pos ((false, eval e env) :: starEach rest env) = (false, eval e env) :: backTo pos (starEach rest env) := rfl
  simp only [hb, hs, List.any_nil, Bool.or_false]
  obtain ⟨k, hk', L⟩ := keeps_K (M := M) hk _ h₁.1
  refine wpC_then (L.here ?_)
  have tail : ∀ {t : Sem Value}, wpC M A t Q s₁ → wpC M A (t >>= fun r => holding [r] point >>= fun _ => pure r) Q s₁ :=
    fun ht => wpC_bind (wpC_mono ht fun r s₂ hr => wpC_then (wpAny_holding (wpAny_point (wpC_pure hr))))
  rcases hk' with rfl | rfl | rfl <;> dsimp only <;> first | exact tail h₁.2 | (split <;> first | exact tail h₁.2 | exact tail (wpC_keep h₁.2))
end
end Mine
end

section
open PySem PySem.W PySem.Spec PySem.Calls PyProof.Rows PyProof.V
namespace Mine
section
variable {prog : Program} {w : World} {A : Around} {s : Shared} {env : Env} {h₀ : Heap} {L : Addr} {m : Nm}
theorem wpC_attempt {α : Type} {M : Model} {t : Sem α} {Q : Except Value α → Shared → Prop} (h : wpC M A t (fun a s' => Q (.ok a) s') s) : wpC M A t.attempt Q s := fun Γ p hΓ hc => by
  rw [Sem.wp_attempt]
  exact Sem.wp_mono M Γ t (fun _ _ _ h' => h') (fun _ _ _ h' => h'.elim) p s (h Γ p hΓ hc)

theorem codeC_compLoop {elt target iter : Expr} {scope : Scope} {pos : Pos} {it acc : Value} {R : Flow → Shared → Prop} (I : Nat → Shared → Prop)
    (turn : ∀ n s, I n s → wpAny (model prog w) A (pyNext it) (fun r s₁ => match r with
      | none => R .next s₁
      | some v => wpAny (model prog w) A (assign target env v) (fun _ s₂ => wpC (model prog w) A (eval elt env) (fun x s₃ =>
          wpAny (model prog w) A (call (.builtin "list.append") [acc, x]) (fun _ s₄ => ∃ m, m < n ∧ I m s₄) E0 s₃) s₂) E0 s₁) E0 s)
    (n : Nat) (h : I n s) (ht : ∀ v, letOwnedTupleGo target it v = pure () := by intro _; rfl) :
    codeC (model prog w) A (.compLoop (.ListComp elt [⟨target, iter, [], 0⟩] scope pos) 0 it acc env) R s := by
  refine codeC_loop rfl rfl I (fun n s hI => ?_) n h
  show wpC _ A ((compTurn (.ListComp elt [⟨target, iter, [], 0⟩] scope pos) 0 it acc env).onRaise (fun x => do noteFrame x env; theTreesLotGoes x)) _ s
  refine wpC_onRaise ?_
  rw [compTurn_list1]
  refine wpC_then (wpAny_standAt (wpC_then (wpAny_mono (turn n s hI) (fun r s₁ h₁ => ?_) fun _ _ h' => h')))
  cases r with
  | none => exact wpC_pure h₁
  | some v =>
    refine wpC_then (wpAny_of_eq (ht v) ?_)
    exact wpC_then (wpAny_mono h₁ (fun _ s₂ h₂ => wpC_bind (wpC_bind (wpC_mono h₂ fun x s₃ h₃ => wpC_then (wpAny_mono h₃
      (fun _ s₄ h₄ => wpC_pure (wpC_pure ⟨rfl, .inl ⟨rfl, h₄⟩⟩)) fun _ _ h' => h')))) fun _ _ h' => h')

theorem codeC_compStart {elt target iter : Expr} {scope : Scope} {pos : Pos} {it acc : Value} {R : Flow → Shared → Prop}
    (h0 : codeC (model prog w) A (.compLoop (.ListComp elt [⟨target, iter, [], 0⟩] scope pos) 0 it acc env) R s)
    (h : wpAny (model prog w) A (pyIter it) (fun it' s' => codeC (model prog w) A (.compLoop (.ListComp elt [⟨target, iter, [], 0⟩] scope pos) 0 it' acc env) R s') E0 s) :
    codeC (model prog w) A (.compStart (.ListComp elt [⟨target, iter, [], 0⟩] scope pos) 0 it acc env) R s := by
  refine codeC_of_tree rfl ?_
  show wpC _ _ ((compStart (.ListComp elt [⟨target, iter, [], 0⟩] scope pos) 0 it acc env).onRaise (fun x => do noteFrame x env; standAt theWindowsPlace)) _ s
  refine wpC_onRaise (wpC_of_any ?_)
  unfold compStart
  show wpAny _ _ (ask >>= _) _ _ s
  refine wpAny_bind (wpAny_askSetting (wpAny_ite ?_))
  split
  · first
      | exact wpAny_bind (wpAny_pure (wpAny_pure (And.intro rfl h0)))
      | exact wpAny_pure (And.intro rfl h0)
  · first
      | exact wpAny_bind (wpAny_rule (wpAny_bind (wpAny_standAt (wpAny_bind (wpAny_mono h (fun it' s' h' => wpAny_pure (And.intro rfl h')) fun _ _ x => x)))))
      | (refine wpAny_bind (wpAny_rule ?_); show wpAny _ _ (standAt iter.pos >>= _) _ _ s; exact wpAny_bind (wpAny_standAt (wpAny_bind (wpAny_mono h (fun it' s' h' => wpAny_pure (And.intro rfl h')) fun _ _ x => x))))

abbrev lst (ys : List Value) : Obj := { cls := .type "list", data := .seq ys.toArray ys.length }
theorem lst_snoc (ys : List Value) (y : Value) : ({ cls := .type "list", data := .seq (ys.toArray.push y) (ys.length + 1) } : Obj) = lst (ys ++ [y]) := by
  show ({ cls := .type "list", data := .seq (ys.toArray.push y) (ys.length + 1) } : Obj) = { cls := .type "list", data := .seq (ys ++ [y]).toArray (ys ++ [y]).length }
  rw [List.length_append, List.length_singleton, List.push_toArray]

/-- a comprehension over anything that is walked, its elements on a clean stack; the ledger stands still -/
theorem wpC_ListComp {elt iter : Expr} {x : PySem.Str} {px : Pos} {scope : Scope} {cl : List (PySem.Str × Addr)} {pos : Pos} {Q : Value → Shared → Prop} (_F₀ : Fr h₀ L s.heap m)
    (hclos : closureFor scope env = pure cl) (hcell : ∀ y ∈ scope.names, y.2 ≠ .cell) (hkind : scope.kind = .function)
    (hnames : ∀ y ∈ scope.names, y.2 = .local → scope.names.lookup y.1 = some .local) (hx : scope.names.lookup x = some .local)
    (h : wpAny (model prog w) A (eval iter env) (fun xv s₁ => wpAny (model prog w) A (pyIter xv) (fun it s₂ =>
      ∃ (I : Addr) (fp : List Addr) (n : Nat) (P : Nat → Value → Prop) (St : Nat → Heap → Prop) (led : Led) (G : Nat → Value → Prop),
        it = .ref I ∧ Walks prog w A I fp [I] n P St ∧ n ≤ sizeLine ∧ St 0 s₂.heap ∧ Fr h₀ L s₂.heap m ∧ News h₀ L s₂.heap led ∧ (∀ p ∈ led, p.1 ≠ I) ∧ h₀.get? I = none ∧ L ∉ fp ∧ (∀ b ∈ fp, b < s₂.heap.objs.size) ∧
        (∀ i v C oC m₂ own hp tk, i < n → P i v → LCg.NsObj oC m₂ → m₂ x = some v → (C, oC) ∈ own → Fr h₀ L hp m → News h₀ L hp (own ++ led) →
          wpC (model prog w) A (eval elt (compEnvC scope cl C env)) (fun y s₃ => G i y ∧ ∃ h' tk', s₃ = { s₂ with heap := h', toks := tk' } ∧ Fr h₀ L h' m ∧ News h₀ L h' (own ++ led)) { s₂ with heap := hp, toks := tk }) ∧
        (∀ D ys hp tk, Fr h₀ L hp m → News h₀ L hp ((D, lst ys) :: led) → (∀ p ∈ led, p.1 ≠ D) → ys.length = n → (∀ i y, ys[i]? = some y → G i y) → Q (.ref D) { s₂ with heap := hp, toks := tk })) E0 s₁) E0 s)
    (hs : ∀ x, foldedSetIterable iter env x = pure x := by intro _; rfl) :
    wpC (model prog w) A (eval (.ListComp elt [⟨.Name x px, iter, [], 0⟩] scope pos) env) Q s := by
  rw [eval_ListComp]
  unfold comprehension
  rw [hclos]
  refine wpC_then (wpAny_mono h (fun xv s₁ h₁ => wpC_then (wpAny_standAt (wpC_then (wpAny_of_eq (hs xv) (wpC_then (wpAny_holding (wpAny_mono h₁ (fun it s₂ h₂ => ?_) fun _ _ x => x))))))) fun _ _ x => x)
  refine hold (fun Ph hPh => ?_)
  obtain ⟨I, fp, n, P, St, led, G, rfl, W, hsz, hst, F, N, off, hI₀, hLf, hfp, turn, fin⟩ := h₂
  refine hPh ?_
  clear hPh
  refine wpC_if_false (c := (none : Option (Value → Sem Unit)).isSome) rfl ?_
  refine wpC_then (wpAny_newObj_type ?_)
  refine wpC_bind (wpC_pure ?_)
  refine wpC_then (wpAny_newFunctionEnv hcell (by intro y hy; simp at hy) (fun h₁' hns₁ hsb₁ => ?_) hkind)
  dsimp only at hns₁ hsb₁ ⊢
  generalize hH2 : s₂.heap.push { cls := .type "list", dict := none, data := .seq ([] : List Value).toArray } = H2 at hns₁ hsb₁ ⊢
  have hC : H2.objs.size = s₂.heap.objs.size + 1 := by rw [← hH2, Heap.size_push]
  have hDC : s₂.heap.objs.size ≠ H2.objs.size := by rw [hC]; exact Nat.ne_of_lt (Nat.lt_succ_self _)
  have below : ∀ b, b < s₂.heap.objs.size → b ≠ H2.objs.size ∧ b ≠ s₂.heap.objs.size := fun b hb => ⟨by rw [hC]; exact Nat.ne_of_lt (Nat.lt_succ_of_lt hb), Nat.ne_of_lt hb⟩
  have hIf : I ∈ fp := W.sub I (List.mem_singleton.mpr rfl)
  have hIlt : I < s₂.heap.objs.size := hfp I hIf
  have hDf : s₂.heap.objs.size ∉ fp := fun hm => Nat.lt_irrefl _ (hfp _ hm)
  have hCf : H2.objs.size ∉ fp := fun hm => by have := hfp _ hm; rw [hC] at this; exact Nat.lt_irrefl _ (Nat.lt_of_succ_lt this)
  have old : ∀ b o, s₂.heap.get? b = some o → h₁'.get? b = some o := fun b o e => hsb₁.extBut b o (below b (Heap.lt_size e)).1 (Heap.get?_push_of_some _ (hH2 ▸ Heap.get?_push_of_some _ e))
  have hacc : h₁'.get? s₂.heap.objs.size = some (lst []) := hsb₁.extBut _ _ hDC (Heap.get?_push_of_some _ (hH2 ▸ Heap.get?_push_size _ rfl))
  have hst₁ : St 0 h₁' := W.frame _ _ _ hst fun b _ o e => old b o e
  have fresh₀ : ∀ a, s₂.heap.objs.size ≤ a → h₀.get? a = none := fun a ha => by
    cases e : h₀.get? a with
    | none => rfl
    | some o' => exact absurd (Heap.lt_size (F.keep a o' e)) (Nat.not_lt.mpr ha)
  have hD₀ : h₀.get? s₂.heap.objs.size = none := fresh₀ _ (Nat.le_refl _)
  have hC₀ : h₀.get? H2.objs.size = none := fresh₀ _ (by rw [hC]; exact Nat.le_succ _)
  have hLlt : L < s₂.heap.objs.size := F.ns.lt
  have hDL : s₂.heap.objs.size ≠ L := Ne.symm (below L hLlt).2
  have hCL : H2.objs.size ≠ L := Ne.symm (below L hLlt).1
  have hIL : L ≠ I := fun q => hLf (q ▸ hIf)
  have hCI : I ≠ H2.objs.size := (below I hIlt).1
  have hDI : I ≠ s₂.heap.objs.size := (below I hIlt).2
  have offC : ∀ p ∈ led, p.1 ≠ H2.objs.size := fun p hp => (below _ (Heap.lt_size (N p hp).1)).1
  have offD : ∀ p ∈ led, p.1 ≠ s₂.heap.objs.size := fun p hp => (below _ (Heap.lt_size (N p hp).1)).2
  have F₁ : Fr h₀ L h₁' m := F.keeps old
  have N₁ : News h₀ L h₁' ((s₂.heap.objs.size, lst []) :: led) := fun p hp => by
    rcases List.mem_cons.mp hp with rfl | hp
    · exact ⟨hacc, hDL, hD₀⟩
    · exact ⟨old _ _ (N p hp).1, (N p hp).2⟩
  generalize s₂.heap.objs.size = D at *
  generalize H2.objs.size = C at *
  have loop : ∀ s₃ : Shared, s₃ = { s₂ with heap := h₁', toks := s₂.toks + ([] : List (PySem.Str × Value)).length } →
      codeC (model prog w) A (.compLoop (.ListComp elt [⟨.Name x px, iter, [], 0⟩] scope pos) 0 (.ref I) (.ref D) (compEnvC scope cl C env))
        (fun f s' => ∃ ys h' tk m', s' = { s₂ with heap := h', toks := tk } ∧ Fr h₀ L h' m ∧ h'.Ns C m' ∧ News h₀ L h' ((D, lst ys) :: led) ∧ ys.length = n ∧ ∀ i y, ys[i]? = some y → G i y) s₃ := by
    rintro s₃ rfl
    refine codeC_compLoop
      (fun k s' => ∃ h' tk i ys m', s' = { s₂ with heap := h', toks := tk } ∧ i ≤ n ∧ k = n + 1 - i ∧ ys.length = i ∧ St i h' ∧ Fr h₀ L h' m ∧ h'.Ns C m' ∧ News h₀ L h' ((D, lst ys) :: led) ∧ ∀ i y, ys[i]? = some y → G i y) ?_ (n + 1)
      ⟨h₁', _, 0, [], _, rfl, Nat.zero_le _, rfl, rfl, hst₁, F₁, hns₁, N₁, fun i y e => by simp at e⟩
    intro k s' q2
    refine hold (fun Ph hPh => ?_)
    obtain ⟨h', tk, i, ys, m', rfl, hi, rfl, hyl, hst', F', hn', N', hG⟩ := q2
    refine hPh ?_
    clear hPh
    have keepN : ∀ h₂, (∀ b o, b ∉ [I] → h'.get? b = some o → h₂.get? b = some o) → Fr h₀ L h₂ m ∧ h₂.Ns C m' ∧ News h₀ L h₂ ((D, lst ys) :: led) := fun h₂ hk₂ =>
      ⟨LCg.fr_but F' hk₂ hIL hI₀, hn'.at' fun o e => hk₂ _ o (by simpa using Ne.symm hCI) e, LCg.news_but N' hk₂ fun p hp => by
        rcases List.mem_cons.mp hp with rfl | hp
        · exact Ne.symm hDI
        · exact off p hp⟩
    by_cases hlt : i < n
    · refine W.item i _ _ _ hlt hst' fun v h₂ tk₂ hPv hst₂ hk₂ => ?_
      obtain ⟨F₂, hn₂, N₂⟩ := keepN h₂ hk₂
      dsimp only
      refine wpAny_assign_Name (wpAny_storeName_local (lookup_relabel_local hx) hn₂ (fun h₃ hn₃ hs₃ => ?_) (by simp [compEnvC, relabel, hkind]))
      have hst₃ : St (i + 1) h₃ := W.frame _ _ _ hst₂ fun b hb o e => hs₃.extBut b o (fun q => hCf (by have q' : b = C := q; rw [← q']; exact hb)) e
      obtain ⟨oC, heC, hoC⟩ := LCg.ns_obj hn₃
      have F₃ : Fr h₀ L h₃ m := F₂.change hs₃ hCL hC₀
      have N₃ : News h₀ L h₃ ((D, lst ys) :: led) := fun p hp => by
        refine ⟨hs₃.extBut _ _ ?_ (N₂ p hp).1, (N₂ p hp).2⟩
        rcases List.mem_cons.mp hp with rfl | hp
        · exact hDC
        · exact offC p hp
      have own : ∃ own : Led, (∀ p ∈ own, h₃.get? p.1 = some p.2 ∧ p.1 ≠ L ∧ h₀.get? p.1 = none) ∧ (C, oC) ∈ own ∧ (D, lst ys) ∈ own ∧ ∀ b ∈ fp, h₀.get? b = none → ∀ o, h₃.get? b = some o → (b, o) ∈ own := by
        refine ⟨(C, oC) :: (D, lst ys) :: fp.filterMap fun b => match h₀.get? b, h₃.get? b with | none, some o => some (b, o) | _, _ => none, fun p hp => ?_, .head _, .tail _ (.head _), fun b hb e o e' => .tail _ (.tail _ (List.mem_filterMap.mpr ⟨b, hb, by simp [e, e']⟩))⟩
        rcases List.mem_cons.mp hp with rfl | hp
        · exact ⟨heC, hCL, hC₀⟩
        · rcases List.mem_cons.mp hp with rfl | hp
          · exact ⟨(N₃ _ (.head _)).1, hDL, hD₀⟩
          · obtain ⟨b, hb, e⟩ := List.mem_filterMap.mp hp
            split at e
            · rename_i e1 e2
              cases e; exact ⟨e2, fun q => hLf (q ▸ hb), e1⟩
            · cases e
      refine hold (fun Ph hPh => ?_)
      obtain ⟨own, o1, o2, o3, o4⟩ := own
      refine hPh ?_
      clear hPh
      refine wpC_mono (turn i v C oC _ own h₃ _ hlt hPv hoC (by simp) o2 F₃ fun p hp => ?_) ?_
      · rcases List.mem_append.mp hp with hp | hp
        · exact o1 p hp
        · exact N₃ p (.tail _ hp)
      · intro y s₄ q2
        refine hold (fun Ph hPh => ?_)
        obtain ⟨gy, h₄, tk₄, rfl, F₄, N₄⟩ := q2
        refine hPh ?_
        clear hPh
        have zC := (N₄ (C, oC) (List.mem_append_left _ o2)).1
        have zD := (N₄ (D, lst ys) (List.mem_append_left _ o3)).1
        have hst₄ : St (i + 1) h₄ := W.frame _ _ _ hst₃ fun b hb o e => by
          cases q : h₀.get? b with
          | none => exact (N₄ _ (List.mem_append_left _ (o4 b hb q o e))).1
          | some o' =>
            have e1 := F₃.keep b o' q
            rw [e] at e1; cases e1
            exact F₄.keep b o q
        refine append_at (hsz := by show ys.toArray.size ≤ sizeLine; rw [List.size_toArray, hyl]; exact Nat.le_trans hi hsz) zD fun h₅ hs₅ hD₅ => ?_
        refine ⟨n + 1 - (i + 1), by (clear hyl hlt; lia), h₅, tk₄, i + 1, ys ++ [y], _, rfl, hlt, rfl, by rw [List.length_append, List.length_singleton, hyl], W.frame _ _ _ hst₄ fun b hb o e => hs₅.extBut b o (fun q => hDf (q ▸ hb)) e, F₄.change hs₅ hDL hD₀,
          (hoC.ns zC).sameBut hs₅ (Ne.symm hDC), fun p hp => ?_, fun j z e => ?_⟩
        · rcases List.mem_cons.mp hp with rfl | hp
          · exact ⟨hD₅.trans (congrArg some (lst_snoc ys y)), hDL, hD₀⟩
          · exact ⟨hs₅.extBut _ _ (offD p hp) (N₄ p (List.mem_append_right _ hp)).1, (N₄ p (List.mem_append_right _ hp)).2⟩
        · rw [List.getElem?_append] at e
          split at e
          · exact hG j z e
          · rename_i hj
            cases hji : j - ys.length with
            | zero =>
              rw [hji] at e
              cases e
              rw [show j = i by lia]
              exact gy
            | succ k => rw [hji] at e; cases e
    · obtain rfl : i = n := Nat.le_antisymm hi (Nat.not_lt.mp hlt)
      refine W.done _ _ _ hst' fun h₂ tk₂ hk₂ => ?_
      obtain ⟨F₂, hn₂, N₂⟩ := keepN h₂ hk₂
      exact ⟨ys, h₂, tk₂, m', rfl, F₂, hn₂, N₂, hyl, hG⟩
  have hv : ∀ y ∈ (scope.names.filter fun x => (x.2 == .local || x.2 == .cell) && x.1 != (".0" : PySem.Str)).reverse, y.2 = .local →
      Env.kindOf (compEnvC scope cl C env) y.1 = some .local := fun y hy hl => lookup_relabel_local (hnames y (List.mem_filter.mp (List.mem_reverse.mp hy)).1 hl)
  refine wpC_holding (wpC_bind (wpC_attempt (wpC_holding (wpC_run ?_))))
  rw [Around.mark_none]
  refine codeC_mono (codeC_compStart (loop _ rfl) (W.self 0 _ _ _ hst₁ (loop _ rfl))) ?_
  intro f s' q2
  refine hold (fun Ph hPh => ?_)
  obtain ⟨ys, h', tk, m', rfl, F', hn', N', hyl, hG⟩ := q2
  refine hPh ?_
  clear hPh
  dsimp only
  refine wpC_then (wpAny_holding (wpAny_comp_letGo (cenv := compEnvC scope cl C env) hkind _ _ m' hv hn' fun h'' m'' _ hs' => ?_))
  refine wpC_pure (fin D ys h'' tk (F'.change hs' hCL hC₀) (fun p hp => ?_) offD hyl hG)
  refine ⟨hs'.extBut _ _ ?_ (N' p hp).1, (N' p hp).2⟩
  rcases List.mem_cons.mp hp with rfl | hp
  · exact hDC
  · exact offC p hp
end
end Mine
end

section
open PySem PySem.W PySem.Spec PySem.Calls PyProof.Rows PyProof.V
namespace Mine
theorem jb_entry : entryFor table "bytes.join" = some Builtin.«bytes.join» := by first | exact entryFor_of_fast (by kernel_rfl) | exact entryFor_of_tree (by kernel_rfl)
theorem jb_plain : plainId "bytes.join" = true := by decide +kernel
theorem jb_slot : Slot "bytes" "join" "bytes.join" :=
  .of (owner := "bytes") (n := "join") (by rw [typeLookup_type, builtinLookup_eq_fast]; kernel_rfl) (by decide +kernel) (by decide +kernel) (by decide +kernel)
    (by first | exact .inl (by decide +kernel) | exact .inr (by decide +kernel)) (by rw [isSubtype_type]; kernel_rfl)
theorem jb_getattribute : typeLookup (.type "bytes") "__getattribute__" = pure (some (.builtin "bytes.__getattribute__")) := by rw [typeLookup_type, builtinLookup_eq_fast]; kernel_rfl
theorem jb_nogetattr : typeLookup (.type "bytes") "__getattr__" = pure none := by rw [typeLookup_type, builtinLookup_eq_fast]; kernel_rfl
theorem jb_typeOf : typeOf (.builtin "bytes.join") = pure (.type "method_descriptor") := by kernel_rfl

theorem once {P Q : Prop} (h : P → Q) (p : P) : Q := h p
theorem joined_nil (parts : List (Array UInt8)) : Builtin.Bytes.joined #[] parts = parts.foldl (· ++ ·) #[] := by
  unfold Builtin.Bytes.joined
  have : ∀ (l : List (Array UInt8)) (k : Nat) (z : Array UInt8), ((l.zipIdx k).foldl (fun out (p, i) => (if i > 0 then out ++ (#[] : Array UInt8) else out) ++ p) z) = l.foldl (· ++ ·) z := by
    intro l
    induction l with
    | nil => intro k z; rfl
    | cons a l ih =>
      intro k z
      rw [List.zipIdx_cons, List.foldl_cons, List.foldl_cons, ih]
      congr 1
      show (if k > 0 then z ++ #[] else z) ++ a = z ++ a
      split <;> simp
  exact this parts 0 #[]

section
variable {prog : Program} {w : World} {A : Around} {s : Shared} {E : Value → Shared → Prop}
theorem getMethod_join {b : Array UInt8} {t : Tok} {pl : Sem Bool} {Q : Value × List Value → Shared → Prop} {M : Model} (h : Q (.builtin "bytes.join", [.bytes b t]) s) : wpAny M A (getMethod (.bytes b t) "join" pl) Q E s :=
  getMethod_value (T := "bytes") (PySem.W.typeIs_bytes _ _ _) (fun _ x => by cases x) jb_getattribute (by decide +kernel) jb_nogetattr jb_slot.lookup jb_typeOf h

inductive BytesAre : List Value → List (Array UInt8) → Prop
  | nil : BytesAre [] []
  | cons {b : Array UInt8} {t : Tok} {vs : List Value} {bs : List (Array UInt8)} : BytesAre vs bs → BytesAre (.bytes b t :: vs) (b :: bs)
theorem BytesAre.len {vs : List Value} {bs : List (Array UInt8)} (h : BytesAre vs bs) : vs.length = bs.length := by
  induction h with
  | nil => rfl
  | cons _ ih => simp [ih]
theorem BytesAre.at {vs : List Value} {bs : List (Array UInt8)} (h : BytesAre vs bs) {i : Nat} (hi : i < vs.length) : ∃ b t, vs[i]? = some (.bytes b t) ∧ bs[i]? = some b := by
  induction h generalizing i with
  | nil => simp at hi
  | @cons b t vs bs _ ih =>
    cases i with
    | zero => exact ⟨b, t, rfl, rfl⟩
    | succ i =>
      obtain ⟨b', t', e1, e2⟩ := ih (i := i) (by simpa using hi)
      exact ⟨b', t', by simpa using e1, by simpa using e2⟩

theorem takeBufferQuiet_bytes {M : Model} {id : String} {c : Array UInt8} {t : Tok} {Q : Option (Array UInt8 × Option Value) → Shared → Prop} (h : Q (some (c, none)) s) : wpAny M A (Builtin.Bytes.takeBufferQuiet? id (.bytes c t) 0) Q E s := by
  have hT2 : s.TypeIs (.bytes c t) "bytes" := PySem.W.typeIs_bytes _ _ _
  unfold Builtin.Bytes.takeBufferQuiet?
  refine wpAny_bind (wpAny_attempt ?_)
  unfold Builtin.Bytes.takeBuffer?
  refine wpAny_bind (wpAny_specialOf hT2 by_buffer ?_)
  dsimp only
  refine wpAny_bind (slotOwn_bytes ?_)
  refine bm_if_false rfl ?_
  refine wpAny_bind (wpAny_specialOf hT2 by_buffer ?_)
  try dsimp only
  refine wpAny_bind (buffer_bytes (wpAny_pure ?_))
  exact wpAny_pure h

theorem joinLetGo_ok {M : Model} {keep : List Value} : ∀ (taken : List (Value × Option Value)) (s : Shared) (Q : Unit → Shared → Prop), (∀ p ∈ taken, p.2 = none) → Q () s → wpAny M A (Builtin.Bytes.joinLetGo taken keep) Q E s := by
  intro taken
  induction taken with
  | nil => intro s Q _ h; exact wpAny_pure h
  | cons p rest ih =>
    intro s Q hp h
    obtain ⟨x, u⟩ := p
    have : u = none := hp (x, u) (.head _)
    subst this
    unfold Builtin.Bytes.joinLetGo
    dsimp only
    exact wpAny_bind (wpAny_letGo (ih s Q (fun p hq => hp p (.tail _ hq)) h))

theorem join_bytes {D : Addr} {ys : List Value} {bs : List (Array UInt8)} {t0 : Tok} {Q : Value → Shared → Prop} (hl : s.heap.get? D = some { cls := .type "list", data := .seq ys.toArray ys.length }) (hb : BytesAre ys bs)
    (hz : (bs.foldl (· ++ ·) #[]).size ≤ sizeLine) (hQ : ∀ t k, Q (.bytes (bs.foldl (· ++ ·) #[]) t) { s with toks := k }) :
    wpAny (model prog w) A (call (.builtin "bytes.join") [.bytes #[] t0, .ref D]) Q E s := by
  have hT : s.TypeIs (.bytes #[] t0) "bytes" := PySem.W.typeIs_bytes _ _ _
  have hTD : s.TypeIs (.ref D) "list" := ⟨_, hl, rfl⟩
  refine wpAny_call_entry jb_slot hT jb_entry ?_ (by unfold argsOk; kernel_rfl)
  unfold Builtin.«bytes.join» Builtin.Bytes.joinM
  dsimp only
  refine wpAny_bind (wpAny_of_eq (a := (.bytes #[] t0, .ref D)) rfl ?_)
  dsimp only
  refine bm_if_true rfl ?_
  refine wpAny_bind ?_
  unfold Builtin.Bytes.joinItems
  refine wpAny_bind (wpAny_typeOf hTD ?_)
  refine bm_if_true (by decide) ?_
  refine wpAny_pure ?_
  refine wpAny_bind (wpAny_seqItems hl rfl ?_)
  dsimp only
  refine bm_if_true rfl ?_
  apply once
  case h =>
    intro main
    obtain ⟨arr, harr⟩ : ∃ arr, arr = ys.toArray := ⟨_, rfl⟩
    have hsz : arr.size = ys.length := by rw [harr, List.size_toArray]
    rw [← harr]
    obtain ⟨l⟩ := arr
    rcases l with _ | ⟨x, _ | ⟨x2, l⟩⟩
    · wp_delta
      generalize (⟨[]⟩ : Array Value) = arr at harr hsz ⊢
      revert arr
      exact main
    · obtain rfl : ys = [x] := by simpa using (congrArg Array.toList harr).symm
      cases hb with
      | @cons b t vs bs h =>
        cases h
        have e : ([b] : List (Array UInt8)).foldl (· ++ ·) #[] = b := by simp
        rw [e] at hQ
        refine wpAny_bind (wpAny_typeOf (PySem.W.typeIs_bytes _ _ _) ?_)
        refine bm_if_true (by decide) ?_
        exact wpAny_bind (wpAny_rule (wpAny_bind (wpAny_pure (wpAny_pure ⟨_, rfl, hQ t s.toks⟩))))
    · wp_delta
      generalize (⟨x :: x2 :: l⟩ : Array Value) = arr at harr hsz ⊢
      revert arr
      exact main
  case p =>
    intro arr harr hsz
    refine wpAny_bind ?_
    rw [Std.Legacy.Range.forIn_eq_forIn_range']
    refine wpAny_forIn_list _ (fun rest (st : Array (Array UInt8) × List (Value × Option Value)) s' => ∃ i, rest = List.range' i (ys.length - i) ∧ i ≤ ys.length ∧ st.1.toList = bs.take i ∧ (∀ p ∈ st.2, p.2 = none ∧ p.1.onHeap = false) ∧ s' = s) _ ?_ ?_ _ _ ⟨0, by rw [hsz]; simp [Std.Legacy.Range.size], Nat.zero_le _, rfl, (fun p h => by cases h), rfl⟩
    · intro k rest q2 s' q4
      refine hold (fun Ph hPh => ?_)
      obtain ⟨parts, taken⟩ := q2
      obtain ⟨i, hr, hi, hp, ht, rfl⟩ := q4
      refine hPh ?_
      clear hPh
      have hlt : i < ys.length := by
        rcases Nat.lt_or_ge i ys.length with h | h
        · exact h
        · rw [Nat.sub_eq_zero_of_le h] at hr; cases hr
      obtain ⟨n, hn⟩ : ∃ n, ys.length - i = n + 1 := ⟨ys.length - i - 1, by lia⟩
      rw [hn, List.range'_succ] at hr
      obtain ⟨rfl, rfl⟩ := List.cons.inj hr
      obtain ⟨b, t, e1, e2⟩ := hb.at hlt
      dsimp only at hp ht ⊢
      refine wpAny_bind (wpAny_seqItems hl rfl ?_)
      dsimp only
      have hany : (taken.any (·.1.onHeap)) = false := List.any_eq_false.mpr fun p hp => by rw [(ht p hp).2]; exact Bool.false_ne_true
      refine bm_if_false (by rw [hany]; rfl) ?_
      have hx : ys.toArray.getD k .none = .bytes b t := by simp [Array.getD, hlt] ; simpa [hlt] using e1
      rw [hx]
      refine wpAny_bind (wpAny_holding (takeBufferQuiet_bytes ?_))
      dsimp only
      refine wpAny_bind (wpAny_seqItems hl rfl ?_)
      dsimp only
      refine bm_if_false (by rw [hsz, List.size_toArray]; simp) ?_
      refine wpAny_pure ⟨k + 1, by rw [show ys.length - (k + 1) = n by omega], hlt, ?_, fun p hp => ?_, rfl⟩
      · rw [Array.toList_push, hp, List.take_add_one, e2]; rfl
      · rcases List.mem_append.mp hp with hp | hp
        · exact ht p hp
        · rw [List.mem_singleton.mp hp]; exact ⟨rfl, rfl⟩
    · refine all2 (fun parts taken => ?_)
      intro s' q2
      refine hold (fun Ph hPh => ?_)
      obtain ⟨i, hr, hi, hp, ht, rfl⟩ := q2
      refine hPh ?_
      clear hPh
      have hi' : i = ys.length := by
        rcases Nat.lt_or_ge i ys.length with h | h
        · obtain ⟨n, hn⟩ : ∃ n, ys.length - i = n + 1 := ⟨ys.length - i - 1, by omega⟩
          rw [hn, List.range'_succ] at hr; cases hr
        · lia
      dsimp only at hp ht ⊢
      rw [hi', hb.len, List.take_length] at hp
      refine wpAny_bind (m := Builtin.Bytes.payload _) (wpAny_bind (wpAny_pure (wpAny_pure ?_)))
      have hj : Builtin.Bytes.joined #[] parts.toList = bs.foldl (· ++ ·) #[] := by rw [joined_nil, hp]
      refine bm_if_false ?_ ?_
      · show decide (_ > sizeLine) = false
        rw [← Array.foldl_toList, hp]
        have : ∀ (l : List (Array UInt8)) (z : Array UInt8), l.foldl (fun a b => a + b.size) z.size = (l.foldl (· ++ ·) z).size := by
          intro l
          induction l with
          | nil => intro z; rfl
          | cons a l ih => intro z; rw [List.foldl_cons, List.foldl_cons, ← ih, Array.size_append]
        have e0 : ((#[] : Array UInt8).size * (parts.size - 1)) = (#[] : Array UInt8).size := by simp
        rw [e0, this]
        exact decide_eq_false (Nat.not_lt.mpr hz)
      · rw [hj]
        refine wpAny_bind (wpAny_mkBytes ?_ hz)
        refine wpAny_bind (wpAny_holding (wpAny_point ?_))
        refine wpAny_bind (joinLetGo_ok _ _ _ (fun p hp => (ht p hp).1) ?_)
        exact wpAny_pure ⟨_, rfl, hQ _ _⟩
end
end Mine
end

section
open PySem PySem.W PySem.Spec PySem.Calls PyProof.Rows PyProof.V
namespace Mine
section
variable {prog : Program} {w : World} {A : Around} {Q : Flow → Shared → Prop} {E : Value → Shared → Prop} {s : Shared} {env : Env} {h₀ : Heap}
def ForPost {σ : Type} (h₀ : Heap) (L : Addr) (s : Shared) (own : Led) (Ld : σ → Led) (ps : σ → List (PySem.Str × Value)) (stored : List PySem.Str) (m₀ : Nm) (J : σ → Prop) (Q : Flow → Shared → Prop) (f : Flow) (s₃ : Shared) : Prop :=
  match f with
  | .ret v => Q (.ret v) s₃
  | .brk => Q .next s₃
  | _ => ForEnd h₀ L s own Ld ps stored m₀ J s₃

theorem for_end {σ : Type} {L : Addr} {own : Led} {Ld : σ → Led} {ps : σ → List (PySem.Str × Value)} {stored : List PySem.Str} {m₀ m' : Nm} {J : σ → Prop} {h' : Heap} {tk : Nat} {news' : Led} (c' : σ)
    (F : Fr h₀ L h' m') (N : News h₀ L h' news') (n1 : ∀ p ∈ own, p ∈ news') (n2 : ∀ p ∈ Ld c', p ∈ news') (k1 : ∀ p ∈ ps c', m' p.1 = some p.2) (k2 : ∀ z, (∀ p ∈ ps c', z ≠ p.1) → stored.contains z = false → m' z = m₀ z) (j : J c') :
    ForEnd h₀ L s own Ld ps stored m₀ J { s with heap := h', toks := tk } := ⟨c', h', tk, m', news', rfl, F, N, n1, n2, k1, k2, j⟩
theorem codeA_for {I : Addr} {fp wr : List Addr} {n : Nat} {P : Nat → Value → Prop} {St : Nat → Heap → Prop} (W : Walks prog w A I fp wr n P St) {σ : Type} {x : PySem.Str} {px : Pos} {body : List Stmt} {m₀ : Nm}
    (J : Nat → σ → Prop) (Ld : σ → Led) (ps : σ → List (PySem.Str × Value)) (stored : List PySem.Str) (c₀ : σ) (hE : PassesOwn (model prog w) A env E)
    (hx : env.kindOf x = some .local) (hpl : (env.scope.kind == .class || (env.scope.kind == .module && env.locals != env.globals)) = false) (hxs : stored.contains x = true)
    (hLf : env.locals ∉ fp) (hwr : ∀ b ∈ wr, h₀.get? b = none) (hnw : ∀ i c, J i c → ∀ p ∈ Ld c, p.1 ∉ wr)
    (st : St 0 s.heap) (F : Fr h₀ env.locals s.heap m₀) (N : News h₀ env.locals s.heap (Ld c₀)) (hk : ∀ p ∈ ps c₀, m₀ p.1 = some p.2) (h0 : J 0 c₀)
    (turn : ∀ i (c : σ) v (u : Nm) h tk own, i < n → P i v → J i c → (∀ p ∈ own, p.1 ∈ fp) → St (i + 1) h → (∀ b ∈ fp, h₀.get? b = none → ∀ o, h.get? b = some o → (b, o) ∈ own) →
      Fr h₀ env.locals h (fun y => if y = x then some v else kstB (fun z => if stored.contains z then u z else m₀ z) (ps c) y) → News h₀ env.locals h (own ++ Ld c) →
      wpAny (model prog w) A (execs body env) (ForPost h₀ env.locals s own Ld ps stored m₀ (J (i + 1)) Q) E { s with heap := h, toks := tk })
    (done : ∀ (c : σ) (u : Nm) h tk, J n c → Fr h₀ env.locals h (kstB (fun z => if stored.contains z then u z else m₀ z) (ps c)) → News h₀ env.locals h (Ld c) → Q .next { s with heap := h, toks := tk }) :
    codeAny (model prog w) A (.forLoop (.Name x px) (.ref I) body [] env) (fun r s' => match r with | .ok f => Q f s' | .error e => cameBackBy (model prog w) A env E e s') s := by
  have hLw : env.locals ∉ wr := fun h => hLf (W.sub _ h)
  refine codeAny_forLoop (fun k s' => ∃ i c h tk m₁, k = n - i ∧ i ≤ n ∧ s' = { s with heap := h, toks := tk } ∧ St i h ∧ Fr h₀ env.locals h m₁ ∧ News h₀ env.locals h (Ld c) ∧ (∀ p ∈ ps c, m₁ p.1 = some p.2) ∧ (∀ z, (∀ p ∈ ps c, z ≠ p.1) → stored.contains z = false → m₁ z = m₀ z) ∧ J i c) ?_ n
    ⟨0, c₀, s.heap, s.toks, m₀, (Nat.sub_zero n).symm, Nat.zero_le _, rfl, st, F, N, hk, fun _ _ _ => rfl, h0⟩
  intro k s' q2
  refine hold (fun Ph hPh => ?_)
  obtain ⟨i, c, h, tk, m₁, rfl, hi, rfl, st₁, F₁, N₁, h1, h2, hJ⟩ := q2
  refine hPh ?_
  clear hPh
  have keepF : ∀ h', (∀ b o, b ∉ wr → h.get? b = some o → h'.get? b = some o) → Fr h₀ env.locals h' m₁ ∧ News h₀ env.locals h' (Ld c) := fun h' hk' =>
    ⟨⟨F₁.ns.at' fun o e => hk' _ o hLw e, fun b o e => hk' b o (fun hb => by rw [hwr b hb] at e; cases e) (F₁.keep b o e), F₁.above⟩,
     fun p hp => ⟨hk' _ _ (hnw i c hJ p hp) (N₁ p hp).1, (N₁ p hp).2⟩⟩
  by_cases hin : i < n
  · refine W.item i _ _ _ hin st₁ fun v h' tk' hP st' hk' => ?_
    obtain ⟨F₂, N₂⟩ := keepF h' hk'
    dsimp only
    refine wpAny_assign_Name (wpAny_storeName_local hx F₂.ns (fun h'' hn hs => ?_) hpl)
    have F₃ : Fr h₀ env.locals h'' (fun y => if y = x then some v else m₁ y) := F₂.set hn hs
    have N₃ : News h₀ env.locals h'' (Ld c) := N₂.set hs
    have st₃ : St (i + 1) h'' := W.frame _ h' h'' st' fun b hb o e => (hs.2 b (fun q => hLf (q ▸ hb))).trans e
    have em : kstB (fun z => if stored.contains z then m₁ z else m₀ z) (ps c) = m₁ := by
      funext y
      refine kstB_eq h1 fun hn => ?_
      show (if stored.contains y = true then m₁ y else m₀ y) = m₁ y
      cases h3 : stored.contains y with
      | true => simp
      | false => simp only [Bool.false_eq_true, if_false]; exact (h2 y hn h3).symm
    have own : ∃ own : Led, (∀ p ∈ own, p.1 ∈ fp) ∧ (∀ p ∈ own, h''.get? p.1 = some p.2 ∧ h₀.get? p.1 = none) ∧ ∀ b ∈ fp, h₀.get? b = none → ∀ o, h''.get? b = some o → (b, o) ∈ own := by
      refine ⟨fp.filterMap fun b => match h₀.get? b, h''.get? b with | none, some o => some (b, o) | _, _ => none, fun p hp => ?_, fun p hp => ?_, fun b hb e o e' => ?_⟩
      · obtain ⟨b, hb, e⟩ := List.mem_filterMap.mp hp
        split at e
        · cases e; exact hb
        · cases e
      · obtain ⟨b, hb, e⟩ := List.mem_filterMap.mp hp
        split at e
        · rename_i e1 e2
          cases e; exact ⟨e2, e1⟩
        · cases e
      · exact List.mem_filterMap.mpr ⟨b, hb, by simp [e, e']⟩
    obtain ⟨own, o1, o2, o3⟩ := own
    refine wpAny_passesOwn hE (wpAny_mono (turn i c v m₁ h'' (tk' + 1) own hin hP hJ o1 st₃ o3 (by rw [em]; exact F₃) (fun p hp => ?_)) (fun f s₃ q => ?_) fun _ _ x => x)
    · rcases List.mem_append.mp hp with hp | hp
      · exact ⟨(o2 p hp).1, fun q => hLf (q ▸ o1 p hp), (o2 p hp).2⟩
      · exact N₃ p hp
    · have go : ForEnd h₀ env.locals s own Ld ps stored m₀ (J (i + 1)) s₃ → ∃ m, m < n - i ∧ ∃ i c h tk m₁, m = n - i ∧ i ≤ n ∧ s₃ = { s with heap := h, toks := tk } ∧ St i h ∧ Fr h₀ env.locals h m₁ ∧ News h₀ env.locals h (Ld c) ∧ (∀ p ∈ ps c, m₁ p.1 = some p.2) ∧ (∀ z, (∀ p ∈ ps c, z ≠ p.1) → stored.contains z = false → m₁ z = m₀ z) ∧ J i c := by
        intro q0
        refine hold (fun Ph hPh => ?_)
        obtain ⟨c', h3, tk3, m3, news', rfl, F4, N4, n1, n2, k1, k2, j⟩ := q0
        refine hPh ?_
        clear hPh
        refine ⟨n - (i + 1), by omega, i + 1, c', h3, tk3, m3, rfl, hin, rfl, ?_, F4, fun p hp => N4 p (n2 p hp), k1, k2, j⟩
        refine W.frame _ h'' h3 st₃ fun b hb o e => ?_
        cases q : h₀.get? b with
        | none => exact (N4 _ (n1 _ (o3 b hb q o e))).1
        | some o' =>
          have e1 := F₃.keep b o' q
          rw [e] at e1
          cases e1
          exact F4.keep b o q
      cases f with
      | next => exact go q
      | cont => exact go q
      | brk => exact q
      | ret v => exact q
  · have e : i = n := Nat.le_antisymm hi (Nat.le_of_not_lt hin)
    subst e
    refine W.done _ _ _ st₁ fun h' tk' hk' => ?_
    obtain ⟨F₂, N₂⟩ := keepF h' hk'
    dsimp only
    exact wpAny_execs_nil (done c m₁ h' tk' hJ (ksw_fr h1 h2 F₂) N₂)
end
end Mine
end

section
open PySem PySem.W PySem.Spec PySem.Calls PyProof.Rows PyProof.V
namespace Mine
/-- a contract of a def that may turn the ledger that it was handed, and may catch a LogFault within -/
def ConG (prog : Program) (w : World) (f : Addr) (vs : List Value) (need : Nat) (led : Led) (Post : Led → Value → Prop) : Prop :=
  ∀ (dp un : Nat) (gd : Option (List Code)) (env : Env) (outer : List Env) (frs : Led) (h₀ : Heap) (L : Addr) (m : Nm) (s : Shared)
    (p : Program) (loose : List PySem.Str) (mean : ExcName → Option Value) (mg mb : Nm) (R : Result → Shared → Prop),
    (∀ q ∈ led, TI.notDict q = true) →
    Cal w dp un env outer frs h₀ L m (led ++ frs) need s p loose mean mg mb →
    (∀ r led' frs' h' tk', Fr h₀ L h' m → TI.SameUp frs frs' → News h₀ L h' (led' ++ frs') → (∀ q ∈ led', TI.notDict q = true) → Post led' r → R (.ok (.ret r)) { s with heap := h', toks := tk' }) →
    codeAny (model prog w) (top dp un gd (env :: outer)) (.call (.ref f) ⟨vs, []⟩) R s

section
variable {prog : Program} {w : World} {dp un need : Nat} {gd : Option (List Code)} {env : Env} {outer : List Env} {frs led : Led} {h₀ : Heap} {L : Addr} {m : Nm} {s : Shared}
  {p : Program} {loose : List PySem.Str} {mean : ExcName → Option Value} {mg mb : Nm} {R : Result → Shared → Prop}

theorem ConG.use {f : Addr} {vs : List Value} {Post : Led → Value → Prop} {Q E : Value → Shared → Prop} (C : ConG prog w f vs need led Post)
    (F : Fr h₀ L s.heap m) (N : News h₀ L s.heap (led ++ frs)) (X : (TopL.heap_1 w.params).In h₀) (T : Top p loose mean mg mb h₀) (Fs : TI.Frs outer frs) (hnd : ∀ q ∈ led, TI.notDict q = true)
    (hf : env.frame = some L) (hk : env.scope.kind = .function) (hdp : dp + need < 1000) (hu : un + 8 * need < 9900)
    (ok : ∀ r led' frs' h' tk', Fr h₀ L h' m → TI.SameUp frs frs' → News h₀ L h' (led' ++ frs') → (∀ q ∈ led', TI.notDict q = true) → Post led' r → Q r { s with heap := h', toks := tk' }) :
    wpAny (model prog w) (top dp un gd (env :: outer)) (call (.ref f) vs) Q E s :=
  wpAny_call (C dp un gd env outer frs h₀ L m s p loose mean mg mb _ hnd ⟨F, X, N, T, Fs, fun p hp => List.mem_append_right _ hp, hf, hk, hdp, hu⟩ ok)

theorem ConG.ofC {f : Addr} {vs : List Value} {Ret : Led → Value → Prop} (C : ConC prog w f vs need led Ret) : ConG prog w f vs need led (fun led' r => ∃ tl, led' = tl ++ led ∧ Ret tl r) := by
  intro dp un gd env outer frs h₀ L m s p loose mean mg mb R hnd K ok
  refine C dp un gd env outer frs h₀ L m s p loose mean mg mb R hnd K fun r tl frs' h' tk' a b c d e => ok r (tl ++ led) frs' h' tk' a b (by rw [List.append_assoc]; exact c) (fun q hq => ?_) ⟨tl, rfl, e⟩
  rcases List.mem_append.mp hq with hq | hq
  · exact d q hq
  · exact hnd q hq

/-- what stands when a frame is opened over the caller's, and what the caller has again at its return -/
theorem Cal.intoG (hnd : ∀ q ∈ led, TI.notDict q = true) (C : Cal w dp un env outer frs h₀ L m (led ++ frs) need s p loose mean mg mb) {h₁ : Heap} (hk₁ : ∀ b o, s.heap.get? b = some o → h₁.get? b = some o) :
    ∃ frs₁, News h₀ s.heap.objs.size h₁ (led ++ frs₁) ∧ TI.Frs (env :: outer) frs₁ ∧ (∀ p ∈ led ++ frs₁, p.1 < s.heap.objs.size) ∧
      (∀ led₂ frs₂ h' m', Fr h₀ s.heap.objs.size h' m' → TI.SameUp frs₁ frs₂ → News h₀ s.heap.objs.size h' (led₂ ++ frs₂) → (∀ q ∈ led₂, TI.notDict q = true) → ∃ frs', TI.SameUp frs frs' ∧ Fr h₀ L h' m ∧ News h₀ L h' (led₂ ++ frs')) := by
  refine hold (fun Ph hPh => ?_)
  obtain ⟨F, X, N, T, Fs, Fi, hf, hke, hd, hu⟩ := C
  refine hPh ?_
  clear hPh
  refine hold (fun Ph hPh => ?_)
  obtain ⟨oL, es, ep, hL, hLd, hLk⟩ := id F.ns
  refine hPh ?_
  clear hPh
  have hLn : h₀.get? L = none := by
    cases q : h₀.get? L with
    | none => rfl
    | some o => exact absurd (Nat.lt_of_lt_of_le (Heap.lt_size q) F.above) (Nat.lt_irrefl _)
  have mem3 : ∀ p, p ∈ led ++ ((L, oL) :: frs) → p = (L, oL) ∨ p ∈ led ++ frs := fun p hp => by
    rcases List.mem_append.mp hp with hp | hp
    · exact .inr (List.mem_append_left _ hp)
    · rcases List.mem_cons.mp hp with hp | hp
      · exact .inl hp
      · exact .inr (List.mem_append_right _ hp)
  have ltL : ∀ p ∈ led ++ ((L, oL) :: frs), p.1 < s.heap.objs.size := fun p hp => by
    rcases mem3 p hp with rfl | hp
    · exact Heap.lt_size hL
    · exact Heap.lt_size (N p hp).1
  refine ⟨(L, oL) :: frs, fun p hp => ?_, ⟨by rw [hke]; decide, hf, ⟨es, ep, hLd⟩, Fs⟩, ltL, fun led₂ frs₂ h' m' F' su N' nd => ?_⟩
  · refine ⟨?_, Nat.ne_of_lt (ltL p hp), ?_⟩
    · rcases mem3 p hp with rfl | hp
      · exact hk₁ _ _ hL
      · exact hk₁ _ _ (N p hp).1
    · rcases mem3 p hp with rfl | hp
      · exact hLn
      · exact (N p hp).2.2
  · cases frs₂ with
    | nil => exact False.elim su
    | cons q frs₂ =>
      obtain ⟨q1, ⟨sl, q2⟩, su'⟩ := su
      have e1 : h'.get? L = some { oL with slots := sl } := by
        have := (N' q (List.mem_append_right _ (.head _))).1
        rwa [q1, q2] at this
      refine ⟨frs₂, su', ⟨ns_of_dict F.ns hL e1, F'.keep, F.above⟩, fun p hp => ?_⟩
      have hp' : p ∈ led₂ ++ (q :: frs₂) := by
        rcases List.mem_append.mp hp with hp | hp
        · exact List.mem_append_left _ hp
        · exact List.mem_append_right _ (.tail _ hp)
      refine ⟨(N' p hp').1, fun z => ?_, (N' p hp').2.2⟩
      have h1 := (N' p hp').1
      rw [z, e1] at h1
      have dd : ∀ x : Addr × Obj, some ({ oL with slots := sl } : Obj) = some x.2 → TI.notDict x = true → False := fun x hx hn => TI.notDict_ne hn (by rw [← Option.some.inj hx]; exact hLd)
      rcases List.mem_append.mp hp with hp | hp
      · exact dd _ h1 (nd p hp)
      · obtain ⟨x, hx, ex⟩ := TI.SameUp.fwd su' p hp
        exact (N x (List.mem_append_right _ hx)).2.1 (ex ▸ z)

theorem enterG {name qual : PySem.Str} {params : Arguments} {body : List Stmt} {scope : Scope} {dV kV doc pm cdv ct oc : Value} {an od : Option Addr} {osl : Array (Option Value)} {f : Addr} {args : Args} {binds : List (PySem.Str × Value)}
    {Post : Led → Value → Prop}
    (hnd : ∀ q ∈ led, TI.notDict q = true)
    (C : Cal w dp un env outer frs h₀ L m (led ++ frs) need s p loose mean mg mb)
    (ok : ∀ r led' frs' h' tk', Fr h₀ L h' m → TI.SameUp frs frs' → News h₀ L h' (led' ++ frs') → (∀ q ∈ led', TI.notDict q = true) → Post led' r → R (.ok (.ret r)) { s with heap := h', toks := tk' })
    (ho : (TopL.heap_1 w.params).lookup f = some ⟨oc, od, .func (fnOf name qual params body scope dV kV doc pm an cdv ct), osl⟩) (hcd : codeIn (TopL.heap_1 w.params) cdv qual = true)
    (hbind : BindsTo s (fnOf name qual params body scope dV kV doc pm an cdv ct) args binds) (hloc : ∀ y ∈ binds, scope.names.lookup y.1 = some .local)
    (hneed : 0 < need)
    (hco : scope.isCoroutine = false) (hgen : scope.isGenerator = false) (hk : scope.kind = .function) (hcell : ∀ x ∈ scope.names, x.2 ≠ .cell)
    (h : ∀ L' h₁ tk₁ frs₁ Qc Ec, Fr h₀ L' h₁ (fun y => binds.reverse.lookup y) → News h₀ L' h₁ (led ++ frs₁) → TI.Frs (env :: outer) frs₁ → (∀ p ∈ led ++ frs₁, p.1 < L') →
      (∀ r led₂ frs₂ h' m' tk', Fr h₀ L' h' m' → TI.SameUp frs₁ frs₂ → News h₀ L' h' (led₂ ++ frs₂) → (∀ q ∈ led₂, TI.notDict q = true) → Post led₂ r → Qc (.ret r) { s with heap := h', toks := tk' }) →
      PassesOwn (model prog w) (top (dp + 1) (un + 3) gd (envOf qual scope L' f cdv :: env :: outer)) (envOf qual scope L' f cdv) Ec →
      (∀ e, PassesOwnAt (model prog w) ((top (dp + 1) (un + 3) gd (envOf qual scope L' f cdv :: env :: outer)).mark (some (.ref e))) (top (dp + 1) (un + 3) gd (envOf qual scope L' f cdv :: env :: outer)) (envOf qual scope L' f cdv) Ec) →
      wpAny (model prog w) (top (dp + 1) (un + 3) gd (envOf qual scope L' f cdv :: env :: outer)) (execs body (envOf qual scope L' f cdv)) Qc Ec { s with heap := h₁, toks := tk₁ }) :
    codeAny (model prog w) (top dp un gd (env :: outer)) (.call (.ref f) args) R s := by
  refine codeAny_call_def (fd := fnOf name qual params body scope dV kV doc pm an cdv ct) (body := body) (binds := binds) (by show dp < 1000; have := C.hd; (exact ltz this)) ((C.X.keeps C.F.keep) _ _ ho) rfl (C.T.nolimit.keeps C.F.keep) (codeRec_of (C.X.keeps C.F.keep) hcd) rfl hbind hcell hloc (fun h₁ hns hk₁ => ?_) hco hgen hk
  refine hold (fun Ph hPh => ?_)
  obtain ⟨frs₁, N', Fs', lt', back⟩ := Cal.intoG hnd C hk₁
  refine hPh ?_
  clear hPh
  have hsz : h₀.objs.size ≤ s.heap.objs.size := by
    refine hold (fun Ph hPh => ?_)
    obtain ⟨oL, _, _, hL, _⟩ := id C.F.ns
    refine hPh ?_
    clear hPh
    exact Nat.le_trans C.F.above (Nat.le_of_lt (Heap.lt_size hL))
  refine h _ _ _ frs₁ (fun fl s' => R (.ok (.ret (match fl with | .ret v => v | _ => .none))) s') (fun e s' => wpAny (model prog w) ((top dp un gd (env :: outer)).deeper (envOf qual scope s.heap.objs.size f cdv)) (leaving (envOf qual scope s.heap.objs.size f cdv) e) (fun _ s'' => R (.error e) s'') (fun e' s'' => R (.error e') s'') s')
    ⟨hns, fun b o e => hk₁ b o (C.F.keep b o e), hsz⟩ N' Fs' lt' (fun r led₂ frs₂ h' m' tk' F' su N'' nd hr => ?_) PassesOwn.leaving (fun e => PassesOwnAt.leaving)
  obtain ⟨frs', a, b, c⟩ := back led₂ frs₂ h' m' F' su N'' nd
  exact ok r led₂ frs' h' tk' b a c nd hr

theorem enterGX {name qual : PySem.Str} {params : Arguments} {body : List Stmt} {scope : Scope} {dV kV doc pm cdv ct oc : Value} {an od : Option Addr} {osl : Array (Option Value)} {f : Addr} {args : Args} {binds : List (PySem.Str × Value)}
    {Post : Led → Value → Prop}
    (hnd : ∀ q ∈ led, TI.notDict q = true)
    (C : Cal w dp un env outer frs h₀ L m (led ++ frs) need s p loose mean mg mb)
    (ok : ∀ r led' frs' h' tk', Fr h₀ L h' m → TI.SameUp frs frs' → News h₀ L h' (led' ++ frs') → (∀ q ∈ led', TI.notDict q = true) → Post led' r → R (.ok (.ret r)) { s with heap := h', toks := tk' })
    (ho : (TopL.heap_1 w.params).lookup f = some ⟨oc, od, .func (fnOf name qual params body scope dV kV doc pm an cdv ct), osl⟩) (hcd : codeIn (TopL.heap_1 w.params) cdv qual = true)
    (hbind : BindsTo s (fnOf name qual params body scope dV kV doc pm an cdv ct) args binds)
    (hkind : (binds.all fun y => scope.names.lookup y.1 == some .local || scope.names.lookup y.1 == some .cell) = true)
    (hndp : ((cellsFrom 0 scope.names []).map (·.1)).Nodup)
    (hneed : 0 < need)
    (hco : scope.isCoroutine = false) (hgen : scope.isGenerator = false) (hk : scope.kind = .function)
    (h : ∀ L' h₁ tk₁ cells frs₁ Qc Ec, Fr h₀ L' h₁ (bindL (envOfC qual scope L' f cdv).kindOf binds fun _ => none) → News h₀ L' h₁ (cells ++ (led ++ frs₁)) → CellsAre (bindC (envOfC qual scope L' f cdv).kindOf binds fun _ => none) (cellsFrom (L' + 1) scope.names []) cells →
      TI.Frs (env :: outer) frs₁ → (∀ p ∈ led ++ frs₁, p.1 < L') →
      (∀ r led₂ frs₂ h' m' tk', Fr h₀ L' h' m' → TI.SameUp frs₁ frs₂ → News h₀ L' h' (led₂ ++ frs₂) → (∀ q ∈ led₂, TI.notDict q = true) → Post led₂ r → Qc (.ret r) { s with heap := h', toks := tk' }) →
      PassesOwn (model prog w) (top (dp + 1) (un + 3) gd (envOfC qual scope L' f cdv :: env :: outer)) (envOfC qual scope L' f cdv) Ec →
      wpAny (model prog w) (top (dp + 1) (un + 3) gd (envOfC qual scope L' f cdv :: env :: outer)) (execs body (envOfC qual scope L' f cdv)) Qc Ec { s with heap := h₁, toks := tk₁ }) :
    codeAny (model prog w) (top dp un gd (env :: outer)) (.call (.ref f) args) R s := by
  refine codeAny_call_function (fd := fnOf name qual params body scope dV kV doc pm an cdv ct) (body := body) (by show dp < 1000; have := C.hd; (exact ltz this)) ((C.X.keeps C.F.keep) _ _ ho) rfl hco hgen rfl (codeRec_of (C.X.keeps C.F.keep) hcd) (hbind _ _ _ _ ?_)
  refine wpAny_newFunctionEnv_cells hk (kindsX hkind _) fun env' he s' x => ?_
  subst he
  refine ⟨(C.T.nolimit.keeps C.F.keep).keeps x.toInCall.keep, codeAny_func ?_⟩
  obtain ⟨h₁, tk, rfl, _⟩ := x.done
  have hk₁ := x.toInCall.keep
  obtain ⟨cells, NC, Y⟩ := Cl.news (h₀ := s.heap) (Nat.le_refl _) fun n c hm => ⟨x.cell n c (lookup_of_mem_nodup (cellsFrom_names scope.names 0 (s.heap.objs.size + 1) [] [] rfl ▸ hndp) hm), x.above n c hm⟩
  refine hold (fun Ph hPh => ?_)
  obtain ⟨frs₁, N', Fs', lt', back⟩ := Cal.intoG hnd C hk₁
  refine hPh ?_
  clear hPh
  have hsz : h₀.objs.size ≤ s.heap.objs.size := by
    refine hold (fun Ph hPh => ?_)
    obtain ⟨oL, _, _, hL, _⟩ := id C.F.ns
    refine hPh ?_
    clear hPh
    exact Nat.le_trans C.F.above (Nat.le_of_lt (Heap.lt_size hL))
  refine h _ _ _ cells frs₁ (fun fl s' => R (.ok (.ret (match fl with | .ret v => v | _ => .none))) s') (fun e s' => wpAny (model prog w) ((top dp un gd (env :: outer)).deeper (envOfC qual scope s.heap.objs.size f cdv)) (leaving (envOfC qual scope s.heap.objs.size f cdv) e) (fun _ s'' => R (.error e) s'') (fun e' s'' => R (.error e') s'') s')
    ⟨x.toInCall.ns, fun b o e => hk₁ b o (C.F.keep b o e), hsz⟩ (fun p hp => ?_) Y Fs' lt' (fun r led₂ frs₂ h' m' tk' F' su N'' nd hr => ?_) PassesOwn.leaving
  · rcases List.mem_append.mp hp with hp | hp
    · refine ⟨(NC p hp).1, (NC p hp).2.1, ?_⟩
      cases q : h₀.get? p.1 with
      | none => rfl
      | some o => have := C.F.keep _ _ q; rw [(NC p hp).2.2] at this; cases this
    · exact N' p hp
  · obtain ⟨frs', a, b, c⟩ := back led₂ frs₂ h' m' F' su N'' nd
    exact ok r led₂ frs' h' tk' b a c nd hr
end

section
variable {prog : Program} {w : World} {dp un need : Nat} {gd : Option (List Code)} {env : Env} {outer : List Env} {frs led : Led} {h₀ : Heap} {L : Addr} {m : Nm} {s : Shared}
  {p : Program} {loose : List PySem.Str} {mean : ExcName → Option Value} {mg mb : Nm} {R : Result → Shared → Prop}
theorem enterX {name qual : PySem.Str} {params : Arguments} {body : List Stmt} {scope : Scope} {dV kV doc pm cdv ct oc : Value} {an od : Option Addr} {osl : Array (Option Value)} {f : Addr} {args : Args} {binds : List (PySem.Str × Value)}
    {Ret : Led → Value → Prop}
    (C : Cal w dp un env outer frs h₀ L m led need s p loose mean mg mb)
    (ok : ∀ r tl h' tk', Fr h₀ L h' m → News h₀ L h' (tl ++ led) → (∀ q ∈ tl, Tup q) → Ret tl r → R (.ok (.ret r)) { s with heap := h', toks := tk' })
    (ho : (TopL.heap_1 w.params).lookup f = some ⟨oc, od, .func (fnOf name qual params body scope dV kV doc pm an cdv ct), osl⟩) (hcd : codeIn (TopL.heap_1 w.params) cdv qual = true)
    (hbind : BindsTo s (fnOf name qual params body scope dV kV doc pm an cdv ct) args binds)
    (hkind : (binds.all fun y => scope.names.lookup y.1 == some .local || scope.names.lookup y.1 == some .cell) = true)
    (hnd : ((cellsFrom 0 scope.names []).map (·.1)).Nodup)
    (hneed : 0 < need)
    (hco : scope.isCoroutine = false) (hgen : scope.isGenerator = false) (hk : scope.kind = .function)
    (h : ∀ L' h₁ tk₁ cells led' frs' Qc Ec, Fr h₀ L' h₁ (bindL (envOfC qual scope L' f cdv).kindOf binds fun _ => none) → News h₀ L' h₁ (cells ++ led') → CellsAre (bindC (envOfC qual scope L' f cdv).kindOf binds fun _ => none) (cellsFrom (L' + 1) scope.names []) cells →
      (∀ q ∈ led, q ∈ led') → TI.Frs (env :: outer) frs' → (∀ p ∈ frs', p ∈ led') → (∀ p ∈ led', p.1 < L') →
      (∀ r tl h' m' tk', Fr h₀ L' h' m' → News h₀ L' h' (tl ++ led') → (∀ q ∈ tl, Tup q) → Ret tl r → Qc (.ret r) { s with heap := h', toks := tk' }) →
      PassesOwn (model prog w) (top (dp + 1) (un + 3) gd (envOfC qual scope L' f cdv :: env :: outer)) (envOfC qual scope L' f cdv) Ec →
      wpAny (model prog w) (top (dp + 1) (un + 3) gd (envOfC qual scope L' f cdv :: env :: outer)) (execs body (envOfC qual scope L' f cdv)) Qc Ec { s with heap := h₁, toks := tk₁ }) :
    codeAny (model prog w) (top dp un gd (env :: outer)) (.call (.ref f) args) R s := by
  refine codeAny_call_function (fd := fnOf name qual params body scope dV kV doc pm an cdv ct) (body := body) (by show dp < 1000; have := C.hd; (exact ltz this)) ((C.X.keeps C.F.keep) _ _ ho) rfl hco hgen rfl (codeRec_of (C.X.keeps C.F.keep) hcd) (hbind _ _ _ _ ?_)
  refine wpAny_newFunctionEnv_cells hk (kindsX hkind _) fun env' he s' x => ?_
  subst he
  refine ⟨(C.T.nolimit.keeps C.F.keep).keeps x.toInCall.keep, codeAny_func ?_⟩
  obtain ⟨h₁, tk, rfl, _⟩ := x.done
  have hk₁ := x.toInCall.keep
  obtain ⟨cells, NC, Y⟩ := Cl.news (h₀ := s.heap) (Nat.le_refl _) fun n c hm => ⟨x.cell n c (lookup_of_mem_nodup (cellsFrom_names scope.names 0 (s.heap.objs.size + 1) [] [] rfl ▸ hnd) hm), x.above n c hm⟩
  refine hold (fun Ph hPh => ?_)
  obtain ⟨led', frs', N', hin, Fs', Fi', lt', back⟩ := C.into hk₁
  refine hPh ?_
  clear hPh
  have hsz : h₀.objs.size ≤ s.heap.objs.size := by
    refine hold (fun Ph hPh => ?_)
    obtain ⟨oL, _, _, hL, _⟩ := id C.F.ns
    refine hPh ?_
    clear hPh
    exact Nat.le_trans C.F.above (Nat.le_of_lt (Heap.lt_size hL))
  refine h _ _ _ cells led' frs' (fun fl s' => R (.ok (.ret (match fl with | .ret v => v | _ => .none))) s') (fun e s' => wpAny (model prog w) ((top dp un gd (env :: outer)).deeper (envOfC qual scope s.heap.objs.size f cdv)) (leaving (envOfC qual scope s.heap.objs.size f cdv) e) (fun _ s'' => R (.error e) s'') (fun e' s'' => R (.error e') s'') s')
    ⟨x.toInCall.ns, fun b o e => hk₁ b o (C.F.keep b o e), hsz⟩ (fun p hp => ?_) Y hin Fs' Fi' lt' (fun r tl h' m' tk' F' N'' nd hr => ?_) PassesOwn.leaving
  · rcases List.mem_append.mp hp with hp | hp
    · refine ⟨(NC p hp).1, (NC p hp).2.1, ?_⟩
      cases q : h₀.get? p.1 with
      | none => rfl
      | some o => have := C.F.keep _ _ q; rw [(NC p hp).2.2] at this; cases this
    · exact N' p hp
  · obtain ⟨a, b⟩ := back tl h' m' F' N'' nd
    exact ok r tl h' tk' a b nd hr
end

section
variable {prog : Program} {w : World} {A : Around} {h₀ : Heap} {L : Addr} {m : Nm} {env : Env} {s : Shared}
/-- a comprehension's turns by what holds between them -/
theorem compRest_inv {elt : Expr} {x : PySem.Str} {scope : Scope} {cl : List (PySem.Str × Addr)} {S : Led → Prop} {P : Nat → Value → Prop} {Fin : List Value → Led → Prop} {n : Nat} {news : Led}
    (J : Nat → List Value → Led → Prop) (h0 : J 0 [] news)
    (turn : ∀ i ys news v I oI C oC D m₂ h tk, i < n → J i ys news → P i v → LCg.NsObj oC m₂ → m₂ x = some v → Fr h₀ L h m → News h₀ L h ((I, oI) :: (C, oC) :: (D, LCg.lst ys) :: news) → LCg.Off3 I C D news → ((@Ne Nat I C) ∧ (@Ne Nat I D) ∧ (@Ne Nat C D)) → ∀ E',
      wpAny (model prog w) A (eval elt (compEnvC scope cl C env)) (LCg.CompEnd h₀ L m { s with heap := h, toks := tk } I oI C oC D (LCg.lst ys) S (fun y news' => J (i + 1) (ys ++ [y]) news')) E' { s with heap := h, toks := tk })
    (fin : ∀ ys news, J n ys news → Fin ys news) : LCg.CompRest prog w A h₀ L m env elt x scope cl s S P Fin n 0 [] news := by
  have : ∀ k i ys news, i + k = n → J i ys news → LCg.CompRest prog w A h₀ L m env elt x scope cl s S P Fin k i ys news := by
    intro k
    induction k with
    | zero => intro i ys news hi hJ; obtain rfl : i = n := hi; exact fin _ _ hJ
    | succ k ih =>
      intro i ys news hi hJ
      refine LCg.CompRest.succ fun v I oI C oC D m₂ h tk E' hP hC hx F N off ne => ?_
      refine wpAny_mono (turn i ys news v I oI C oC D m₂ h tk (by lia) hJ hP hC hx F N off ne E') (fun y s₂ q => ?_) fun _ _ x => x
      refine hold (fun Ph hPh => ?_)
      obtain ⟨h', tk', news', e, F', N', o', S', J'⟩ := q
      refine hPh ?_
      clear hPh
      exact ⟨h', tk', news', e, F', N', o', S', ih _ _ _ (by lia) J'⟩
  exact this n 0 [] news (by (exact Nat.zero_add _)) h0
end
section
variable {prog : Program} {w : World} {A : Around} {E : Value → Shared → Prop} {s : Shared} {h₀ : Heap} {L : Addr} {m : Nm} {env : Env}
theorem ListComp_Tu {elt iter : Expr} {x : PySem.Str} {px : Pos} {scope : Scope} {cl : List (PySem.Str × Addr)} {pos : Pos} {Q : Value → Shared → Prop} (_F₀ : Fr h₀ L s.heap m)
    (hclos : closureFor scope env = pure cl) (hcell : ∀ y ∈ scope.names, y.2 ≠ .cell) (hkind : scope.kind = .function)
    (hnames : ∀ y ∈ scope.names, y.2 = .local → scope.names.lookup y.1 = some .local) (hx : scope.names.lookup x = some .local)
    (h : wpAny (model prog w) A (eval iter env) (fun xv s₁ => ∃ (ax : Addr) (its : Array Value) (o : Obj) (k : Nat) (news : Led), xv = .ref ax ∧ A.handled = none ∧ Fr h₀ L s₁.heap m ∧ News h₀ L s₁.heap news ∧ (ax, o) ∈ news ∧ o.cls = .type "tuple" ∧ o.data = .seq its k ∧ its.size ≤ sizeLine ∧
      ∀ g, LCg.CompRest prog w A h₀ L m env elt x scope cl { s₁ with heap := g } (fun nw => (ax, o) ∈ nw) (fun i v => its[i]? = some v) (LCg.FinE h₀ L m { s₁ with heap := g } Q) its.size 0 [] news) E s)
    (hs : ∀ x, foldedSetIterable iter env x = pure x := by intro _; rfl) :
    wpAny (model prog w) A (eval (.ListComp elt [⟨.Name x px, iter, [], 0⟩] scope pos) env) Q E s := by
  rw [eval_ListComp]
  refine wpAny_comprehension_free (use := none) rfl hs hclos hkind hnames (wpAny_mono h (fun xv s₁ h₁ => ?_) fun _ _ e => e)
  refine hold (fun Ph hPh => ?_)
  obtain ⟨ax, its, o, k, news, rfl, hh, F, N, hm, hc, hd, hsz, R⟩ := h₁
  refine hPh ?_
  clear hPh
  have hl : Heap.IsTuple s₁.heap ax its := ⟨o, (N _ hm).1, hc, k, hd⟩
  have hlt : ax < s₁.heap.objs.size := Heap.lt_size (N _ hm).1
  refine wpAny_pyIter_tuple hl ?_
  have up : ∀ b o, s₁.heap.get? b = some o → (s₁.heap.push { cls := .type "tuple_iterator", data := .fields #[.ref ax, .int 0 0] }).get? b = some o := fun b o e => Heap.get?_push_of_some _ e
  refine LCg.block_U (Walks.tuple hh s₁.heap.objs.size ax (Nat.ne_of_lt hlt) its) hsz (fun i h st => by obtain ⟨o, e, _⟩ := st.1; exact ⟨o, e⟩)
    (fun i h h' oI nw st e e' kk NN S => ⟨by obtain ⟨o', q, r⟩ := st.1; rw [e] at q; cases q; exact ⟨oI, e', r⟩, ⟨o, (NN _ S).1, hc, k, hd⟩⟩)
    hcell hkind hx ⟨⟨_, Heap.get?_push_size _ rfl, rfl, rfl⟩, ⟨o, up _ _ (N _ hm).1, hc, k, hd⟩⟩ (fun b hb => ?_)
    (F.keeps up) (N.grown up) (Nat.ne_of_lt F.ns.lt) (next_is_new F) (fun p hp => Nat.ne_of_lt (Heap.lt_size (N p hp).1)) hm (R _) ?_
  · show b < (s₁.heap.push _).objs.size
    rw [Heap.size_push]
    rcases List.mem_cons.mp hb with rfl | hb
    · exact Nat.lt_succ_self _
    · rw [List.mem_singleton.mp hb]; exact Nat.lt_succ_of_lt hlt
  · intro D C h tk m' ys news' F' N' o1 hn hC₀ hD₀ hCL hDL hCD offC fin
    refine ⟨m', hn, fun h'' hs'' => fin D h'' tk (F'.change hs'' hCL hC₀) (fun p hp => ?_) o1⟩
    refine ⟨hs''.extBut _ _ ?_ (N' p hp).1, (N' p hp).2⟩
    rcases List.mem_cons.mp hp with rfl | hp
    · exact Ne.symm hCD
    · exact offC p hp
end
section
variable {prog : Program} {w : World} {A : Around} {h₀ : Heap} {L : Addr} {m : Nm} {env : Env} {s : Shared}
/-- the same, the ledger standing still -/
theorem compRest_fix {elt : Expr} {x : PySem.Str} {scope : Scope} {cl : List (PySem.Str × Addr)} {S : Led → Prop} {P : Nat → Value → Prop} {Fin : List Value → Led → Prop} {n : Nat} {news : Led}
    (J : Nat → List Value → Prop) (h0 : J 0 [])
    (turn : ∀ i ys v I oI C oC D m₂ h tk, i < n → J i ys → P i v → LCg.NsObj oC m₂ → m₂ x = some v → Fr h₀ L h m → News h₀ L h ((I, oI) :: (C, oC) :: (D, LCg.lst ys) :: news) → LCg.Off3 I C D news → ((@Ne Nat I C) ∧ (@Ne Nat I D) ∧ (@Ne Nat C D)) → ∀ E',
      wpAny (model prog w) A (eval elt (compEnvC scope cl C env)) (LCg.CompEnd h₀ L m { s with heap := h, toks := tk } I oI C oC D (LCg.lst ys) S (fun y news' => news' = news ∧ J (i + 1) (ys ++ [y]))) E' { s with heap := h, toks := tk })
    (fin : ∀ ys, J n ys → Fin ys news) : LCg.CompRest prog w A h₀ L m env elt x scope cl s S P Fin n 0 [] news :=
  compRest_inv (fun i ys nw => nw = news ∧ J i ys) ⟨rfl, h0⟩ (fun i ys nw v I oI C oC D m₂ h tk hi ⟨e, hJ⟩ => by subst e; exact turn i ys v I oI C oC D m₂ h tk hi hJ) (fun ys nw ⟨e, hJ⟩ => by subst e; exact fin ys hJ)
end
section
variable {prog : Program} {w : World} {dp un need : Nat} {gd : Option (List Code)} {env : Env} {outer : List Env} {frs led : Led} {h₀ : Heap} {L : Addr} {m : Nm} {s : Shared}
  {p : Program} {loose : List PySem.Str} {mean : ExcName → Option Value} {mg mb : Nm} {R : Result → Shared → Prop}
/-- the entry to a def that may turn the ledger, which may hold anything -/
theorem enterU {name qual : PySem.Str} {params : Arguments} {body : List Stmt} {scope : Scope} {dV kV doc pm cdv ct oc : Value} {an od : Option Addr} {osl : Array (Option Value)} {f : Addr} {args : Args} {binds : List (PySem.Str × Value)}
    (C : Cal w dp un env outer frs h₀ L m led need s p loose mean mg mb)
    (ho : (TopL.heap_1 w.params).lookup f = some ⟨oc, od, .func (fnOf name qual params body scope dV kV doc pm an cdv ct), osl⟩) (hcd : codeIn (TopL.heap_1 w.params) cdv qual = true)
    (hbind : BindsTo s (fnOf name qual params body scope dV kV doc pm an cdv ct) args binds) (hloc : ∀ y ∈ binds, scope.names.lookup y.1 = some .local)
    (hneed : 0 < need)
    (hco : scope.isCoroutine = false) (hgen : scope.isGenerator = false) (hk : scope.kind = .function) (hcell : ∀ x ∈ scope.names, x.2 ≠ .cell)
    (h : ∀ L' h₁ tk₁ oL frs' Qc Ec, Fr h₀ L' h₁ (fun y => binds.reverse.lookup y) → News h₀ L' h₁ ((L, oL) :: led) → TI.Frs (env :: outer) frs' → (∀ p ∈ frs', p ∈ ((L, oL) :: led : Led)) → (∀ p ∈ ((L, oL) :: led : Led), p.1 < L') → (∀ p ∈ led, p.1 ≠ L) →
      (∀ r led₂ h' m' tk', Fr h₀ L' h' m' → News h₀ L' h' ((L, oL) :: led₂) → (∀ p ∈ led₂, p.1 ≠ L) → (Fr h₀ L h' m → News h₀ L h' led₂ → R (.ok (.ret r)) { s with heap := h', toks := tk' }) → Qc (.ret r) { s with heap := h', toks := tk' }) →
      PassesOwn (model prog w) (top (dp + 1) (un + 3) gd (envOf qual scope L' f cdv :: env :: outer)) (envOf qual scope L' f cdv) Ec →
      wpAny (model prog w) (top (dp + 1) (un + 3) gd (envOf qual scope L' f cdv :: env :: outer)) (execs body (envOf qual scope L' f cdv)) Qc Ec { s with heap := h₁, toks := tk₁ }) :
    codeAny (model prog w) (top dp un gd (env :: outer)) (.call (.ref f) args) R s := by
  refine codeAny_call_def (fd := fnOf name qual params body scope dV kV doc pm an cdv ct) (body := body) (binds := binds) (by show dp < 1000; have := C.hd; (exact ltz this)) ((C.X.keeps C.F.keep) _ _ ho) rfl (C.T.nolimit.keeps C.F.keep) (codeRec_of (C.X.keeps C.F.keep) hcd) rfl hbind hcell hloc (fun h₁ hns hk₁ => ?_) hco hgen hk
  refine hold (fun Ph hPh => ?_)
  obtain ⟨F, X, N, T, Fs, Fi, hf, hke, hd, hu⟩ := C
  refine hPh ?_
  clear hPh
  refine hold (fun Ph hPh => ?_)
  obtain ⟨oL, es, ep, hL, hLd, hLk⟩ := id F.ns
  refine hPh ?_
  clear hPh
  have hLn : h₀.get? L = none := by
    cases q : h₀.get? L with
    | none => rfl
    | some o => exact absurd (Nat.lt_of_lt_of_le (Heap.lt_size q) F.above) (Nat.lt_irrefl _)
  have ltL : ∀ p ∈ ((L, oL) :: led : Led), p.1 < s.heap.objs.size := fun p hp => by
    rcases List.mem_cons.mp hp with rfl | hp
    · exact Heap.lt_size hL
    · exact Heap.lt_size (N p hp).1
  have hsz : h₀.objs.size ≤ s.heap.objs.size := Nat.le_trans F.above (Nat.le_of_lt (Heap.lt_size hL))
  refine h _ _ _ oL ((L, oL) :: frs) (fun fl s' => R (.ok (.ret (match fl with | .ret v => v | _ => .none))) s') (fun e s' => wpAny (model prog w) ((top dp un gd (env :: outer)).deeper (envOf qual scope s.heap.objs.size f cdv)) (leaving (envOf qual scope s.heap.objs.size f cdv) e) (fun _ s'' => R (.error e) s'') (fun e' s'' => R (.error e') s'') s')
    ⟨hns, fun b o e => hk₁ b o (F.keep b o e), hsz⟩ (fun p hp => ?_) ⟨by rw [hke]; decide, hf, ⟨es, ep, hLd⟩, Fs⟩ (fun p hp => ?_) ltL (fun p hp => (N p hp).2.1) (fun r led₂ h' m' tk' F' N' ne k => ?_) PassesOwn.leaving
  · refine ⟨?_, Nat.ne_of_lt (ltL p hp), ?_⟩
    · rcases List.mem_cons.mp hp with rfl | hp
      · exact hk₁ _ _ hL
      · exact hk₁ _ _ (N p hp).1
    · rcases List.mem_cons.mp hp with rfl | hp
      · exact hLn
      · exact (N p hp).2.2
  · rcases List.mem_cons.mp hp with rfl | hp
    · exact .head _
    · exact .tail _ (Fi p hp)
  · have e1 : h'.get? L = some oL := (N' (L, oL) (.head _)).1
    refine k ⟨F.ns.at' fun o q => ?_, F'.keep, F.above⟩ (fun p hp => ⟨(N' p (.tail _ hp)).1, ne p hp, (N' p (.tail _ hp)).2.2⟩)
    rw [hL] at q; cases q; exact e1
/-- the same, with cells -/
theorem enterUX {name qual : PySem.Str} {params : Arguments} {body : List Stmt} {scope : Scope} {dV kV doc pm cdv ct oc : Value} {an od : Option Addr} {osl : Array (Option Value)} {f : Addr} {args : Args} {binds : List (PySem.Str × Value)}
    (C : Cal w dp un env outer frs h₀ L m led need s p loose mean mg mb)
    (ho : (TopL.heap_1 w.params).lookup f = some ⟨oc, od, .func (fnOf name qual params body scope dV kV doc pm an cdv ct), osl⟩) (hcd : codeIn (TopL.heap_1 w.params) cdv qual = true)
    (hbind : BindsTo s (fnOf name qual params body scope dV kV doc pm an cdv ct) args binds) 
    (hkind : (binds.all fun y => scope.names.lookup y.1 == some .local || scope.names.lookup y.1 == some .cell) = true)
    (hndp : ((cellsFrom 0 scope.names []).map (·.1)).Nodup)
    (hneed : 0 < need)
    (hco : scope.isCoroutine = false) (hgen : scope.isGenerator = false) (hk : scope.kind = .function)
    (h : ∀ L' h₁ tk₁ cells oL frs' Qc Ec, Fr h₀ L' h₁ (bindL (envOfC qual scope L' f cdv).kindOf binds fun _ => none) → News h₀ L' h₁ (cells ++ (L, oL) :: led) → CellsAre (bindC (envOfC qual scope L' f cdv).kindOf binds fun _ => none) (cellsFrom (L' + 1) scope.names []) cells → TI.Frs (env :: outer) frs' → (∀ p ∈ frs', p ∈ ((L, oL) :: led : Led)) → (∀ p ∈ ((L, oL) :: led : Led), p.1 < L') → (∀ p ∈ led, p.1 ≠ L) → (∃ es ep, oL.data = .dict es ep) →
      (∀ r led₂ h' m' tk', Fr h₀ L' h' m' → News h₀ L' h' ((L, oL) :: led₂) → (∀ p ∈ led₂, p.1 ≠ L) → (Fr h₀ L h' m → News h₀ L h' led₂ → R (.ok (.ret r)) { s with heap := h', toks := tk' }) → Qc (.ret r) { s with heap := h', toks := tk' }) →
      PassesOwn (model prog w) (top (dp + 1) (un + 3) gd (envOfC qual scope L' f cdv :: env :: outer)) (envOfC qual scope L' f cdv) Ec →
      wpAny (model prog w) (top (dp + 1) (un + 3) gd (envOfC qual scope L' f cdv :: env :: outer)) (execs body (envOfC qual scope L' f cdv)) Qc Ec { s with heap := h₁, toks := tk₁ }) :
    codeAny (model prog w) (top dp un gd (env :: outer)) (.call (.ref f) args) R s := by
  refine codeAny_call_function (fd := fnOf name qual params body scope dV kV doc pm an cdv ct) (body := body) (by show dp < 1000; have := C.hd; (exact ltz this)) ((C.X.keeps C.F.keep) _ _ ho) rfl hco hgen rfl (codeRec_of (C.X.keeps C.F.keep) hcd) (hbind _ _ _ _ ?_)
  refine wpAny_newFunctionEnv_cells hk (kindsX hkind _) fun env' he s' x => ?_
  subst he
  refine ⟨(C.T.nolimit.keeps C.F.keep).keeps x.toInCall.keep, codeAny_func ?_⟩
  obtain ⟨h₁, tk, rfl, _⟩ := x.done
  have hk₁ := x.toInCall.keep
  obtain ⟨cells, NC, Y⟩ := Cl.news (h₀ := s.heap) (Nat.le_refl _) fun n c hm => ⟨x.cell n c (lookup_of_mem_nodup (cellsFrom_names scope.names 0 (s.heap.objs.size + 1) [] [] rfl ▸ hndp) hm), x.above n c hm⟩
  refine hold (fun Ph hPh => ?_)
  obtain ⟨F, X, N, T, Fs, Fi, hf, hke, hd, hu⟩ := C
  refine hPh ?_
  clear hPh
  refine hold (fun Ph hPh => ?_)
  obtain ⟨oL, es, ep, hL, hLd, hLk⟩ := id F.ns
  refine hPh ?_
  clear hPh
  have hLn : h₀.get? L = none := by
    cases q : h₀.get? L with
    | none => rfl
    | some o => exact absurd (Nat.lt_of_lt_of_le (Heap.lt_size q) F.above) (Nat.lt_irrefl _)
  have ltL : ∀ p ∈ ((L, oL) :: led : Led), p.1 < s.heap.objs.size := fun p hp => by
    rcases List.mem_cons.mp hp with rfl | hp
    · exact Heap.lt_size hL
    · exact Heap.lt_size (N p hp).1
  have hsz : h₀.objs.size ≤ s.heap.objs.size := Nat.le_trans F.above (Nat.le_of_lt (Heap.lt_size hL))
  refine h _ _ _ cells oL ((L, oL) :: frs) (fun fl s' => R (.ok (.ret (match fl with | .ret v => v | _ => .none))) s') (fun e s' => wpAny (model prog w) ((top dp un gd (env :: outer)).deeper (envOfC qual scope s.heap.objs.size f cdv)) (leaving (envOfC qual scope s.heap.objs.size f cdv) e) (fun _ s'' => R (.error e) s'') (fun e' s'' => R (.error e') s'') s')
    ⟨x.toInCall.ns, fun b o e => hk₁ b o (F.keep b o e), hsz⟩ (fun p hp => ?_) Y ⟨by rw [hke]; decide, hf, ⟨es, ep, hLd⟩, Fs⟩ (fun p hp => ?_) ltL (fun p hp => (N p hp).2.1) ⟨es, ep, hLd⟩ (fun r led₂ h' m' tk' F' N' ne k => ?_) PassesOwn.leaving
  · rcases List.mem_append.mp hp with hp | hp
    · refine ⟨(NC p hp).1, (NC p hp).2.1, ?_⟩
      cases q : h₀.get? p.1 with
      | none => rfl
      | some o => have := F.keep _ _ q; rw [(NC p hp).2.2] at this; cases this
    · refine ⟨?_, Nat.ne_of_lt (ltL p hp), ?_⟩
      · rcases List.mem_cons.mp hp with rfl | hp
        · exact hk₁ _ _ hL
        · exact hk₁ _ _ (N p hp).1
      · rcases List.mem_cons.mp hp with rfl | hp
        · exact hLn
        · exact (N p hp).2.2
  · rcases List.mem_cons.mp hp with rfl | hp
    · exact .head _
    · exact .tail _ (Fi p hp)
  · have e1 : h'.get? L = some oL := (N' (L, oL) (.head _)).1
    refine k ⟨F.ns.at' fun o q => ?_, F'.keep, F.above⟩ (fun p hp => ⟨(N' p (.tail _ hp)).1, ne p hp, (N' p (.tail _ hp)).2.2⟩)
    rw [hL] at q; cases q; exact e1
end
end Mine
end

section
open PySem PySem.W PySem.Spec PySem.Calls PyProof.Rows PyProof.V
namespace Mine
local macro_rules | `(tactic| walk_at "exec Raise some none") => `(tactic| (refine raise_LF rfl ?_))
local macro_rules | `(tactic| walk_at "call ref") => `(tactic| (k_dflt (refine' call_LF ?kX ?kT ?G ?d ?_; (case kX => k_asm); (case kT => k_asm); (case G => exact Fr.keep (by k_asm)); (case d => omega); k_whole); intro h' tk' e' t' d' kp' en' ee'; refine ⟨e', t', d', rfl, Frag.In.keeps (by k_asm) (fun b o q => kp' _ _ (Fr.keep (by k_asm) b o q)), ee', ?_⟩))
local macro_rules | `(tactic| walk_at "eval Name") => `(tactic| (k_here; k_dflt (refine' nL ?a ?c ?b ?F ?v ?_; (case F => k_asm); (case a => rfl); (case b => rfl); (case c => decide); (case v => rfl); k_whole)))

section
/-- a count of the octets: (its value, how many octets) -/
def rcA : List Int → Int → Int → Nat → Option (Int × Nat)
  | [], _, _, _ => none
  | k :: r, num, w, c => if k > 127 then rcA r (num + (k - 128) * w) (w * 128) (c + 1) else if k = 0 ∧ c > 0 then none else some (num + k * w, c + 1)
def rc (l : List Int) : Option (Int × Nat) := rcA l 0 1 0

theorem drop_get {ks : List Int} {j : Nat} (h : j < ks.length) : ks.drop j = ks.getD j 0 :: ks.drop (j + 1) := by
  rw [List.drop_eq_getElem_cons h]
  simp [List.getD, h]
theorem rcA_lt {ks : List Int} {j c : Nat} {num w : Int} (h : j < ks.length) : rcA (ks.drop j) num w c = if ks.getD j 0 > 127 then rcA (ks.drop (j + 1)) (num + (ks.getD j 0 - 128) * w) (w * 128) (c + 1) else if ks.getD j 0 = 0 ∧ c > 0 then none else some (num + ks.getD j 0 * w, c + 1) := by
  rw [drop_get h]; rfl
theorem rcA_ge {ks : List Int} {j c : Nat} {num w : Int} (h : ks.length ≤ j) : rcA (ks.drop j) num w c = none := by
  rw [List.drop_eq_nil_of_le h]; rfl

theorem con_read_count (prog : Program) (w : World) (b : Array UInt8) (tb : Tok) (ks : List Int) (hks : KBw.bInts b = ks) (hlen : ks.length ≤ 10000) (a : Nat) (ha : a ≤ ks.length) (ta : Tok) (led : Led) :
    Con prog w 75 [.bytes b tb, .int (a : Int) ta] 4 led
      (fun tl r => ∃ v n l t1 t2, rc (ks.drop a) = some (v, n) ∧ r = .ref l ∧ (l, ({ cls := .type "tuple", data := .seq #[.int v t1, .int ((a : Int) + (n : Int)) t2] 0 } : Obj)) ∈ tl)
      (rc (ks.drop a) = none) := by
  intro dp un gd env outer frs h₀ L m s p loose mean mg mb R C ok er
  have X := C.X
  have T := C.T
  have hd := C.hd
  have hu := C.hu
  (k_dflt (refine' enter ?kC ?kO ?kR ?k6 ?k7 ?k9 ?kB ?kn ?c2 ?c3 ?c4 ?c5 ?_; (case kC => assumption); (case kO => assumption); (case kR => assumption); (case k6 => k_is); (case k7 => k_is); (case k9 => first | exact BindsTo.of_eq rfl | fail "defaults"); (case c5 => decide); (case kB => exact locs rfl); (case kn => first | decide | omega); (case c2 => exact rfl); (case c3 => exact rfl); (case c4 => exact rfl); k_whole))
  intro L' h₁ tk₁ led' frs' Qc Ec F N Ls Fs Fi Lt okc erc hE era
  have era := eraL era
  (repeat' (first | ((((fail_if_success k_end); (fail_if_success (with_reducible show wpAny _ _ (exec (Stmt.While _ _ _ _) _) _ _ _)); (fail_if_success (with_reducible show wpAny _ _ (exec (Stmt.For _ _ _ _ _) _) _ _ _)))); ((first | walk1 | (dsimp only; walk1)))) | (first | ((with_reducible show Frag.In _ _ ∧ _); refine ⟨by k_in, ?_⟩; try dsimp only [List.nil_append, List.cons_append]) | ((with_reducible show KswPost _ _ _ _ _ _ _ _ _ _ _ _ _ _); dsimp only [KswPost]))))
  have hin : ∀ k ∈ ks, 0 ≤ k ∧ k < 256 := hks ▸ fun k hk => KBw.ints_in hk
  rename Fr _ _ _ _ => F1
  rename News _ _ _ _ => N1
  refine ksw_while (σ := Nat × Int × Int × Tok × Tok × Tok) (fun _ => led')
    (fun c => [("number", .int c.2.1 c.2.2.2.1), ("weight", .int c.2.2.1 c.2.2.2.2.1), ("spot", .int (c.1 : Int) c.2.2.2.2.2)])
    (fun _ => True) []
    (fun c => a ≤ c.1 ∧ c.1 ≤ ks.length ∧ rc (ks.drop a) = rcA (ks.drop c.1) c.2.1 c.2.2.1 (c.1 - a))
    (fun c => ks.length - c.1) (a, 0, 1, _, _, ta) F1 N1 trivial (by (((repeat' (first | exact List.forall_mem_nil _ | refine List.forall_mem_cons.mpr ⟨rfl, ?_⟩))))) ⟨Nat.le_refl _, ha, by simp [rc]⟩ ?_ hE
  refine all6 (fun j num wt t1 t2 t3 => ?_)
  intro u h tk _ q5 F2 N2
  have haj := q5.1
  have hjl := q5.2.1
  have hrc := q5.2.2
  clear q5
  dsimp only at haj hjl hrc F2 ⊢
  (repeat' (first | ((((fail_if_success k_end); (fail_if_success (with_reducible show wpAny _ _ (exec (Stmt.While _ _ _ _) _) _ _ _)); (fail_if_success (with_reducible show wpAny _ _ (exec (Stmt.For _ _ _ _ _) _) _ _ _)))); ((first | walk1 | (dsimp only; walk1)))) | (first | ((with_reducible show Frag.In _ _ ∧ _); refine ⟨by k_in, ?_⟩; try dsimp only [List.nil_append, List.cons_append]) | ((with_reducible show KswPost _ _ _ _ _ _ _ _ _ _ _ _ _ _); dsimp only [KswPost]))))
  all_goals simp only [Int.toNat_natCast] at *
  · have hj : j < ks.length := by lia
    refine ksw_end (j + 1, _, _, _, _, _) (by k_asm) (by k_asm) (fun _ h => h) trivial (by (((repeat' (first | exact List.forall_mem_nil _ | refine List.forall_mem_cons.mpr ⟨rfl, ?_⟩))))) (by ((intro z h2 h3; simp only [List.forall_mem_cons, List.not_mem_nil, false_implies, implies_true, and_true, ne_eq] at h2; simp only [List.contains_cons, List.contains_nil, Bool.or_false, Bool.or_eq_false_iff, beq_eq_false_iff_ne, ne_eq] at h3; simp [h2, h3, kstB]))) ⟨by (exact Nat.le_succ_of_le haj), by assumption, ?_⟩ (by show ks.length - (j + 1) < ks.length - j; lia)
    rw [hrc, rcA_lt hj, if_pos (by omega)]
    show _ = rcA _ _ _ (j + 1 - a)
    rw [show j + 1 - a = j - a + 1 by lia]
  all_goals first
    | exact era (by first | (rw [hrc, rcA_ge (by (clear hjl; lia))]) | (rw [hrc, rcA_lt (by omega), if_neg (by omega), if_pos (by lia)])) (by assumption) (by assumption) (by assumption) (by k_asm) (by k_asm)
    | exact okc _ [_] _ _ _ (by k_asm) (by k_asm) (fun q hq => by rw [List.mem_singleton.mp hq]; exact ⟨rfl, rfl⟩) ⟨_, j - a + 1, _, _, _, by rw [hrc, rcA_lt (by omega), if_neg (by omega), if_neg (by (first | (clear haj; omega) | (clear haj; lia) | omega))], rfl, List.mem_singleton.mpr (by rw [show ((a : Int) + ((j - a + 1 : Nat) : Int)) = (j : Int) + 1 by (first | lia | omega)])⟩

end

section
/-- the octets of a number -/
def co (n : Nat) : List Int := if n > 127 then (128 + (n : Int) % 128) :: co (n / 128) else [(n : Int)]
termination_by n
decreasing_by lia
theorem co_gt {n : Nat} (h : n > 127) : co n = (128 + (n : Int) % 128) :: co (n / 128) := by rw [co, if_pos h]
theorem co_le {n : Nat} (h : n ≤ 127) : co n = [(n : Int)] := by rw [co, if_neg (by lia)]
theorem co_len (n : Nat) : (co n).length ≤ n + 1 := by
  induction n using Nat.strongRecOn with
  | ind n ih =>
    by_cases h : n > 127
    · rw [co_gt h, List.length_cons]
      have := ih (n / 128) (by lia)
      lia
    · rw [co_le (by (exact Nat.not_lt.mp h))]; simp
theorem co_in (n : Nat) : ∀ k ∈ co n, 0 ≤ k ∧ k < 256 := by
  induction n using Nat.strongRecOn with
  | ind n ih =>
    by_cases h : n > 127
    · rw [co_gt h]
      intro k hk
      rcases List.mem_cons.mp hk with rfl | hk
      · lia
      · exact ih (n / 128) (by omega) k hk
    · rw [co_le (by (exact Nat.not_lt.mp h))]
      intro k hk
      rw [List.mem_singleton.mp hk]
      lia
theorem byteArr_snoc (ks : List Int) (k : Int) : byteArr (ks ++ [k]) = (byteArr ks).push k.toNat.toUInt8 := by simp [byteArr]
theorem byteArr_append (ks js : List Int) : byteArr (ks ++ js) = byteArr ks ++ byteArr js := by simp [byteArr]
theorem bInts_byteArr {ks : List Int} (h : ∀ k ∈ ks, 0 ≤ k ∧ k < 256) : KBw.bInts (byteArr ks) = ks := by
  unfold KBw.bInts byteArr
  simp only [List.map_map]
  conv => rhs; rw [← List.map_id ks]
  refine List.map_congr_left fun k hk => ?_
  have := h k hk
  simp only [Function.comp, id]
  rw [UInt8.toNat_ofNat']
  lia

theorem Fr.ext {h₀ h h' : Heap} {L : Addr} {m : Nm} (F : Fr h₀ L h m) (k : ∀ b o, h.get? b = some o → h'.get? b = some o) : Fr h₀ L h' m := ⟨F.ns.at' fun o e => k _ o e, fun b o e => k b o (F.keep b o e), F.above⟩
theorem News.ext {h₀ h h' : Heap} {L : Addr} {led : Led} (N : News h₀ L h led) (k : ∀ b o, h.get? b = some o → h'.get? b = some o) : News h₀ L h' led := fun p hp => ⟨k _ _ (N p hp).1, (N p hp).2⟩
theorem News.more {h₀ h h' : Heap} {L a : Addr} {o : Obj} {m : Nm} {led : Led} (F : Fr h₀ L h m) (N : News h₀ L h' led) (e : h'.get? a = some o) (ha : h.objs.size ≤ a) : News h₀ L h' ((a, o) :: led) := fun p hp => by
  rcases List.mem_cons.mp hp with rfl | hp
  · obtain ⟨oL, _, _, hL, _⟩ := id F.ns
    refine ⟨e, fun q => ?_, ?_⟩
    · have h1 := Heap.lt_size hL
      have h2 : a = L := q
      rw [h2] at ha
      exact Nat.lt_irrefl _ (Nat.lt_of_lt_of_le h1 ha)
    · cases q : h₀.get? a with
      | none => rfl
      | some o' => exact absurd (Nat.lt_of_lt_of_le (Heap.lt_size (F.keep _ _ q)) ha) (Nat.lt_irrefl _)
  · exact N p hp
theorem upd_head {h₀ h h' : Heap} {L a : Addr} {o o' : Obj} {m : Nm} {led : Led} (F : Fr h₀ L h m) (N : News h₀ L h ((a, o) :: led)) (ne : ∀ p ∈ led, p.1 ≠ a) (e : h'.get? a = some o') (hs : Heap.SameBut a h h') : Fr h₀ L h' m ∧ News h₀ L h' ((a, o') :: led) := by
  have ha := N (a, o) (.head _)
  refine ⟨⟨F.ns.sameBut hs (Ne.symm ha.2.1), fun b ob q => (hs.2 b fun x => ?_).trans (F.keep b ob q), F.above⟩, N.setHead ne hs e⟩
  rw [x] at q
  have := ha.2.2
  rw [q] at this; cases this

theorem con_count_octets (prog : Program) (w : World) (n : Nat) (hn : n ≤ 10000) (tn : Tok) (led : Led) :
    ConS prog w 68 [.int (n : Int) tn] 4 led (fun tl r => tl = [] ∧ ∃ t, r = .bytes (byteArr (co n)) t) := by
  intro dp un gd env outer frs h₀ L m s p loose mean mg mb R C ok
  have X := C.X
  have T := C.T
  have hd := C.hd
  have hu := C.hu
  (k_dflt (refine' enterS ?kC ?kO ?k6 ?k7 ?k9 ?kB ?kn ?c2 ?c3 ?c4 ?c5 ?_; (case kC => assumption); (case kO => assumption); (case k6 => k_is); (case k7 => k_is); (case k9 => first | exact BindsTo.of_eq rfl | fail "defaults"); (case c5 => decide); (case kB => exact locs rfl); (case kn => first | decide | omega); (case c2 => exact rfl); (case c3 => exact rfl); (case c4 => exact rfl); k_whole))
  intro L' h₁ tk₁ led' frs' Qc F N Ls Fs Fi Lt okc
  refine wpC_execs_cons (wpC_Assign (wpC_Call ?_))
  (repeat' (first | ((((fail_if_success k_end); (fail_if_success (with_reducible show wpAny _ _ (exec (Stmt.While _ _ _ _) _) _ _ _)); (fail_if_success (with_reducible show wpAny _ _ (exec (Stmt.For _ _ _ _ _) _) _ _ _)))); ((first | walk1 | (dsimp only; walk1)))) | (first | ((with_reducible show Frag.In _ _ ∧ _); refine ⟨by k_in, ?_⟩; try dsimp only [List.nil_append, List.cons_append]) | ((with_reducible show KswPost _ _ _ _ _ _ _ _ _ _ _ _ _ _); dsimp only [KswPost]))))
  rename Fr _ _ _ _ => F1
  refine wpC_callWith_type0 (call_ba fun h2 k2 e2 => ?_)
  have F2 := Fr.ext F1 k2
  have N2 := News.more F1 (News.ext N k2) e2 (Nat.le_refl _)
  have ne2 : ∀ p ∈ led', p.1 ≠ h₁.objs.size := fun p hp => Nat.ne_of_lt (Nat.lt_trans (Lt p hp) F1.ns.lt)
  dsimp only at F2 N2 e2 ⊢
  clear F1 N k2
  generalize h₁.objs.size = a at *
  (repeat' (first | ((((fail_if_success k_end); (fail_if_success (with_reducible show wpAny _ _ (exec (Stmt.While _ _ _ _) _) _ _ _)); (fail_if_success (with_reducible show wpAny _ _ (exec (Stmt.For _ _ _ _ _) _) _ _ _)))); ((first | walk1 | (dsimp only; walk1)))) | (first | ((with_reducible show Frag.In _ _ ∧ _); refine ⟨by k_in, ?_⟩; try dsimp only [List.nil_append, List.cons_append]) | ((with_reducible show KswPost _ _ _ _ _ _ _ _ _ _ _ _ _ _); dsimp only [KswPost]))))
  try dsimp only
  ((refine wpC_leaf ?_; (repeat' (first | ((((fail_if_success k_end); (fail_if_success (with_reducible show wpAny _ _ (exec (Stmt.While _ _ _ _) _) _ _ _)); (fail_if_success (with_reducible show wpAny _ _ (exec (Stmt.For _ _ _ _ _) _) _ _ _)))); ((first | walk1 | (dsimp only; walk1)))) | (first | ((with_reducible show Frag.In _ _ ∧ _); refine ⟨by k_in, ?_⟩; try dsimp only [List.nil_append, List.cons_append]) | ((with_reducible show KswPost _ _ _ _ _ _ _ _ _ _ _ _ _ _); dsimp only [KswPost])))); try dsimp only))
  rename Fr _ _ _ _ => F3
  rename News _ _ _ _ => N3
  refine wpC_execs_cons (ksw_whileC (σ := Int × List Int × Tok) (fun c => (a, baObj (byteArr c.2.1)) :: led')
    (fun c => [("rest", .int c.1 c.2.2)]) (fun _ => True) []
    (fun c => 0 ≤ c.1 ∧ co n = c.2.1 ++ co c.1.toNat ∧ c.1.toNat ≤ n) (fun c => c.1.toNat) ((n : Int), [], _) F3 N3 trivial (by (((repeat' (first | exact List.forall_mem_nil _ | refine List.forall_mem_cons.mpr ⟨rfl, ?_⟩))))) ⟨by (exact n0 _), by simp, by simp⟩ ?_)
  clear F3 N3
  refine all3 (fun r acc t1 => ?_)
  intro u h tk _ q5 F4 N4
  have hr0 := q5.1
  have hco := q5.2.1
  have hle := q5.2.2
  clear q5
  dsimp only at hr0 hco hle F4 N4 ⊢
  have hlen : (byteArr acc).size ≤ n + 1 := by
    rw [byteArr_size]
    have := co_len n
    rw [hco, List.length_append] at this
    lia
  (repeat' (first | ((((fail_if_success k_end); (fail_if_success (with_reducible show wpAny _ _ (exec (Stmt.While _ _ _ _) _) _ _ _)); (fail_if_success (with_reducible show wpAny _ _ (exec (Stmt.For _ _ _ _ _) _) _ _ _)))); ((first | walk1 | (dsimp only; walk1)))) | (first | ((with_reducible show Frag.In _ _ ∧ _); refine ⟨by k_in, ?_⟩; try dsimp only [List.nil_append, List.cons_append]) | ((with_reducible show KswPost _ _ _ _ _ _ _ _ _ _ _ _ _ _); dsimp only [KswPost]))))
  · ((refine wpC_execs_cons (wpC_Expr (wpC_Meth ?_)); (repeat' (first | ((((fail_if_success k_end); (fail_if_success (with_reducible show wpAny _ _ (exec (Stmt.While _ _ _ _) _) _ _ _)); (fail_if_success (with_reducible show wpAny _ _ (exec (Stmt.For _ _ _ _ _) _) _ _ _)))); (fail_if_success (with_reducible show wpAny _ _ (getMethod (Value.ref _) _ _) _ _ _)); (fail_if_success (with_reducible show wpAny _ _ (call (Value.type _) [Value.ref _]) _ _ _)); ((first | walk1 | (dsimp only; walk1)))) | (first | ((with_reducible show Frag.In _ _ ∧ _); refine ⟨by k_in, ?_⟩; try dsimp only [List.nil_append, List.cons_append]) | ((with_reducible show KswPost _ _ _ _ _ _ _ _ _ _ _ _ _ _); dsimp only [KswPost])))); (rename News _ _ _ _ => Nba); refine getMethod_ba (Nba _ (.head _)).1 ba_slot_append.lookup ba_typeOf_append ?_; dsimp only; refine wpC_callWith_builtin (wpC_of_any ?_); (repeat' (first | ((((fail_if_success k_end); (fail_if_success (with_reducible show wpAny _ _ (exec (Stmt.While _ _ _ _) _) _ _ _)); (fail_if_success (with_reducible show wpAny _ _ (exec (Stmt.For _ _ _ _ _) _) _ _ _)))); ((first | walk1 | (dsimp only; walk1)))) | (first | ((with_reducible show Frag.In _ _ ∧ _); refine ⟨by k_in, ?_⟩; try dsimp only [List.nil_append, List.cons_append]) | ((with_reducible show KswPost _ _ _ _ _ _ _ _ _ _ _ _ _ _); dsimp only [KswPost]))))))
    rename Fr _ _ _ _ => F5
    rename News _ _ _ _ => N5
    have e1 : (128 + r.fmod 128) = 128 + r % 128 := by rw [Int.fmod_eq_emod_of_nonneg _ (by decide)]
    refine append_ba (N5 _ (.head _)).1 (by rw [e1]; (clear e1; lia)) (by rw [sizeLine_eq]; lia) fun h' e' hs' => ?_
    obtain ⟨F6, N6⟩ := upd_head F5 N5 ne2 e' hs'
    dsimp only at F6 N6 ⊢
    clear F5 N5
    ((refine wpC_leaf ?_; (repeat' (first | ((((fail_if_success k_end); (fail_if_success (with_reducible show wpAny _ _ (exec (Stmt.While _ _ _ _) _) _ _ _)); (fail_if_success (with_reducible show wpAny _ _ (exec (Stmt.For _ _ _ _ _) _) _ _ _)))); ((first | walk1 | (dsimp only; walk1)))) | (first | ((with_reducible show Frag.In _ _ ∧ _); refine ⟨by k_in, ?_⟩; try dsimp only [List.nil_append, List.cons_append]) | ((with_reducible show KswPost _ _ _ _ _ _ _ _ _ _ _ _ _ _); dsimp only [KswPost])))); try dsimp only))
    refine wpC_execs_nil ⟨rfl, ?_⟩
    have ek : byteArr (acc ++ [128 + r % 128]) = (byteArr acc).push (128 + r.fmod 128).toNat.toUInt8 := by rw [byteArr_snoc, e1]
    have ed : r.fdiv 128 = r / 128 := Int.fdiv_eq_ediv_of_nonneg _ (by decide)
    refine ksw_end (r.fdiv 128, acc ++ [128 + r % 128], _) (by k_asm) (by k_asm) (by dsimp only; rw [ek]; exact fun _ h => h) trivial (by (((repeat' (first | exact List.forall_mem_nil _ | refine List.forall_mem_cons.mpr ⟨rfl, ?_⟩))))) (by ((intro z h2 h3; simp only [List.forall_mem_cons, List.not_mem_nil, false_implies, implies_true, and_true, ne_eq] at h2; simp only [List.contains_cons, List.contains_nil, Bool.or_false, Bool.or_eq_false_iff, beq_eq_false_iff_ne, ne_eq] at h3; simp [h2, h3, kstB]))) ⟨by rw [ed]; (clear e1; lia), ?_, by rw [ed]; (clear e1; lia)⟩ (by show (r.fdiv 128).toNat < r.toNat; rw [ed]; (clear e1 hn; lia))
    show co n = (acc ++ [_]) ++ co (r.fdiv 128).toNat
    rw [hco, co_gt (n := r.toNat) (by (clear e1; lia)), List.append_assoc, ed, show (r / 128).toNat = r.toNat / 128 by (clear e1; lia), show ((r.toNat : Nat) : Int) = r by (clear e1; lia)]; rfl
  · ((refine wpC_execs_cons (wpC_Expr (wpC_Meth ?_)); (repeat' (first | ((((fail_if_success k_end); (fail_if_success (with_reducible show wpAny _ _ (exec (Stmt.While _ _ _ _) _) _ _ _)); (fail_if_success (with_reducible show wpAny _ _ (exec (Stmt.For _ _ _ _ _) _) _ _ _)))); (fail_if_success (with_reducible show wpAny _ _ (getMethod (Value.ref _) _ _) _ _ _)); (fail_if_success (with_reducible show wpAny _ _ (call (Value.type _) [Value.ref _]) _ _ _)); ((first | walk1 | (dsimp only; walk1)))) | (first | ((with_reducible show Frag.In _ _ ∧ _); refine ⟨by k_in, ?_⟩; try dsimp only [List.nil_append, List.cons_append]) | ((with_reducible show KswPost _ _ _ _ _ _ _ _ _ _ _ _ _ _); dsimp only [KswPost])))); (rename News _ _ _ _ => Nba); refine getMethod_ba (Nba _ (.head _)).1 ba_slot_append.lookup ba_typeOf_append ?_; dsimp only; refine wpC_callWith_builtin (wpC_of_any ?_); (repeat' (first | ((((fail_if_success k_end); (fail_if_success (with_reducible show wpAny _ _ (exec (Stmt.While _ _ _ _) _) _ _ _)); (fail_if_success (with_reducible show wpAny _ _ (exec (Stmt.For _ _ _ _ _) _) _ _ _)))); ((first | walk1 | (dsimp only; walk1)))) | (first | ((with_reducible show Frag.In _ _ ∧ _); refine ⟨by k_in, ?_⟩; try dsimp only [List.nil_append, List.cons_append]) | ((with_reducible show KswPost _ _ _ _ _ _ _ _ _ _ _ _ _ _); dsimp only [KswPost]))))))
    rename Fr _ _ _ _ => F5
    rename News _ _ _ _ => N5
    refine append_ba (N5 _ (.head _)).1 (by lia) (by rw [sizeLine_eq]; omega) fun h' e' hs' => ?_
    obtain ⟨F6, N6⟩ := upd_head F5 N5 ne2 e' hs'
    dsimp only at F6 N6 ⊢
    clear F5 N5
    refine wpC_leaf ?_
    (repeat' (first | ((((fail_if_success k_end); (fail_if_success (with_reducible show wpAny _ _ (exec (Stmt.While _ _ _ _) _) _ _ _)); (fail_if_success (with_reducible show wpAny _ _ (exec (Stmt.For _ _ _ _ _) _) _ _ _)))); (fail_if_success (with_reducible show wpAny _ _ (getMethod (Value.ref _) _ _) _ _ _)); (fail_if_success (with_reducible show wpAny _ _ (call (Value.type _) [Value.ref _]) _ _ _)); ((first | walk1 | (dsimp only; walk1)))) | (first | ((with_reducible show Frag.In _ _ ∧ _); refine ⟨by k_in, ?_⟩; try dsimp only [List.nil_append, List.cons_append]) | ((with_reducible show KswPost _ _ _ _ _ _ _ _ _ _ _ _ _ _); dsimp only [KswPost]))))
    refine call_bytes_ba (N6 _ (.head _)).1 (by rw [Array.size_push, sizeLine_eq]; omega) fun t k => ?_
    have ek : byteArr (co n) = (byteArr acc).push r.toNat.toUInt8 := by rw [hco, co_le (n := r.toNat) (by (clear hr0; lia)), byteArr_snoc, show ((r.toNat : Nat) : Int) = r by (exact Int.toNat_of_nonneg hr0)]
    exact okc _ [] _ _ _ F6 (fun p hp => N6 p (.tail _ hp)) (fun _ h => nomatch h) ⟨rfl, t, by rw [ek]⟩

end

section
theorem flat_len {l : List Nat} (h : ∀ c ∈ l, c ≤ 120) : (l.flatMap co).length = l.length := by
  induction l with
  | nil => rfl
  | cons c l ih =>
    rw [List.flatMap_cons, List.length_append, ih fun d hd => h d (.tail _ hd), co_le (by have := h c (.head _); (exact leb this rfl)), List.length_cons]
    show 0 + 1 + l.length = l.length + 1
    (exact Nat.add_comm _ _)
theorem con_text_codes (prog : Program) (w : World) (x : PySem.Str) (hx : ∀ c ∈ x.cps.toList, c ≤ 120) (hl : x.cps.size ≤ 100) (tx : Tok) (led : Led) :
    ConS prog w 96 [.str x tx] 6 led (fun tl r => tl = [] ∧ ∃ t, r = .bytes (byteArr (x.cps.toList.flatMap co)) t) := by
  intro dp un gd env outer frs h₀ L m s p loose mean mg mb R C ok
  have X := C.X
  have T := C.T
  have hd := C.hd
  have hu := C.hu
  (k_dflt (refine' enterS ?kC ?kO ?k6 ?k7 ?k9 ?kB ?kn ?c2 ?c3 ?c4 ?c5 ?_; (case kC => assumption); (case kO => assumption); (case k6 => k_is); (case k7 => k_is); (case k9 => first | exact BindsTo.of_eq rfl | fail "defaults"); (case c5 => decide); (case kB => exact locs rfl); (case kn => first | decide | omega); (case c2 => exact rfl); (case c3 => exact rfl); (case c4 => exact rfl); k_whole))
  intro L' h₁ tk₁ led' frs' Qc F N Ls Fs Fi Lt okc
  refine wpC_execs_cons (wpC_Assign (wpC_Call ?_))
  (repeat' (first | ((((fail_if_success k_end); (fail_if_success (with_reducible show wpAny _ _ (exec (Stmt.While _ _ _ _) _) _ _ _)); (fail_if_success (with_reducible show wpAny _ _ (exec (Stmt.For _ _ _ _ _) _) _ _ _)))); ((first | walk1 | (dsimp only; walk1)))) | (first | ((with_reducible show Frag.In _ _ ∧ _); refine ⟨by k_in, ?_⟩; try dsimp only [List.nil_append, List.cons_append]) | ((with_reducible show KswPost _ _ _ _ _ _ _ _ _ _ _ _ _ _); dsimp only [KswPost]))))
  rename Fr _ _ _ _ => F1
  refine wpC_callWith_type0 (call_ba fun h2 k2 e2 => ?_)
  have F2 := Fr.ext F1 k2
  have N2 := News.more F1 (News.ext N k2) e2 (Nat.le_refl _)
  have ne2 : ∀ p ∈ led', p.1 ≠ h₁.objs.size := fun p hp => Nat.ne_of_lt (Nat.lt_trans (Lt p hp) F1.ns.lt)
  dsimp only at F2 N2 e2 ⊢
  clear F1 N k2 e2
  generalize h₁.objs.size = a at *
  (repeat' (first | ((((fail_if_success k_end); (fail_if_success (with_reducible show wpAny _ _ (exec (Stmt.While _ _ _ _) _) _ _ _)); (fail_if_success (with_reducible show wpAny _ _ (exec (Stmt.For _ _ _ _ _) _) _ _ _)))); ((first | walk1 | (dsimp only; walk1)))) | (first | ((with_reducible show Frag.In _ _ ∧ _); refine ⟨by k_in, ?_⟩; try dsimp only [List.nil_append, List.cons_append]) | ((with_reducible show KswPost _ _ _ _ _ _ _ _ _ _ _ _ _ _); dsimp only [KswPost]))))
  try dsimp only
  rename Fr _ _ _ _ => F3
  rename News _ _ _ _ => N3
  refine wpC_execs_cons (wpC_For ?_)
  (repeat' (first | ((((fail_if_success k_end); (fail_if_success (with_reducible show wpAny _ _ (exec (Stmt.While _ _ _ _) _) _ _ _)); (fail_if_success (with_reducible show wpAny _ _ (exec (Stmt.For _ _ _ _ _) _) _ _ _)))); ((first | walk1 | (dsimp only; walk1)))) | (first | ((with_reducible show Frag.In _ _ ∧ _); refine ⟨by k_in, ?_⟩; try dsimp only [List.nil_append, List.cons_append]) | ((with_reducible show KswPost _ _ _ _ _ _ _ _ _ _ _ _ _ _); dsimp only [KswPost]))))
  refine wpAny_pyIter_str fun o St W hst => ?_
  have hLI := F3.ns.lt
  have F4 := F3.push o
  have N4 := News.ext N3 (h' := _) fun b ob e => Heap.get?_push_of_some o e
  have lt3 : ∀ p ∈ (a, baObj (byteArr [])) :: led', p.1 < _ := fun p hp => Heap.lt_size (N3 p hp).1
  dsimp only at hst W hLI F4 N4 lt3 ⊢
  have hI0 : h₀.get? _ = none := next_is_new F3
  clear F3 N3
  refine codeC_for (W _ rfl) (fun i acc => acc = (x.cps.toList.take i).flatMap co) (fun acc => (a, baObj (byteArr acc)) :: led') (fun _ => []) ["sign"] ([] : List Int)
    rfl rfl rfl (fun q => Nat.ne_of_lt hLI (List.mem_singleton.mp q)) (fun b hb => by rw [List.mem_singleton.mp hb]; exact hI0) (fun i acc _ p hp q => ?_) hst F4 N4 (List.forall_mem_nil _) rfl (fun i acc v u h tk own hi hv hacc hown F5 N5 => ?_) (fun acc u h tk hacc F5 N5 => ?_)
  · rcases List.mem_cons.mp hp with rfl | hp
    · exact Nat.ne_of_lt (lt3 _ (.head _)) (List.mem_singleton.mp q)
    · exact Nat.ne_of_lt (lt3 _ (.tail _ hp)) (List.mem_singleton.mp q)
  · refine hold (fun Ph hPh => ?_)
    obtain ⟨c, uc, hc, rfl⟩ := hv
    refine hPh ?_
    clear hPh
    have hc' : c ≤ 120 := hx c (by rw [Array.mem_toList_iff]; exact Array.mem_of_getElem? hc)
    have ne3 : ∀ p ∈ own ++ led', p.1 ≠ a := fun p hp => by
      rcases List.mem_append.mp hp with hp | hp
      · rw [List.mem_singleton.mp (hown p hp)]
        exact Nat.ne_of_gt (lt3 _ (.head _))
      · exact ne2 p hp
    have N6 : News h₀ L' h ((a, baObj (byteArr acc)) :: (own ++ led')) := fun p hp => N5 p (by
      rcases List.mem_cons.mp hp with rfl | hp
      · exact List.mem_append_right _ (.head _)
      · rcases List.mem_append.mp hp with hp | hp
        · exact List.mem_append_left _ hp
        · exact List.mem_append_right _ (.tail _ hp))
    have hlen : (byteArr acc ++ byteArr (co c)).size ≤ sizeLine := by
      rw [Array.size_append, byteArr_size, byteArr_size, hacc, flat_len fun d hd => hx d (List.mem_of_mem_take hd), co_le (by (exact leb hc' rfl)), List.length_take, Array.length_toList, sizeLine_eq]
      show _ + 1 ≤ _
      (clear hi; lia)
    dsimp only at F5 ⊢
    clear N5 F4 N4
    refine wpC_execs_cons (wpC_Expr (wpC_Meth ?_))
    (repeat' (first | ((((fail_if_success k_end); (fail_if_success (with_reducible show wpAny _ _ (exec (Stmt.While _ _ _ _) _) _ _ _)); (fail_if_success (with_reducible show wpAny _ _ (exec (Stmt.For _ _ _ _ _) _) _ _ _)))); (fail_if_success (with_reducible show wpAny _ _ (getMethod (Value.ref _) _ _) _ _ _)); (fail_if_success (with_reducible show wpAny _ _ (call (Value.type _) [Value.ref _]) _ _ _)); ((first | walk1 | (dsimp only; walk1)))) | (first | ((with_reducible show Frag.In _ _ ∧ _); refine ⟨by k_in, ?_⟩; try dsimp only [List.nil_append, List.cons_append]) | ((with_reducible show KswPost _ _ _ _ _ _ _ _ _ _ _ _ _ _); dsimp only [KswPost]))))
    refine getMethod_ba (N6 _ (.head _)).1 ba_slot_extend.lookup ba_typeOf_extend ?_
    dsimp only
    refine wpC_callWith_builtin (wpC_args1 (wpC_Call ?_))
    (repeat' (first | ((((fail_if_success k_end); (fail_if_success (with_reducible show wpAny _ _ (exec (Stmt.While _ _ _ _) _) _ _ _)); (fail_if_success (with_reducible show wpAny _ _ (exec (Stmt.For _ _ _ _ _) _) _ _ _)))); ((first | walk1 | (dsimp only; walk1)))) | (first | ((with_reducible show Frag.In _ _ ∧ _); refine ⟨by k_in, ?_⟩; try dsimp only [List.nil_append, List.cons_append]) | ((with_reducible show KswPost _ _ _ _ _ _ _ _ _ _ _ _ _ _); dsimp only [KswPost]))))
    ((k_dflt (refine' wpC_callWith_K ?kX ?kI ?_; (case kX => assumption); (case kI => k_is); k_whole)))
    refine wpC_of_any ?_
    (repeat' (first | ((((fail_if_success k_end); (fail_if_success (with_reducible show wpAny _ _ (exec (Stmt.While _ _ _ _) _) _ _ _)); (fail_if_success (with_reducible show wpAny _ _ (exec (Stmt.For _ _ _ _ _) _) _ _ _)))); ((first | walk1 | (dsimp only; walk1)))) | (first | ((with_reducible show Frag.In _ _ ∧ _); refine ⟨by k_in, ?_⟩; try dsimp only [List.nil_append, List.cons_append]) | ((with_reducible show KswPost _ _ _ _ _ _ _ _ _ _ _ _ _ _); dsimp only [KswPost]))))
    refine ConS.useV (con_count_octets prog w c (by (exact leb hc' rfl)) tk _) F5 N6 X T Fs (fun p hp => .tail _ (List.mem_append_right _ (Fi p hp))) rfl rfl (by (exact Nat.le_of_lt hd)) (by (exact ltu hu rfl)) fun t h' tk' F' N' => ?_
    dsimp only [List.nil_append, List.cons_append] at F' N' ⊢
    refine extend_ba (N' _ (.head _)).1 hlen fun h'' e' hs' => ?_
    obtain ⟨F7, N7⟩ := upd_head F' N' ne3 e' hs'
    dsimp only at F7 N7 ⊢
    refine wpC_execs_nil ⟨rfl, acc ++ co c, h'', tk', _, _, rfl, F7, N7, fun p hp => .tail _ (List.mem_append_left _ hp), fun p hp => ?_, List.forall_mem_nil _, by ((intro z h2 h3; simp only [List.forall_mem_cons, List.not_mem_nil, false_implies, implies_true, and_true, ne_eq] at h2; simp only [List.contains_cons, List.contains_nil, Bool.or_false, Bool.or_eq_false_iff, beq_eq_false_iff_ne, ne_eq] at h3; simp [h2, h3, kstB])), ?_⟩
    · dsimp only at hp
      rw [byteArr_append] at hp
      rcases List.mem_cons.mp hp with rfl | hp
      · exact .head _
      · exact .tail _ (List.mem_append_right _ hp)
    · show acc ++ co c = (x.cps.toList.take (i + 1)).flatMap co
      rw [List.take_add_one, List.flatMap_append, ← hacc]
      simp [hc]
  · dsimp only at F5 N5 ⊢
    clear F4 N4
    refine wpC_leaf ?_
    (repeat' (first | ((((fail_if_success k_end); (fail_if_success (with_reducible show wpAny _ _ (exec (Stmt.While _ _ _ _) _) _ _ _)); (fail_if_success (with_reducible show wpAny _ _ (exec (Stmt.For _ _ _ _ _) _) _ _ _)))); (fail_if_success (with_reducible show wpAny _ _ (getMethod (Value.ref _) _ _) _ _ _)); (fail_if_success (with_reducible show wpAny _ _ (call (Value.type _) [Value.ref _]) _ _ _)); ((first | walk1 | (dsimp only; walk1)))) | (first | ((with_reducible show Frag.In _ _ ∧ _); refine ⟨by k_in, ?_⟩; try dsimp only [List.nil_append, List.cons_append]) | ((with_reducible show KswPost _ _ _ _ _ _ _ _ _ _ _ _ _ _); dsimp only [KswPost]))))
    refine call_bytes_ba (N5 _ (.head _)).1 ?_ fun t k => ?_
    · rw [byteArr_size, hacc, flat_len fun d hd => hx d (List.mem_of_mem_take hd), List.length_take, Array.length_toList, sizeLine_eq]
      lia
    · exact okc _ [] _ _ _ F5 (fun p hp => N5 p (.tail _ hp)) (fun _ h => nomatch h) ⟨rfl, t, by rw [hacc, ← Array.length_toList, List.take_length]⟩

end

section
inductive Dat where
  | int (n : Int)
  | text (x : PySem.Str)
  | octets (ks : List Int)
  | row (ds : List Dat)
abbrev tupO (vs : List Value) : Obj := { cls := .type "tuple", data := .seq vs.toArray 0 }
mutual
inductive DV (led : Led) : Dat → Value → Prop
  | int (n : Int) (t : Tok) : DV led (.int n) (.int n t)
  | text (x : PySem.Str) (t : Tok) : DV led (.text x) (.str x t)
  | octets (ks : List Int) (t : Tok) : DV led (.octets ks) (.bytes (byteArr ks) t)
  | row {a : Addr} {vs : List Value} {ds : List Dat} : (a, tupO vs) ∈ led → DVs led ds vs → DV led (.row ds) (.ref a)
inductive DVs (led : Led) : List Dat → List Value → Prop
  | nil : DVs led [] []
  | cons {d : Dat} {v : Value} {ds : List Dat} {vs : List Value} : DV led d v → DVs led ds vs → DVs led (d :: ds) (v :: vs)
end
def folded (n : Int) : Int := if n ≥ 0 then 2 * n else -2 * n - 1
mutual
def vo : Dat → List Int
  | .int n => 105 :: co (folded n).toNat
  | .text x => 116 :: (co x.cps.size ++ x.cps.toList.flatMap co)
  | .octets ks => 111 :: (co ks.length ++ ks)
  | .row ds => 114 :: (co ds.length ++ vos ds)
def vos : List Dat → List Int
  | [] => []
  | d :: ds => vo d ++ vos ds
end
mutual
def nd : Dat → Nat
  | .row ds => 1 + nds ds
  | _ => 8
def nds : List Dat → Nat
  | [] => 8
  | d :: ds => max (nd d) (nds ds)
end
mutual
def fit : Dat → Prop
  | .int n => -4000 ≤ n ∧ n ≤ 4000
  | .text x => (∀ c ∈ x.cps.toList, c ≤ 120) ∧ x.cps.size ≤ 100
  | .octets ks => (∀ k ∈ ks, 0 ≤ k ∧ k < 256) ∧ ks.length ≤ 5000
  | .row ds => ds.length ≤ 100 ∧ fits ds
def fits : List Dat → Prop
  | [] => True
  | d :: ds => fit d ∧ fits ds
end
theorem nds_ge (ds : List Dat) : 8 ≤ nds ds := by
  induction ds with
  | nil => rw [nds]; exact Nat.le_refl _
  | cons d ds ih => rw [nds]; lia
theorem nd_ge (d : Dat) : 8 ≤ nd d := by
  cases d with
  | row ds =>
    rw [nd]
    have : ∀ ds, 8 ≤ nds ds := fun ds => by induction ds with
      | nil => rw [nds]; exact Nat.le_refl _
      | cons d ds ih => rw [nds]; omega
    have := this ds
    lia
  | _ => rw [nd] <;> first | exact Nat.le_refl _ | (intros; contradiction)
theorem nds_mem {ds : List Dat} {d : Dat} (h : d ∈ ds) : nd d ≤ nds ds := by
  induction ds with
  | nil => cases h
  | cons e ds ih =>
    rw [nds]
    rcases List.mem_cons.mp h with rfl | h
    · lia
    · have := ih h; omega
theorem fits_mem {ds : List Dat} (x : fits ds) {d : Dat} (h : d ∈ ds) : fit d := by
  induction ds with
  | nil => cases h
  | cons e ds ih =>
    rw [fits] at x
    rcases List.mem_cons.mp h with rfl | h
    · exact x.1
    · exact ih x.2 h
theorem DVs.len {led : Led} {ds : List Dat} {vs : List Value} (x : DVs led ds vs) : vs.length = ds.length := by
  induction vs generalizing ds with
  | nil => cases x; rfl
  | cons v vs ih => cases x with | cons _ r => simp [ih r]
theorem DVs.at {led : Led} {ds : List Dat} {vs : List Value} (x : DVs led ds vs) {i : Nat} {v : Value} (h : vs[i]? = some v) : ∃ d, ds[i]? = some d ∧ DV led d v := by
  induction vs generalizing ds i with
  | nil => simp at h
  | cons v' vs ih =>
    cases x with
    | cons a r =>
      cases i with
      | zero => simp at h; subst h; exact ⟨_, rfl, a⟩
      | succ i => simpa using ih r (by simpa using h)
mutual
theorem vo_in : ∀ (d : Dat), fit d → ∀ k ∈ vo d, 0 ≤ k ∧ k < 256
  | .int n, _, k, hk => by
    rw [vo] at hk
    rcases List.mem_cons.mp hk with rfl | hk
    · decide
    · exact co_in _ k hk
  | .text x, _, k, hk => by
    rw [vo] at hk
    rcases List.mem_cons.mp hk with rfl | hk
    · decide
    · rcases List.mem_append.mp hk with hk | hk
      · exact co_in _ k hk
      · obtain ⟨c, _, hk⟩ := List.mem_flatMap.mp hk
        exact co_in _ k hk
  | .octets ks, h, k, hk => by
    rw [fit] at h
    rw [vo] at hk
    rcases List.mem_cons.mp hk with rfl | hk
    · decide
    · rcases List.mem_append.mp hk with hk | hk
      · exact co_in _ k hk
      · exact h.1 k hk
  | .row ds, h, k, hk => by
    rw [fit] at h
    rw [vo] at hk
    rcases List.mem_cons.mp hk with rfl | hk
    · decide
    · rcases List.mem_append.mp hk with hk | hk
      · exact co_in _ k hk
      · exact vos_in ds h.2 k hk
theorem vos_in : ∀ (ds : List Dat), fits ds → ∀ k ∈ vos ds, 0 ≤ k ∧ k < 256
  | [], _, k, hk => by rw [vos] at hk; cases hk
  | d :: ds, h, k, hk => by
    rw [fits] at h
    rw [vos] at hk
    rcases List.mem_append.mp hk with hk | hk
    · exact vo_in d h.1 k hk
    · exact vos_in ds h.2 k hk
end
theorem vos_len {ds : List Dat} {d : Dat} (h : d ∈ ds) : (vo d).length ≤ (vos ds).length := by
  induction ds with
  | nil => cases h
  | cons e ds ih =>
    rw [vos, List.length_append]
    rcases List.mem_cons.mp h with rfl | h
    · (exact Nat.le_add_right _ _)
    · have := ih h; lia

mutual
theorem DV.mono {led led2 : Led} (k : ∀ q ∈ led, q ∈ led2) : ∀ {d : Dat} {v : Value}, DV led d v → DV led2 d v
  | _, _, .int n t => .int n t
  | _, _, .text x t => .text x t
  | _, _, .octets ks t => .octets ks t
  | _, _, .row hm hs => .row (k _ hm) (DVs.mono k hs)
theorem DVs.mono {led led2 : Led} (k : ∀ q ∈ led, q ∈ led2) : ∀ {ds : List Dat} {vs : List Value}, DVs led ds vs → DVs led2 ds vs
  | _, _, .nil => .nil
  | _, _, .cons a r => .cons (DV.mono k a) (DVs.mono k r)
end
theorem bytesAre_of : ∀ {ds : List Dat} {ys : List Value}, ys.length = ds.length → (∀ (i : Nat) (y : Value), ys[i]? = some y → ∃ (d : Dat) (t : Tok), ds[i]? = some d ∧ y = Value.bytes (byteArr (vo d)) t) → BytesAre ys (ds.map fun d => byteArr (vo d))
  | [], [], _, _ => .nil
  | [], _ :: _, h, _ => by simp at h
  | _ :: _, [], h, _ => by simp at h
  | d :: ds, y :: ys, h, hG => by
    obtain ⟨d', t, e, rfl⟩ := hG 0 y rfl
    obtain rfl : d = d' := by simpa using e
    exact .cons (bytesAre_of (by simpa using h) fun i y' e' => by simpa using hG (i + 1) y' (by simpa using e'))
theorem vos_fold : ∀ (ds : List Dat) (z : Array UInt8), (ds.map fun d => byteArr (vo d)).foldl (· ++ ·) z = z ++ byteArr (vos ds)
  | [], z => by rw [vos]; simp [byteArr]
  | d :: ds, z => by
    rw [List.map_cons, List.foldl_cons, vos_fold ds, vos, byteArr_append, Array.append_assoc]
theorem con_folded (prog : Program) (w : World) (n : Int) (hn : -4000 ≤ n ∧ n ≤ 4000) (t : Tok) (led : Led) :
    Con prog w 82 [.int n t] 1 led (fun tl r => tl = [] ∧ ∃ t', r = .int (folded n) t') False := by
  intro dp un gd env outer frs h₀ L m s p loose mean mg mb R C ok er
  have X := C.X
  have T := C.T
  have hd := C.hd
  have hu := C.hu
  (k_dflt (refine' enter ?kC ?kO ?kR ?k6 ?k7 ?k9 ?kB ?kn ?c2 ?c3 ?c4 ?c5 ?_; (case kC => assumption); (case kO => assumption); (case kR => assumption); (case k6 => k_is); (case k7 => k_is); (case k9 => first | exact BindsTo.of_eq rfl | fail "defaults"); (case c5 => decide); (case kB => exact locs rfl); (case kn => first | decide | omega); (case c2 => exact rfl); (case c3 => exact rfl); (case c4 => exact rfl); k_whole))
  intro L' h₁ tk₁ led' frs' Qc Ec F N Ls Fs Fi Lt okc erc hE era
  (repeat' (first | ((((fail_if_success k_end); (fail_if_success (with_reducible show wpAny _ _ (exec (Stmt.While _ _ _ _) _) _ _ _)); (fail_if_success (with_reducible show wpAny _ _ (exec (Stmt.For _ _ _ _ _) _) _ _ _)))); ((first | walk1 | (dsimp only; walk1)))) | (first | ((with_reducible show Frag.In _ _ ∧ _); refine ⟨by k_in, ?_⟩; try dsimp only [List.nil_append, List.cons_append]) | ((with_reducible show KswPost _ _ _ _ _ _ _ _ _ _ _ _ _ _); dsimp only [KswPost]))))
  all_goals exact okc _ [] _ _ _ (by k_asm) (by k_asm) (fun _ h => nomatch h) ⟨rfl, _, by unfold folded; first | rw [if_pos (by omega)] | rw [if_neg (by omega)]⟩

theorem con_value_octets (prog : Program) (w : World) : ∀ (Z : Nat) (d : Dat), sizeOf d ≤ Z → fit d → (vo d).length ≤ 9000 → ∀ (dep : Nat), dep + nd d ≤ 29 → ∀ (v : Value) (td : Tok) (led : Led), DV led d v →
    ConS prog w 101 [v, .int (dep : Int) td] (nd d) led (fun tl r => tl = [] ∧ ∃ t, r = .bytes (byteArr (vo d)) t) := by
  intro Z
  induction Z with
  | zero => intro d h; cases d <;> simp at h
  | succ Z ih =>
  intro d hsz hfit hlen dep hdep v td led hdv
  have hn8 := nd_ge d
  generalize hnd : nd d = need at *
  intro dp un gd env outer frs h₀ L m s p loose mean mg mb R C ok
  have X := C.X
  have T := C.T
  have hd := C.hd
  have hu := C.hu
  (k_dflt (refine' enterSX ?kC ?kO ?k6 ?k7 ?k9 ?kB ?c5 ?kn ?c2 ?c3 ?c4 ?_; (case kC => assumption); (case kO => assumption); (case k6 => k_is); (case k7 => k_is); (case k9 => first | exact BindsTo.of_eq rfl | fail "defaults"); (case c5 => decide); (case kB => rfl); (case kn => first | decide | omega); (case c2 => exact rfl); (case c3 => exact rfl); (case c4 => exact rfl); k_whole))
  intro L' h₁ tk₁ cells led' frs' Qc F N hcells Ls Fs Fi Lt okc
  have hY := CellsAre.one hcells
  obtain ⟨oc, hE, hoc⟩ := hY
  subst hE
  clear hcells
  dsimp only [List.cons_append, List.nil_append] at N
  cases hdv with
  | int n t =>
    ((refine wpC_execs_cons (wpC_If (wpC_of_any ?_)); (repeat' (first | ((((fail_if_success k_end); (fail_if_success (with_reducible show wpAny _ _ (exec (Stmt.While _ _ _ _) _) _ _ _)); (fail_if_success (with_reducible show wpAny _ _ (exec (Stmt.For _ _ _ _ _) _) _ _ _)))); ((first | ((with_reducible show wpAny _ _ (call _ [Value.str _ _]) _ _ _); refine P.len_str (by show ¬ ((_ : Nat) : Int) ≥ 2 ^ 63; have hz9 : PySem.Str.length _ ≤ 100 := (by assumption); omega) ?_) | ((with_reducible show wpAny _ _ (call _ [Value.ref _]) _ _ _); (rename News _ _ _ _ => Niz); refine PyProof.Rows.len_tuple (items := _) ⟨_, (Niz _ (by first | assumption | exact List.mem_cons_of_mem _ (by assumption))).1, rfl, _, rfl⟩ (by have hz9 : List.length _ ≤ 100 := (by assumption); show ((List.toArray _).size : Int) < 9223372036854775808; rw [List.size_toArray]; omega) ?_) | ((with_reducible show wpAny _ _ (call _ [Value.ref _, Value.type _]) _ _ _); (rename News _ _ _ _ => Niz); (have hiz := (Niz _ (by first | assumption | exact List.mem_cons_of_mem _ (by assumption))).1); first | refine IsiPair.tuple_bool hiz rfl ?_ | refine IsiPair.tuple_int hiz rfl ?_ | refine IsiPair.tuple_str hiz rfl ?_ | refine IsiPair.tuple_bytes hiz rfl ?_ | refine IsiPair.tuple_tuple hiz rfl ?_) | walk1 | (dsimp only; walk1)))) | (first | ((with_reducible show Frag.In _ _ ∧ _); refine ⟨by k_in, ?_⟩; try dsimp only [List.nil_append, List.cons_append]) | ((with_reducible show KswPost _ _ _ _ _ _ _ _ _ _ _ _ _ _); dsimp only [KswPost])))); (all_goals (try simp only [Bool.false_eq_true, if_false, if_true])); (all_goals (try refine wpC_execs_nil ?_)); all_goals (try dsimp only)))
    ((refine wpC_execs_cons (wpC_If (wpC_of_any ?_)); (repeat' (first | ((((fail_if_success k_end); (fail_if_success (with_reducible show wpAny _ _ (exec (Stmt.While _ _ _ _) _) _ _ _)); (fail_if_success (with_reducible show wpAny _ _ (exec (Stmt.For _ _ _ _ _) _) _ _ _)))); ((first | ((with_reducible show wpAny _ _ (call _ [Value.str _ _]) _ _ _); refine P.len_str (by show ¬ ((_ : Nat) : Int) ≥ 2 ^ 63; have hz9 : PySem.Str.length _ ≤ 100 := (by assumption); omega) ?_) | ((with_reducible show wpAny _ _ (call _ [Value.ref _]) _ _ _); (rename News _ _ _ _ => Niz); refine PyProof.Rows.len_tuple (items := _) ⟨_, (Niz _ (by first | assumption | exact List.mem_cons_of_mem _ (by assumption))).1, rfl, _, rfl⟩ (by have hz9 : List.length _ ≤ 100 := (by assumption); show ((List.toArray _).size : Int) < 9223372036854775808; rw [List.size_toArray]; omega) ?_) | ((with_reducible show wpAny _ _ (call _ [Value.ref _, Value.type _]) _ _ _); (rename News _ _ _ _ => Niz); (have hiz := (Niz _ (by first | assumption | exact List.mem_cons_of_mem _ (by assumption))).1); first | refine IsiPair.tuple_bool hiz rfl ?_ | refine IsiPair.tuple_int hiz rfl ?_ | refine IsiPair.tuple_str hiz rfl ?_ | refine IsiPair.tuple_bytes hiz rfl ?_ | refine IsiPair.tuple_tuple hiz rfl ?_) | walk1 | (dsimp only; walk1)))) | (first | ((with_reducible show Frag.In _ _ ∧ _); refine ⟨by k_in, ?_⟩; try dsimp only [List.nil_append, List.cons_append]) | ((with_reducible show KswPost _ _ _ _ _ _ _ _ _ _ _ _ _ _); dsimp only [KswPost])))); (all_goals (try simp only [Bool.false_eq_true, if_false, if_true])); (all_goals (try refine wpC_execs_nil ?_)); all_goals (try dsimp only)))
    refine wpC_execs_cons (wpC_Return (wpC_BinOp (wpC_of_any ?_)))
    (repeat' (first | ((((fail_if_success k_end); (fail_if_success (with_reducible show wpAny _ _ (exec (Stmt.While _ _ _ _) _) _ _ _)); (fail_if_success (with_reducible show wpAny _ _ (exec (Stmt.For _ _ _ _ _) _) _ _ _)))); ((first | ((with_reducible show wpAny _ _ (call _ [Value.str _ _]) _ _ _); refine P.len_str (by show ¬ ((_ : Nat) : Int) ≥ 2 ^ 63; have hz9 : PySem.Str.length _ ≤ 100 := (by assumption); omega) ?_) | ((with_reducible show wpAny _ _ (call _ [Value.ref _]) _ _ _); (rename News _ _ _ _ => Niz); refine PyProof.Rows.len_tuple (items := _) ⟨_, (Niz _ (by first | assumption | exact List.mem_cons_of_mem _ (by assumption))).1, rfl, _, rfl⟩ (by have hz9 : List.length _ ≤ 100 := (by assumption); show ((List.toArray _).size : Int) < 9223372036854775808; rw [List.size_toArray]; omega) ?_) | ((with_reducible show wpAny _ _ (call _ [Value.ref _, Value.type _]) _ _ _); (rename News _ _ _ _ => Niz); (have hiz := (Niz _ (by first | assumption | exact List.mem_cons_of_mem _ (by assumption))).1); first | refine IsiPair.tuple_bool hiz rfl ?_ | refine IsiPair.tuple_int hiz rfl ?_ | refine IsiPair.tuple_str hiz rfl ?_ | refine IsiPair.tuple_bytes hiz rfl ?_ | refine IsiPair.tuple_tuple hiz rfl ?_) | walk1 | (dsimp only; walk1)))) | (first | ((with_reducible show Frag.In _ _ ∧ _); refine ⟨by k_in, ?_⟩; try dsimp only [List.nil_append, List.cons_append]) | ((with_reducible show KswPost _ _ _ _ _ _ _ _ _ _ _ _ _ _); dsimp only [KswPost]))))
    refine wpC_Call ?_
    (repeat' (first | ((((fail_if_success k_end); (fail_if_success (with_reducible show wpAny _ _ (exec (Stmt.While _ _ _ _) _) _ _ _)); (fail_if_success (with_reducible show wpAny _ _ (exec (Stmt.For _ _ _ _ _) _) _ _ _)))); ((first | ((with_reducible show wpAny _ _ (call _ [Value.str _ _]) _ _ _); refine P.len_str (by show ¬ ((_ : Nat) : Int) ≥ 2 ^ 63; have hz9 : PySem.Str.length _ ≤ 100 := (by assumption); omega) ?_) | ((with_reducible show wpAny _ _ (call _ [Value.ref _]) _ _ _); (rename News _ _ _ _ => Niz); refine PyProof.Rows.len_tuple (items := _) ⟨_, (Niz _ (by first | assumption | exact List.mem_cons_of_mem _ (by assumption))).1, rfl, _, rfl⟩ (by have hz9 : List.length _ ≤ 100 := (by assumption); show ((List.toArray _).size : Int) < 9223372036854775808; rw [List.size_toArray]; omega) ?_) | ((with_reducible show wpAny _ _ (call _ [Value.ref _, Value.type _]) _ _ _); (rename News _ _ _ _ => Niz); (have hiz := (Niz _ (by first | assumption | exact List.mem_cons_of_mem _ (by assumption))).1); first | refine IsiPair.tuple_bool hiz rfl ?_ | refine IsiPair.tuple_int hiz rfl ?_ | refine IsiPair.tuple_str hiz rfl ?_ | refine IsiPair.tuple_bytes hiz rfl ?_ | refine IsiPair.tuple_tuple hiz rfl ?_) | walk1 | (dsimp only; walk1)))) | (first | ((with_reducible show Frag.In _ _ ∧ _); refine ⟨by k_in, ?_⟩; try dsimp only [List.nil_append, List.cons_append]) | ((with_reducible show KswPost _ _ _ _ _ _ _ _ _ _ _ _ _ _); dsimp only [KswPost]))))
    ((k_dflt (refine' wpC_callWith_K ?kX ?kI ?_; (case kX => assumption); (case kI => k_is); k_whole)))
    refine wpC_of_any ?_
    (repeat' (first | ((((fail_if_success k_end); (fail_if_success (with_reducible show wpAny _ _ (exec (Stmt.While _ _ _ _) _) _ _ _)); (fail_if_success (with_reducible show wpAny _ _ (exec (Stmt.For _ _ _ _ _) _) _ _ _)))); ((first | ((with_reducible show wpAny _ _ (call _ [Value.str _ _]) _ _ _); refine P.len_str (by show ¬ ((_ : Nat) : Int) ≥ 2 ^ 63; have hz9 : PySem.Str.length _ ≤ 100 := (by assumption); omega) ?_) | ((with_reducible show wpAny _ _ (call _ [Value.ref _]) _ _ _); (rename News _ _ _ _ => Niz); refine PyProof.Rows.len_tuple (items := _) ⟨_, (Niz _ (by first | assumption | exact List.mem_cons_of_mem _ (by assumption))).1, rfl, _, rfl⟩ (by have hz9 : List.length _ ≤ 100 := (by assumption); show ((List.toArray _).size : Int) < 9223372036854775808; rw [List.size_toArray]; omega) ?_) | ((with_reducible show wpAny _ _ (call _ [Value.ref _, Value.type _]) _ _ _); (rename News _ _ _ _ => Niz); (have hiz := (Niz _ (by first | assumption | exact List.mem_cons_of_mem _ (by assumption))).1); first | refine IsiPair.tuple_bool hiz rfl ?_ | refine IsiPair.tuple_int hiz rfl ?_ | refine IsiPair.tuple_str hiz rfl ?_ | refine IsiPair.tuple_bytes hiz rfl ?_ | refine IsiPair.tuple_tuple hiz rfl ?_) | walk1 | (dsimp only; walk1)))) | (first | ((with_reducible show Frag.In _ _ ∧ _); refine ⟨by k_in, ?_⟩; try dsimp only [List.nil_append, List.cons_append]) | ((with_reducible show KswPost _ _ _ _ _ _ _ _ _ _ _ _ _ _); dsimp only [KswPost]))))
    rw [fit] at hfit
    refine Con.use (con_folded prog w n hfit t _) F N X T Fs (fun p hp => .tail _ (Fi p hp)) rfl rfl (by (clear hdep hnd; lia)) (by (clear hnd; lia)) (fun r tl h' tk' F' N' _ hr => ?_) (fun x => x.elim)
    obtain ⟨rfl, t', rfl⟩ := hr
    clear F N
    try dsimp only [List.nil_append] at F' N' ⊢
    (repeat' (first | ((((fail_if_success k_end); (fail_if_success (with_reducible show wpAny _ _ (exec (Stmt.While _ _ _ _) _) _ _ _)); (fail_if_success (with_reducible show wpAny _ _ (exec (Stmt.For _ _ _ _ _) _) _ _ _)))); ((first | ((with_reducible show wpAny _ _ (call _ [Value.str _ _]) _ _ _); refine P.len_str (by show ¬ ((_ : Nat) : Int) ≥ 2 ^ 63; have hz9 : PySem.Str.length _ ≤ 100 := (by assumption); omega) ?_) | ((with_reducible show wpAny _ _ (call _ [Value.ref _]) _ _ _); (rename News _ _ _ _ => Niz); refine PyProof.Rows.len_tuple (items := _) ⟨_, (Niz _ (by first | assumption | exact List.mem_cons_of_mem _ (by assumption))).1, rfl, _, rfl⟩ (by have hz9 : List.length _ ≤ 100 := (by assumption); show ((List.toArray _).size : Int) < 9223372036854775808; rw [List.size_toArray]; omega) ?_) | ((with_reducible show wpAny _ _ (call _ [Value.ref _, Value.type _]) _ _ _); (rename News _ _ _ _ => Niz); (have hiz := (Niz _ (by first | assumption | exact List.mem_cons_of_mem _ (by assumption))).1); first | refine IsiPair.tuple_bool hiz rfl ?_ | refine IsiPair.tuple_int hiz rfl ?_ | refine IsiPair.tuple_str hiz rfl ?_ | refine IsiPair.tuple_bytes hiz rfl ?_ | refine IsiPair.tuple_tuple hiz rfl ?_) | walk1 | (dsimp only; walk1)))) | (first | ((with_reducible show Frag.In _ _ ∧ _); refine ⟨by k_in, ?_⟩; try dsimp only [List.nil_append, List.cons_append]) | ((with_reducible show KswPost _ _ _ _ _ _ _ _ _ _ _ _ _ _); dsimp only [KswPost]))))
    obtain ⟨k, hk⟩ : ∃ k : Nat, folded n = k := ⟨(folded n).toNat, by unfold folded; split <;> (first | (clear hfit; lia) | omega)⟩
    have hk2 : k ≤ 10000 := by have : folded n ≤ 10000 := by { unfold folded; split <;> (first | lia | omega) }; lia
    rw [hk]
    refine ConS.useV (con_count_octets prog w k hk2 t' _) F' N' X T Fs (fun p hp => .tail _ (Fi p hp)) rfl rfl (by (clear hdep hnd; lia)) (by (clear hnd; lia)) (fun t1 h' tk' F1 N1 => ?_)
    clear F' N'
    try dsimp only [List.nil_append] at F1 N1 ⊢
    have hkl := co_len k
    refine wpC_of_any (KBy.add_bytes (by rw [byteArr_size]; show 1 + _ ≤ _; lia) fun t2 k2 => ?_)
    refine okc _ [] _ _ _ F1 (fun p hp => N1 p (.tail _ hp)) (fun _ h => nomatch h) ⟨rfl, t2, ?_⟩
    rw [vo, hk]
    show Value.bytes _ _ = Value.bytes (byteArr ([105] ++ co k)) _
    rw [byteArr_append]; rfl
  | text x t =>
    rw [fit] at hfit
    rw [vo, List.length_cons, List.length_append] at hlen
    have hxl : x.length ≤ 100 := hfit.2
    ((refine wpC_execs_cons (wpC_If (wpC_of_any ?_)); (repeat' (first | ((((fail_if_success k_end); (fail_if_success (with_reducible show wpAny _ _ (exec (Stmt.While _ _ _ _) _) _ _ _)); (fail_if_success (with_reducible show wpAny _ _ (exec (Stmt.For _ _ _ _ _) _) _ _ _)))); ((first | ((with_reducible show wpAny _ _ (call _ [Value.str _ _]) _ _ _); refine P.len_str (by show ¬ ((_ : Nat) : Int) ≥ 2 ^ 63; have hz9 : PySem.Str.length _ ≤ 100 := (by assumption); omega) ?_) | ((with_reducible show wpAny _ _ (call _ [Value.ref _]) _ _ _); (rename News _ _ _ _ => Niz); refine PyProof.Rows.len_tuple (items := _) ⟨_, (Niz _ (by first | assumption | exact List.mem_cons_of_mem _ (by assumption))).1, rfl, _, rfl⟩ (by have hz9 : List.length _ ≤ 100 := (by assumption); show ((List.toArray _).size : Int) < 9223372036854775808; rw [List.size_toArray]; omega) ?_) | ((with_reducible show wpAny _ _ (call _ [Value.ref _, Value.type _]) _ _ _); (rename News _ _ _ _ => Niz); (have hiz := (Niz _ (by first | assumption | exact List.mem_cons_of_mem _ (by assumption))).1); first | refine IsiPair.tuple_bool hiz rfl ?_ | refine IsiPair.tuple_int hiz rfl ?_ | refine IsiPair.tuple_str hiz rfl ?_ | refine IsiPair.tuple_bytes hiz rfl ?_ | refine IsiPair.tuple_tuple hiz rfl ?_) | walk1 | (dsimp only; walk1)))) | (first | ((with_reducible show Frag.In _ _ ∧ _); refine ⟨by k_in, ?_⟩; try dsimp only [List.nil_append, List.cons_append]) | ((with_reducible show KswPost _ _ _ _ _ _ _ _ _ _ _ _ _ _); dsimp only [KswPost])))); (all_goals (try simp only [Bool.false_eq_true, if_false, if_true])); (all_goals (try refine wpC_execs_nil ?_)); all_goals (try dsimp only)))
    ((refine wpC_execs_cons (wpC_If (wpC_of_any ?_)); (repeat' (first | ((((fail_if_success k_end); (fail_if_success (with_reducible show wpAny _ _ (exec (Stmt.While _ _ _ _) _) _ _ _)); (fail_if_success (with_reducible show wpAny _ _ (exec (Stmt.For _ _ _ _ _) _) _ _ _)))); ((first | ((with_reducible show wpAny _ _ (call _ [Value.str _ _]) _ _ _); refine P.len_str (by show ¬ ((_ : Nat) : Int) ≥ 2 ^ 63; have hz9 : PySem.Str.length _ ≤ 100 := (by assumption); omega) ?_) | ((with_reducible show wpAny _ _ (call _ [Value.ref _]) _ _ _); (rename News _ _ _ _ => Niz); refine PyProof.Rows.len_tuple (items := _) ⟨_, (Niz _ (by first | assumption | exact List.mem_cons_of_mem _ (by assumption))).1, rfl, _, rfl⟩ (by have hz9 : List.length _ ≤ 100 := (by assumption); show ((List.toArray _).size : Int) < 9223372036854775808; rw [List.size_toArray]; omega) ?_) | ((with_reducible show wpAny _ _ (call _ [Value.ref _, Value.type _]) _ _ _); (rename News _ _ _ _ => Niz); (have hiz := (Niz _ (by first | assumption | exact List.mem_cons_of_mem _ (by assumption))).1); first | refine IsiPair.tuple_bool hiz rfl ?_ | refine IsiPair.tuple_int hiz rfl ?_ | refine IsiPair.tuple_str hiz rfl ?_ | refine IsiPair.tuple_bytes hiz rfl ?_ | refine IsiPair.tuple_tuple hiz rfl ?_) | walk1 | (dsimp only; walk1)))) | (first | ((with_reducible show Frag.In _ _ ∧ _); refine ⟨by k_in, ?_⟩; try dsimp only [List.nil_append, List.cons_append]) | ((with_reducible show KswPost _ _ _ _ _ _ _ _ _ _ _ _ _ _); dsimp only [KswPost])))); (all_goals (try simp only [Bool.false_eq_true, if_false, if_true])); (all_goals (try refine wpC_execs_nil ?_)); all_goals (try dsimp only)))
    ((refine wpC_execs_cons (wpC_If (wpC_of_any ?_)); (repeat' (first | ((((fail_if_success k_end); (fail_if_success (with_reducible show wpAny _ _ (exec (Stmt.While _ _ _ _) _) _ _ _)); (fail_if_success (with_reducible show wpAny _ _ (exec (Stmt.For _ _ _ _ _) _) _ _ _)))); ((first | ((with_reducible show wpAny _ _ (call _ [Value.str _ _]) _ _ _); refine P.len_str (by show ¬ ((_ : Nat) : Int) ≥ 2 ^ 63; have hz9 : PySem.Str.length _ ≤ 100 := (by assumption); omega) ?_) | ((with_reducible show wpAny _ _ (call _ [Value.ref _]) _ _ _); (rename News _ _ _ _ => Niz); refine PyProof.Rows.len_tuple (items := _) ⟨_, (Niz _ (by first | assumption | exact List.mem_cons_of_mem _ (by assumption))).1, rfl, _, rfl⟩ (by have hz9 : List.length _ ≤ 100 := (by assumption); show ((List.toArray _).size : Int) < 9223372036854775808; rw [List.size_toArray]; omega) ?_) | ((with_reducible show wpAny _ _ (call _ [Value.ref _, Value.type _]) _ _ _); (rename News _ _ _ _ => Niz); (have hiz := (Niz _ (by first | assumption | exact List.mem_cons_of_mem _ (by assumption))).1); first | refine IsiPair.tuple_bool hiz rfl ?_ | refine IsiPair.tuple_int hiz rfl ?_ | refine IsiPair.tuple_str hiz rfl ?_ | refine IsiPair.tuple_bytes hiz rfl ?_ | refine IsiPair.tuple_tuple hiz rfl ?_) | walk1 | (dsimp only; walk1)))) | (first | ((with_reducible show Frag.In _ _ ∧ _); refine ⟨by k_in, ?_⟩; try dsimp only [List.nil_append, List.cons_append]) | ((with_reducible show KswPost _ _ _ _ _ _ _ _ _ _ _ _ _ _); dsimp only [KswPost])))); (all_goals (try simp only [Bool.false_eq_true, if_false, if_true])); (all_goals (try refine wpC_execs_nil ?_)); all_goals (try dsimp only)))
    refine wpC_execs_cons (wpC_Return (wpC_BinOp (wpC_BinOp (wpC_of_any ?_))))
    (repeat' (first | ((((fail_if_success k_end); (fail_if_success (with_reducible show wpAny _ _ (exec (Stmt.While _ _ _ _) _) _ _ _)); (fail_if_success (with_reducible show wpAny _ _ (exec (Stmt.For _ _ _ _ _) _) _ _ _)))); ((first | ((with_reducible show wpAny _ _ (call _ [Value.str _ _]) _ _ _); refine P.len_str (by show ¬ ((_ : Nat) : Int) ≥ 2 ^ 63; have hz9 : PySem.Str.length _ ≤ 100 := (by assumption); omega) ?_) | ((with_reducible show wpAny _ _ (call _ [Value.ref _]) _ _ _); (rename News _ _ _ _ => Niz); refine PyProof.Rows.len_tuple (items := _) ⟨_, (Niz _ (by first | assumption | exact List.mem_cons_of_mem _ (by assumption))).1, rfl, _, rfl⟩ (by have hz9 : List.length _ ≤ 100 := (by assumption); show ((List.toArray _).size : Int) < 9223372036854775808; rw [List.size_toArray]; omega) ?_) | ((with_reducible show wpAny _ _ (call _ [Value.ref _, Value.type _]) _ _ _); (rename News _ _ _ _ => Niz); (have hiz := (Niz _ (by first | assumption | exact List.mem_cons_of_mem _ (by assumption))).1); first | refine IsiPair.tuple_bool hiz rfl ?_ | refine IsiPair.tuple_int hiz rfl ?_ | refine IsiPair.tuple_str hiz rfl ?_ | refine IsiPair.tuple_bytes hiz rfl ?_ | refine IsiPair.tuple_tuple hiz rfl ?_) | walk1 | (dsimp only; walk1)))) | (first | ((with_reducible show Frag.In _ _ ∧ _); refine ⟨by k_in, ?_⟩; try dsimp only [List.nil_append, List.cons_append]) | ((with_reducible show KswPost _ _ _ _ _ _ _ _ _ _ _ _ _ _); dsimp only [KswPost]))))
    ((refine wpC_Call ?_; (repeat' (first | ((((fail_if_success k_end); (fail_if_success (with_reducible show wpAny _ _ (exec (Stmt.While _ _ _ _) _) _ _ _)); (fail_if_success (with_reducible show wpAny _ _ (exec (Stmt.For _ _ _ _ _) _) _ _ _)))); ((first | ((with_reducible show wpAny _ _ (call _ [Value.str _ _]) _ _ _); refine P.len_str (by show ¬ ((_ : Nat) : Int) ≥ 2 ^ 63; have hz9 : PySem.Str.length _ ≤ 100 := (by assumption); omega) ?_) | ((with_reducible show wpAny _ _ (call _ [Value.ref _]) _ _ _); (rename News _ _ _ _ => Niz); refine PyProof.Rows.len_tuple (items := _) ⟨_, (Niz _ (by first | assumption | exact List.mem_cons_of_mem _ (by assumption))).1, rfl, _, rfl⟩ (by have hz9 : List.length _ ≤ 100 := (by assumption); show ((List.toArray _).size : Int) < 9223372036854775808; rw [List.size_toArray]; omega) ?_) | ((with_reducible show wpAny _ _ (call _ [Value.ref _, Value.type _]) _ _ _); (rename News _ _ _ _ => Niz); (have hiz := (Niz _ (by first | assumption | exact List.mem_cons_of_mem _ (by assumption))).1); first | refine IsiPair.tuple_bool hiz rfl ?_ | refine IsiPair.tuple_int hiz rfl ?_ | refine IsiPair.tuple_str hiz rfl ?_ | refine IsiPair.tuple_bytes hiz rfl ?_ | refine IsiPair.tuple_tuple hiz rfl ?_) | walk1 | (dsimp only; walk1)))) | (first | ((with_reducible show Frag.In _ _ ∧ _); refine ⟨by k_in, ?_⟩; try dsimp only [List.nil_append, List.cons_append]) | ((with_reducible show KswPost _ _ _ _ _ _ _ _ _ _ _ _ _ _); dsimp only [KswPost])))); ((k_dflt (refine' wpC_callWith_K ?kX ?kI ?_; (case kX => assumption); (case kI => k_is); k_whole))); refine wpC_of_any ?_; (repeat' (first | ((((fail_if_success k_end); (fail_if_success (with_reducible show wpAny _ _ (exec (Stmt.While _ _ _ _) _) _ _ _)); (fail_if_success (with_reducible show wpAny _ _ (exec (Stmt.For _ _ _ _ _) _) _ _ _)))); ((first | ((with_reducible show wpAny _ _ (call _ [Value.str _ _]) _ _ _); refine P.len_str (by show ¬ ((_ : Nat) : Int) ≥ 2 ^ 63; have hz9 : PySem.Str.length _ ≤ 100 := (by assumption); omega) ?_) | ((with_reducible show wpAny _ _ (call _ [Value.ref _]) _ _ _); (rename News _ _ _ _ => Niz); refine PyProof.Rows.len_tuple (items := _) ⟨_, (Niz _ (by first | assumption | exact List.mem_cons_of_mem _ (by assumption))).1, rfl, _, rfl⟩ (by have hz9 : List.length _ ≤ 100 := (by assumption); show ((List.toArray _).size : Int) < 9223372036854775808; rw [List.size_toArray]; omega) ?_) | ((with_reducible show wpAny _ _ (call _ [Value.ref _, Value.type _]) _ _ _); (rename News _ _ _ _ => Niz); (have hiz := (Niz _ (by first | assumption | exact List.mem_cons_of_mem _ (by assumption))).1); first | refine IsiPair.tuple_bool hiz rfl ?_ | refine IsiPair.tuple_int hiz rfl ?_ | refine IsiPair.tuple_str hiz rfl ?_ | refine IsiPair.tuple_bytes hiz rfl ?_ | refine IsiPair.tuple_tuple hiz rfl ?_) | walk1 | (dsimp only; walk1)))) | (first | ((with_reducible show Frag.In _ _ ∧ _); refine ⟨by k_in, ?_⟩; try dsimp only [List.nil_append, List.cons_append]) | ((with_reducible show KswPost _ _ _ _ _ _ _ _ _ _ _ _ _ _); dsimp only [KswPost]))))))
    refine ConS.useV (con_count_octets prog w x.cps.size (by (exact leb hfit.2 rfl)) _ _) F N X T Fs (fun p hp => .tail _ (Fi p hp)) rfl rfl (by (clear hdep hnd; lia)) (by (clear hnd; lia)) (fun t1 h' tk' F1 N1 => ?_)
    clear F N
    try dsimp only [List.nil_append] at F1 N1 ⊢
    refine wpC_of_any (KBy.add_bytes (by rw [byteArr_size]; show 1 + _ ≤ _; lia) fun t2 k2 => ?_)
    ((refine wpC_Call ?_; (repeat' (first | ((((fail_if_success k_end); (fail_if_success (with_reducible show wpAny _ _ (exec (Stmt.While _ _ _ _) _) _ _ _)); (fail_if_success (with_reducible show wpAny _ _ (exec (Stmt.For _ _ _ _ _) _) _ _ _)))); ((first | ((with_reducible show wpAny _ _ (call _ [Value.str _ _]) _ _ _); refine P.len_str (by show ¬ ((_ : Nat) : Int) ≥ 2 ^ 63; have hz9 : PySem.Str.length _ ≤ 100 := (by assumption); omega) ?_) | ((with_reducible show wpAny _ _ (call _ [Value.ref _]) _ _ _); (rename News _ _ _ _ => Niz); refine PyProof.Rows.len_tuple (items := _) ⟨_, (Niz _ (by first | assumption | exact List.mem_cons_of_mem _ (by assumption))).1, rfl, _, rfl⟩ (by have hz9 : List.length _ ≤ 100 := (by assumption); show ((List.toArray _).size : Int) < 9223372036854775808; rw [List.size_toArray]; omega) ?_) | ((with_reducible show wpAny _ _ (call _ [Value.ref _, Value.type _]) _ _ _); (rename News _ _ _ _ => Niz); (have hiz := (Niz _ (by first | assumption | exact List.mem_cons_of_mem _ (by assumption))).1); first | refine IsiPair.tuple_bool hiz rfl ?_ | refine IsiPair.tuple_int hiz rfl ?_ | refine IsiPair.tuple_str hiz rfl ?_ | refine IsiPair.tuple_bytes hiz rfl ?_ | refine IsiPair.tuple_tuple hiz rfl ?_) | walk1 | (dsimp only; walk1)))) | (first | ((with_reducible show Frag.In _ _ ∧ _); refine ⟨by k_in, ?_⟩; try dsimp only [List.nil_append, List.cons_append]) | ((with_reducible show KswPost _ _ _ _ _ _ _ _ _ _ _ _ _ _); dsimp only [KswPost])))); ((k_dflt (refine' wpC_callWith_K ?kX ?kI ?_; (case kX => assumption); (case kI => k_is); k_whole))); refine wpC_of_any ?_; (repeat' (first | ((((fail_if_success k_end); (fail_if_success (with_reducible show wpAny _ _ (exec (Stmt.While _ _ _ _) _) _ _ _)); (fail_if_success (with_reducible show wpAny _ _ (exec (Stmt.For _ _ _ _ _) _) _ _ _)))); ((first | ((with_reducible show wpAny _ _ (call _ [Value.str _ _]) _ _ _); refine P.len_str (by show ¬ ((_ : Nat) : Int) ≥ 2 ^ 63; have hz9 : PySem.Str.length _ ≤ 100 := (by assumption); omega) ?_) | ((with_reducible show wpAny _ _ (call _ [Value.ref _]) _ _ _); (rename News _ _ _ _ => Niz); refine PyProof.Rows.len_tuple (items := _) ⟨_, (Niz _ (by first | assumption | exact List.mem_cons_of_mem _ (by assumption))).1, rfl, _, rfl⟩ (by have hz9 : List.length _ ≤ 100 := (by assumption); show ((List.toArray _).size : Int) < 9223372036854775808; rw [List.size_toArray]; omega) ?_) | ((with_reducible show wpAny _ _ (call _ [Value.ref _, Value.type _]) _ _ _); (rename News _ _ _ _ => Niz); (have hiz := (Niz _ (by first | assumption | exact List.mem_cons_of_mem _ (by assumption))).1); first | refine IsiPair.tuple_bool hiz rfl ?_ | refine IsiPair.tuple_int hiz rfl ?_ | refine IsiPair.tuple_str hiz rfl ?_ | refine IsiPair.tuple_bytes hiz rfl ?_ | refine IsiPair.tuple_tuple hiz rfl ?_) | walk1 | (dsimp only; walk1)))) | (first | ((with_reducible show Frag.In _ _ ∧ _); refine ⟨by k_in, ?_⟩; try dsimp only [List.nil_append, List.cons_append]) | ((with_reducible show KswPost _ _ _ _ _ _ _ _ _ _ _ _ _ _); dsimp only [KswPost]))))))
    refine ConS.useV (con_text_codes prog w x hfit.1 hfit.2 _ _) F1 N1 X T Fs (fun p hp => .tail _ (Fi p hp)) rfl rfl (by (clear hdep hnd; lia)) (by (clear hnd; lia)) (fun t3 h' tk' F2 N2 => ?_)
    clear F1 N1
    try dsimp only [List.nil_append] at F2 N2 ⊢
    refine wpC_of_any (KBy.add_bytes (by rw [Array.size_append, byteArr_size, byteArr_size]; show 1 + _ + _ ≤ _; lia) fun t2 k2 => ?_)
    refine okc _ [] _ _ _ F2 (fun p hp => N2 p (.tail _ hp)) (fun _ h => nomatch h) ⟨rfl, t2, ?_⟩
    rw [vo]
    show Value.bytes _ _ = Value.bytes (byteArr ([116] ++ (co x.cps.size ++ _))) _
    rw [byteArr_append, byteArr_append, ← Array.append_assoc]; rfl
  | octets ks t =>
    rw [fit] at hfit
    rw [vo, List.length_cons, List.length_append] at hlen
    have hks := bInts_byteArr hfit.1
    have hkl := hfit.2
    ((refine wpC_execs_cons (wpC_If (wpC_of_any ?_)); (repeat' (first | ((((fail_if_success k_end); (fail_if_success (with_reducible show wpAny _ _ (exec (Stmt.While _ _ _ _) _) _ _ _)); (fail_if_success (with_reducible show wpAny _ _ (exec (Stmt.For _ _ _ _ _) _) _ _ _)))); ((first | ((with_reducible show wpAny _ _ (call _ [Value.str _ _]) _ _ _); refine P.len_str (by show ¬ ((_ : Nat) : Int) ≥ 2 ^ 63; have hz9 : PySem.Str.length _ ≤ 100 := (by assumption); omega) ?_) | ((with_reducible show wpAny _ _ (call _ [Value.ref _]) _ _ _); (rename News _ _ _ _ => Niz); refine PyProof.Rows.len_tuple (items := _) ⟨_, (Niz _ (by first | assumption | exact List.mem_cons_of_mem _ (by assumption))).1, rfl, _, rfl⟩ (by have hz9 : List.length _ ≤ 100 := (by assumption); show ((List.toArray _).size : Int) < 9223372036854775808; rw [List.size_toArray]; omega) ?_) | ((with_reducible show wpAny _ _ (call _ [Value.ref _, Value.type _]) _ _ _); (rename News _ _ _ _ => Niz); (have hiz := (Niz _ (by first | assumption | exact List.mem_cons_of_mem _ (by assumption))).1); first | refine IsiPair.tuple_bool hiz rfl ?_ | refine IsiPair.tuple_int hiz rfl ?_ | refine IsiPair.tuple_str hiz rfl ?_ | refine IsiPair.tuple_bytes hiz rfl ?_ | refine IsiPair.tuple_tuple hiz rfl ?_) | walk1 | (dsimp only; walk1)))) | (first | ((with_reducible show Frag.In _ _ ∧ _); refine ⟨by k_in, ?_⟩; try dsimp only [List.nil_append, List.cons_append]) | ((with_reducible show KswPost _ _ _ _ _ _ _ _ _ _ _ _ _ _); dsimp only [KswPost])))); (all_goals (try simp only [Bool.false_eq_true, if_false, if_true])); (all_goals (try refine wpC_execs_nil ?_)); all_goals (try dsimp only)))
    ((refine wpC_execs_cons (wpC_If (wpC_of_any ?_)); (repeat' (first | ((((fail_if_success k_end); (fail_if_success (with_reducible show wpAny _ _ (exec (Stmt.While _ _ _ _) _) _ _ _)); (fail_if_success (with_reducible show wpAny _ _ (exec (Stmt.For _ _ _ _ _) _) _ _ _)))); ((first | ((with_reducible show wpAny _ _ (call _ [Value.str _ _]) _ _ _); refine P.len_str (by show ¬ ((_ : Nat) : Int) ≥ 2 ^ 63; have hz9 : PySem.Str.length _ ≤ 100 := (by assumption); omega) ?_) | ((with_reducible show wpAny _ _ (call _ [Value.ref _]) _ _ _); (rename News _ _ _ _ => Niz); refine PyProof.Rows.len_tuple (items := _) ⟨_, (Niz _ (by first | assumption | exact List.mem_cons_of_mem _ (by assumption))).1, rfl, _, rfl⟩ (by have hz9 : List.length _ ≤ 100 := (by assumption); show ((List.toArray _).size : Int) < 9223372036854775808; rw [List.size_toArray]; omega) ?_) | ((with_reducible show wpAny _ _ (call _ [Value.ref _, Value.type _]) _ _ _); (rename News _ _ _ _ => Niz); (have hiz := (Niz _ (by first | assumption | exact List.mem_cons_of_mem _ (by assumption))).1); first | refine IsiPair.tuple_bool hiz rfl ?_ | refine IsiPair.tuple_int hiz rfl ?_ | refine IsiPair.tuple_str hiz rfl ?_ | refine IsiPair.tuple_bytes hiz rfl ?_ | refine IsiPair.tuple_tuple hiz rfl ?_) | walk1 | (dsimp only; walk1)))) | (first | ((with_reducible show Frag.In _ _ ∧ _); refine ⟨by k_in, ?_⟩; try dsimp only [List.nil_append, List.cons_append]) | ((with_reducible show KswPost _ _ _ _ _ _ _ _ _ _ _ _ _ _); dsimp only [KswPost])))); (all_goals (try simp only [Bool.false_eq_true, if_false, if_true])); (all_goals (try refine wpC_execs_nil ?_)); all_goals (try dsimp only)))
    ((refine wpC_execs_cons (wpC_If (wpC_of_any ?_)); (repeat' (first | ((((fail_if_success k_end); (fail_if_success (with_reducible show wpAny _ _ (exec (Stmt.While _ _ _ _) _) _ _ _)); (fail_if_success (with_reducible show wpAny _ _ (exec (Stmt.For _ _ _ _ _) _) _ _ _)))); ((first | ((with_reducible show wpAny _ _ (call _ [Value.str _ _]) _ _ _); refine P.len_str (by show ¬ ((_ : Nat) : Int) ≥ 2 ^ 63; have hz9 : PySem.Str.length _ ≤ 100 := (by assumption); omega) ?_) | ((with_reducible show wpAny _ _ (call _ [Value.ref _]) _ _ _); (rename News _ _ _ _ => Niz); refine PyProof.Rows.len_tuple (items := _) ⟨_, (Niz _ (by first | assumption | exact List.mem_cons_of_mem _ (by assumption))).1, rfl, _, rfl⟩ (by have hz9 : List.length _ ≤ 100 := (by assumption); show ((List.toArray _).size : Int) < 9223372036854775808; rw [List.size_toArray]; omega) ?_) | ((with_reducible show wpAny _ _ (call _ [Value.ref _, Value.type _]) _ _ _); (rename News _ _ _ _ => Niz); (have hiz := (Niz _ (by first | assumption | exact List.mem_cons_of_mem _ (by assumption))).1); first | refine IsiPair.tuple_bool hiz rfl ?_ | refine IsiPair.tuple_int hiz rfl ?_ | refine IsiPair.tuple_str hiz rfl ?_ | refine IsiPair.tuple_bytes hiz rfl ?_ | refine IsiPair.tuple_tuple hiz rfl ?_) | walk1 | (dsimp only; walk1)))) | (first | ((with_reducible show Frag.In _ _ ∧ _); refine ⟨by k_in, ?_⟩; try dsimp only [List.nil_append, List.cons_append]) | ((with_reducible show KswPost _ _ _ _ _ _ _ _ _ _ _ _ _ _); dsimp only [KswPost])))); (all_goals (try simp only [Bool.false_eq_true, if_false, if_true])); (all_goals (try refine wpC_execs_nil ?_)); all_goals (try dsimp only)))
    ((refine wpC_execs_cons (wpC_If (wpC_of_any ?_)); (repeat' (first | ((((fail_if_success k_end); (fail_if_success (with_reducible show wpAny _ _ (exec (Stmt.While _ _ _ _) _) _ _ _)); (fail_if_success (with_reducible show wpAny _ _ (exec (Stmt.For _ _ _ _ _) _) _ _ _)))); ((first | ((with_reducible show wpAny _ _ (call _ [Value.str _ _]) _ _ _); refine P.len_str (by show ¬ ((_ : Nat) : Int) ≥ 2 ^ 63; have hz9 : PySem.Str.length _ ≤ 100 := (by assumption); omega) ?_) | ((with_reducible show wpAny _ _ (call _ [Value.ref _]) _ _ _); (rename News _ _ _ _ => Niz); refine PyProof.Rows.len_tuple (items := _) ⟨_, (Niz _ (by first | assumption | exact List.mem_cons_of_mem _ (by assumption))).1, rfl, _, rfl⟩ (by have hz9 : List.length _ ≤ 100 := (by assumption); show ((List.toArray _).size : Int) < 9223372036854775808; rw [List.size_toArray]; omega) ?_) | ((with_reducible show wpAny _ _ (call _ [Value.ref _, Value.type _]) _ _ _); (rename News _ _ _ _ => Niz); (have hiz := (Niz _ (by first | assumption | exact List.mem_cons_of_mem _ (by assumption))).1); first | refine IsiPair.tuple_bool hiz rfl ?_ | refine IsiPair.tuple_int hiz rfl ?_ | refine IsiPair.tuple_str hiz rfl ?_ | refine IsiPair.tuple_bytes hiz rfl ?_ | refine IsiPair.tuple_tuple hiz rfl ?_) | walk1 | (dsimp only; walk1)))) | (first | ((with_reducible show Frag.In _ _ ∧ _); refine ⟨by k_in, ?_⟩; try dsimp only [List.nil_append, List.cons_append]) | ((with_reducible show KswPost _ _ _ _ _ _ _ _ _ _ _ _ _ _); dsimp only [KswPost])))); (all_goals (try simp only [Bool.false_eq_true, if_false, if_true])); (all_goals (try refine wpC_execs_nil ?_)); all_goals (try dsimp only)))
    refine wpC_execs_cons (wpC_Return (wpC_BinOp (wpC_BinOp (wpC_of_any ?_))))
    (repeat' (first | ((((fail_if_success k_end); (fail_if_success (with_reducible show wpAny _ _ (exec (Stmt.While _ _ _ _) _) _ _ _)); (fail_if_success (with_reducible show wpAny _ _ (exec (Stmt.For _ _ _ _ _) _) _ _ _)))); ((first | ((with_reducible show wpAny _ _ (call _ [Value.str _ _]) _ _ _); refine P.len_str (by show ¬ ((_ : Nat) : Int) ≥ 2 ^ 63; have hz9 : PySem.Str.length _ ≤ 100 := (by assumption); omega) ?_) | ((with_reducible show wpAny _ _ (call _ [Value.ref _]) _ _ _); (rename News _ _ _ _ => Niz); refine PyProof.Rows.len_tuple (items := _) ⟨_, (Niz _ (by first | assumption | exact List.mem_cons_of_mem _ (by assumption))).1, rfl, _, rfl⟩ (by have hz9 : List.length _ ≤ 100 := (by assumption); show ((List.toArray _).size : Int) < 9223372036854775808; rw [List.size_toArray]; omega) ?_) | ((with_reducible show wpAny _ _ (call _ [Value.ref _, Value.type _]) _ _ _); (rename News _ _ _ _ => Niz); (have hiz := (Niz _ (by first | assumption | exact List.mem_cons_of_mem _ (by assumption))).1); first | refine IsiPair.tuple_bool hiz rfl ?_ | refine IsiPair.tuple_int hiz rfl ?_ | refine IsiPair.tuple_str hiz rfl ?_ | refine IsiPair.tuple_bytes hiz rfl ?_ | refine IsiPair.tuple_tuple hiz rfl ?_) | walk1 | (dsimp only; walk1)))) | (first | ((with_reducible show Frag.In _ _ ∧ _); refine ⟨by k_in, ?_⟩; try dsimp only [List.nil_append, List.cons_append]) | ((with_reducible show KswPost _ _ _ _ _ _ _ _ _ _ _ _ _ _); dsimp only [KswPost]))))
    ((refine wpC_Call ?_; (repeat' (first | ((((fail_if_success k_end); (fail_if_success (with_reducible show wpAny _ _ (exec (Stmt.While _ _ _ _) _) _ _ _)); (fail_if_success (with_reducible show wpAny _ _ (exec (Stmt.For _ _ _ _ _) _) _ _ _)))); ((first | ((with_reducible show wpAny _ _ (call _ [Value.str _ _]) _ _ _); refine P.len_str (by show ¬ ((_ : Nat) : Int) ≥ 2 ^ 63; have hz9 : PySem.Str.length _ ≤ 100 := (by assumption); omega) ?_) | ((with_reducible show wpAny _ _ (call _ [Value.ref _]) _ _ _); (rename News _ _ _ _ => Niz); refine PyProof.Rows.len_tuple (items := _) ⟨_, (Niz _ (by first | assumption | exact List.mem_cons_of_mem _ (by assumption))).1, rfl, _, rfl⟩ (by have hz9 : List.length _ ≤ 100 := (by assumption); show ((List.toArray _).size : Int) < 9223372036854775808; rw [List.size_toArray]; omega) ?_) | ((with_reducible show wpAny _ _ (call _ [Value.ref _, Value.type _]) _ _ _); (rename News _ _ _ _ => Niz); (have hiz := (Niz _ (by first | assumption | exact List.mem_cons_of_mem _ (by assumption))).1); first | refine IsiPair.tuple_bool hiz rfl ?_ | refine IsiPair.tuple_int hiz rfl ?_ | refine IsiPair.tuple_str hiz rfl ?_ | refine IsiPair.tuple_bytes hiz rfl ?_ | refine IsiPair.tuple_tuple hiz rfl ?_) | walk1 | (dsimp only; walk1)))) | (first | ((with_reducible show Frag.In _ _ ∧ _); refine ⟨by k_in, ?_⟩; try dsimp only [List.nil_append, List.cons_append]) | ((with_reducible show KswPost _ _ _ _ _ _ _ _ _ _ _ _ _ _); dsimp only [KswPost])))); ((k_dflt (refine' wpC_callWith_K ?kX ?kI ?_; (case kX => assumption); (case kI => k_is); k_whole))); refine wpC_of_any ?_; (repeat' (first | ((((fail_if_success k_end); (fail_if_success (with_reducible show wpAny _ _ (exec (Stmt.While _ _ _ _) _) _ _ _)); (fail_if_success (with_reducible show wpAny _ _ (exec (Stmt.For _ _ _ _ _) _) _ _ _)))); ((first | ((with_reducible show wpAny _ _ (call _ [Value.str _ _]) _ _ _); refine P.len_str (by show ¬ ((_ : Nat) : Int) ≥ 2 ^ 63; have hz9 : PySem.Str.length _ ≤ 100 := (by assumption); omega) ?_) | ((with_reducible show wpAny _ _ (call _ [Value.ref _]) _ _ _); (rename News _ _ _ _ => Niz); refine PyProof.Rows.len_tuple (items := _) ⟨_, (Niz _ (by first | assumption | exact List.mem_cons_of_mem _ (by assumption))).1, rfl, _, rfl⟩ (by have hz9 : List.length _ ≤ 100 := (by assumption); show ((List.toArray _).size : Int) < 9223372036854775808; rw [List.size_toArray]; omega) ?_) | ((with_reducible show wpAny _ _ (call _ [Value.ref _, Value.type _]) _ _ _); (rename News _ _ _ _ => Niz); (have hiz := (Niz _ (by first | assumption | exact List.mem_cons_of_mem _ (by assumption))).1); first | refine IsiPair.tuple_bool hiz rfl ?_ | refine IsiPair.tuple_int hiz rfl ?_ | refine IsiPair.tuple_str hiz rfl ?_ | refine IsiPair.tuple_bytes hiz rfl ?_ | refine IsiPair.tuple_tuple hiz rfl ?_) | walk1 | (dsimp only; walk1)))) | (first | ((with_reducible show Frag.In _ _ ∧ _); refine ⟨by k_in, ?_⟩; try dsimp only [List.nil_append, List.cons_append]) | ((with_reducible show KswPost _ _ _ _ _ _ _ _ _ _ _ _ _ _); dsimp only [KswPost]))))))
    refine ConS.useV (con_count_octets prog w ks.length (by (exact leb hkl rfl)) _ _) F N X T Fs (fun p hp => .tail _ (Fi p hp)) rfl rfl (by (clear hdep hnd; lia)) (by (clear hnd; lia)) (fun t1 h' tk' F1 N1 => ?_)
    clear F N
    try dsimp only [List.nil_append] at F1 N1 ⊢
    refine wpC_of_any (KBy.add_bytes (by rw [byteArr_size]; show 1 + _ ≤ _; (clear hfit hkl; lia)) fun t2 k2 => ?_)
    refine wpC_of_any ?_
    (repeat' (first | ((((fail_if_success k_end); (fail_if_success (with_reducible show wpAny _ _ (exec (Stmt.While _ _ _ _) _) _ _ _)); (fail_if_success (with_reducible show wpAny _ _ (exec (Stmt.For _ _ _ _ _) _) _ _ _)))); ((first | ((with_reducible show wpAny _ _ (call _ [Value.str _ _]) _ _ _); refine P.len_str (by show ¬ ((_ : Nat) : Int) ≥ 2 ^ 63; have hz9 : PySem.Str.length _ ≤ 100 := (by assumption); omega) ?_) | ((with_reducible show wpAny _ _ (call _ [Value.ref _]) _ _ _); (rename News _ _ _ _ => Niz); refine PyProof.Rows.len_tuple (items := _) ⟨_, (Niz _ (by first | assumption | exact List.mem_cons_of_mem _ (by assumption))).1, rfl, _, rfl⟩ (by have hz9 : List.length _ ≤ 100 := (by assumption); show ((List.toArray _).size : Int) < 9223372036854775808; rw [List.size_toArray]; omega) ?_) | ((with_reducible show wpAny _ _ (call _ [Value.ref _, Value.type _]) _ _ _); (rename News _ _ _ _ => Niz); (have hiz := (Niz _ (by first | assumption | exact List.mem_cons_of_mem _ (by assumption))).1); first | refine IsiPair.tuple_bool hiz rfl ?_ | refine IsiPair.tuple_int hiz rfl ?_ | refine IsiPair.tuple_str hiz rfl ?_ | refine IsiPair.tuple_bytes hiz rfl ?_ | refine IsiPair.tuple_tuple hiz rfl ?_) | walk1 | (dsimp only; walk1)))) | (first | ((with_reducible show Frag.In _ _ ∧ _); refine ⟨by k_in, ?_⟩; try dsimp only [List.nil_append, List.cons_append]) | ((with_reducible show KswPost _ _ _ _ _ _ _ _ _ _ _ _ _ _); dsimp only [KswPost]))))
    refine wpC_of_any (KBy.add_bytes (by rw [Array.size_append, byteArr_size, byteArr_size]; show 1 + _ + _ ≤ _; lia) fun t2 k2 => ?_)
    refine okc _ [] _ _ _ F1 (fun p hp => N1 p (.tail _ hp)) (fun _ h => nomatch h) ⟨rfl, t2, ?_⟩
    rw [vo]
    show Value.bytes _ _ = Value.bytes (byteArr ([111] ++ (co ks.length ++ _))) _
    rw [byteArr_append, byteArr_append, ← Array.append_assoc]; rfl
  | @row a vs ds hm hvs =>
    have hm' := Ls _ hm
    rw [fit] at hfit
    rw [vo, List.length_cons, List.length_append] at hlen
    have hvl : vs.length ≤ 100 := by rw [hvs.len]; exact hfit.1
    have hnd9 : need = 1 + nds ds := by rw [← hnd, nd]
    ((refine wpC_execs_cons (wpC_If (wpC_of_any ?_)); (repeat' (first | ((((fail_if_success k_end); (fail_if_success (with_reducible show wpAny _ _ (exec (Stmt.While _ _ _ _) _) _ _ _)); (fail_if_success (with_reducible show wpAny _ _ (exec (Stmt.For _ _ _ _ _) _) _ _ _)))); ((first | ((with_reducible show wpAny _ _ (call _ [Value.str _ _]) _ _ _); refine P.len_str (by show ¬ ((_ : Nat) : Int) ≥ 2 ^ 63; have hz9 : PySem.Str.length _ ≤ 100 := (by assumption); omega) ?_) | ((with_reducible show wpAny _ _ (call _ [Value.ref _]) _ _ _); (rename News _ _ _ _ => Niz); refine PyProof.Rows.len_tuple (items := _) ⟨_, (Niz _ (by first | assumption | exact List.mem_cons_of_mem _ (by assumption))).1, rfl, _, rfl⟩ (by have hz9 : List.length _ ≤ 100 := (by assumption); show ((List.toArray _).size : Int) < 9223372036854775808; rw [List.size_toArray]; omega) ?_) | ((with_reducible show wpAny _ _ (call _ [Value.ref _, Value.type _]) _ _ _); (rename News _ _ _ _ => Niz); (have hiz := (Niz _ (by first | assumption | exact List.mem_cons_of_mem _ (by assumption))).1); first | refine IsiPair.tuple_bool hiz rfl ?_ | refine IsiPair.tuple_int hiz rfl ?_ | refine IsiPair.tuple_str hiz rfl ?_ | refine IsiPair.tuple_bytes hiz rfl ?_ | refine IsiPair.tuple_tuple hiz rfl ?_) | walk1 | (dsimp only; walk1)))) | (first | ((with_reducible show Frag.In _ _ ∧ _); refine ⟨by k_in, ?_⟩; try dsimp only [List.nil_append, List.cons_append]) | ((with_reducible show KswPost _ _ _ _ _ _ _ _ _ _ _ _ _ _); dsimp only [KswPost])))); (all_goals (try simp only [Bool.false_eq_true, if_false, if_true])); (all_goals (try refine wpC_execs_nil ?_)); all_goals (try dsimp only)))
    ((refine wpC_execs_cons (wpC_If (wpC_of_any ?_)); (repeat' (first | ((((fail_if_success k_end); (fail_if_success (with_reducible show wpAny _ _ (exec (Stmt.While _ _ _ _) _) _ _ _)); (fail_if_success (with_reducible show wpAny _ _ (exec (Stmt.For _ _ _ _ _) _) _ _ _)))); ((first | ((with_reducible show wpAny _ _ (call _ [Value.str _ _]) _ _ _); refine P.len_str (by show ¬ ((_ : Nat) : Int) ≥ 2 ^ 63; have hz9 : PySem.Str.length _ ≤ 100 := (by assumption); omega) ?_) | ((with_reducible show wpAny _ _ (call _ [Value.ref _]) _ _ _); (rename News _ _ _ _ => Niz); refine PyProof.Rows.len_tuple (items := _) ⟨_, (Niz _ (by first | assumption | exact List.mem_cons_of_mem _ (by assumption))).1, rfl, _, rfl⟩ (by have hz9 : List.length _ ≤ 100 := (by assumption); show ((List.toArray _).size : Int) < 9223372036854775808; rw [List.size_toArray]; omega) ?_) | ((with_reducible show wpAny _ _ (call _ [Value.ref _, Value.type _]) _ _ _); (rename News _ _ _ _ => Niz); (have hiz := (Niz _ (by first | assumption | exact List.mem_cons_of_mem _ (by assumption))).1); first | refine IsiPair.tuple_bool hiz rfl ?_ | refine IsiPair.tuple_int hiz rfl ?_ | refine IsiPair.tuple_str hiz rfl ?_ | refine IsiPair.tuple_bytes hiz rfl ?_ | refine IsiPair.tuple_tuple hiz rfl ?_) | walk1 | (dsimp only; walk1)))) | (first | ((with_reducible show Frag.In _ _ ∧ _); refine ⟨by k_in, ?_⟩; try dsimp only [List.nil_append, List.cons_append]) | ((with_reducible show KswPost _ _ _ _ _ _ _ _ _ _ _ _ _ _); dsimp only [KswPost])))); (all_goals (try simp only [Bool.false_eq_true, if_false, if_true])); (all_goals (try refine wpC_execs_nil ?_)); all_goals (try dsimp only)))
    ((refine wpC_execs_cons (wpC_If (wpC_of_any ?_)); (repeat' (first | ((((fail_if_success k_end); (fail_if_success (with_reducible show wpAny _ _ (exec (Stmt.While _ _ _ _) _) _ _ _)); (fail_if_success (with_reducible show wpAny _ _ (exec (Stmt.For _ _ _ _ _) _) _ _ _)))); ((first | ((with_reducible show wpAny _ _ (call _ [Value.str _ _]) _ _ _); refine P.len_str (by show ¬ ((_ : Nat) : Int) ≥ 2 ^ 63; have hz9 : PySem.Str.length _ ≤ 100 := (by assumption); omega) ?_) | ((with_reducible show wpAny _ _ (call _ [Value.ref _]) _ _ _); (rename News _ _ _ _ => Niz); refine PyProof.Rows.len_tuple (items := _) ⟨_, (Niz _ (by first | assumption | exact List.mem_cons_of_mem _ (by assumption))).1, rfl, _, rfl⟩ (by have hz9 : List.length _ ≤ 100 := (by assumption); show ((List.toArray _).size : Int) < 9223372036854775808; rw [List.size_toArray]; omega) ?_) | ((with_reducible show wpAny _ _ (call _ [Value.ref _, Value.type _]) _ _ _); (rename News _ _ _ _ => Niz); (have hiz := (Niz _ (by first | assumption | exact List.mem_cons_of_mem _ (by assumption))).1); first | refine IsiPair.tuple_bool hiz rfl ?_ | refine IsiPair.tuple_int hiz rfl ?_ | refine IsiPair.tuple_str hiz rfl ?_ | refine IsiPair.tuple_bytes hiz rfl ?_ | refine IsiPair.tuple_tuple hiz rfl ?_) | walk1 | (dsimp only; walk1)))) | (first | ((with_reducible show Frag.In _ _ ∧ _); refine ⟨by k_in, ?_⟩; try dsimp only [List.nil_append, List.cons_append]) | ((with_reducible show KswPost _ _ _ _ _ _ _ _ _ _ _ _ _ _); dsimp only [KswPost])))); (all_goals (try simp only [Bool.false_eq_true, if_false, if_true])); (all_goals (try refine wpC_execs_nil ?_)); all_goals (try dsimp only)))
    ((refine wpC_execs_cons (wpC_If (wpC_of_any ?_)); (repeat' (first | ((((fail_if_success k_end); (fail_if_success (with_reducible show wpAny _ _ (exec (Stmt.While _ _ _ _) _) _ _ _)); (fail_if_success (with_reducible show wpAny _ _ (exec (Stmt.For _ _ _ _ _) _) _ _ _)))); ((first | ((with_reducible show wpAny _ _ (call _ [Value.str _ _]) _ _ _); refine P.len_str (by show ¬ ((_ : Nat) : Int) ≥ 2 ^ 63; have hz9 : PySem.Str.length _ ≤ 100 := (by assumption); omega) ?_) | ((with_reducible show wpAny _ _ (call _ [Value.ref _]) _ _ _); (rename News _ _ _ _ => Niz); refine PyProof.Rows.len_tuple (items := _) ⟨_, (Niz _ (by first | assumption | exact List.mem_cons_of_mem _ (by assumption))).1, rfl, _, rfl⟩ (by have hz9 : List.length _ ≤ 100 := (by assumption); show ((List.toArray _).size : Int) < 9223372036854775808; rw [List.size_toArray]; omega) ?_) | ((with_reducible show wpAny _ _ (call _ [Value.ref _, Value.type _]) _ _ _); (rename News _ _ _ _ => Niz); (have hiz := (Niz _ (by first | assumption | exact List.mem_cons_of_mem _ (by assumption))).1); first | refine IsiPair.tuple_bool hiz rfl ?_ | refine IsiPair.tuple_int hiz rfl ?_ | refine IsiPair.tuple_str hiz rfl ?_ | refine IsiPair.tuple_bytes hiz rfl ?_ | refine IsiPair.tuple_tuple hiz rfl ?_) | walk1 | (dsimp only; walk1)))) | (first | ((with_reducible show Frag.In _ _ ∧ _); refine ⟨by k_in, ?_⟩; try dsimp only [List.nil_append, List.cons_append]) | ((with_reducible show KswPost _ _ _ _ _ _ _ _ _ _ _ _ _ _); dsimp only [KswPost])))); (all_goals (try simp only [Bool.false_eq_true, if_false, if_true])); (all_goals (try refine wpC_execs_nil ?_)); all_goals (try dsimp only)))
    ((refine wpC_execs_cons (wpC_If (wpC_of_any ?_)); (repeat' (first | ((((fail_if_success k_end); (fail_if_success (with_reducible show wpAny _ _ (exec (Stmt.While _ _ _ _) _) _ _ _)); (fail_if_success (with_reducible show wpAny _ _ (exec (Stmt.For _ _ _ _ _) _) _ _ _)))); ((first | ((with_reducible show wpAny _ _ (call _ [Value.str _ _]) _ _ _); refine P.len_str (by show ¬ ((_ : Nat) : Int) ≥ 2 ^ 63; have hz9 : PySem.Str.length _ ≤ 100 := (by assumption); omega) ?_) | ((with_reducible show wpAny _ _ (call _ [Value.ref _]) _ _ _); (rename News _ _ _ _ => Niz); refine PyProof.Rows.len_tuple (items := _) ⟨_, (Niz _ (by first | assumption | exact List.mem_cons_of_mem _ (by assumption))).1, rfl, _, rfl⟩ (by have hz9 : List.length _ ≤ 100 := (by assumption); show ((List.toArray _).size : Int) < 9223372036854775808; rw [List.size_toArray]; omega) ?_) | ((with_reducible show wpAny _ _ (call _ [Value.ref _, Value.type _]) _ _ _); (rename News _ _ _ _ => Niz); (have hiz := (Niz _ (by first | assumption | exact List.mem_cons_of_mem _ (by assumption))).1); first | refine IsiPair.tuple_bool hiz rfl ?_ | refine IsiPair.tuple_int hiz rfl ?_ | refine IsiPair.tuple_str hiz rfl ?_ | refine IsiPair.tuple_bytes hiz rfl ?_ | refine IsiPair.tuple_tuple hiz rfl ?_) | walk1 | (dsimp only; walk1)))) | (first | ((with_reducible show Frag.In _ _ ∧ _); refine ⟨by k_in, ?_⟩; try dsimp only [List.nil_append, List.cons_append]) | ((with_reducible show KswPost _ _ _ _ _ _ _ _ _ _ _ _ _ _); dsimp only [KswPost])))); (all_goals (try simp only [Bool.false_eq_true, if_false, if_true])); (all_goals (try refine wpC_execs_nil ?_)); all_goals (try dsimp only)))
    ((refine wpC_execs_cons (wpC_If (wpC_of_any ?_)); (repeat' (first | ((((fail_if_success k_end); (fail_if_success (with_reducible show wpAny _ _ (exec (Stmt.While _ _ _ _) _) _ _ _)); (fail_if_success (with_reducible show wpAny _ _ (exec (Stmt.For _ _ _ _ _) _) _ _ _)))); ((first | ((with_reducible show wpAny _ _ (call _ [Value.str _ _]) _ _ _); refine P.len_str (by show ¬ ((_ : Nat) : Int) ≥ 2 ^ 63; have hz9 : PySem.Str.length _ ≤ 100 := (by assumption); omega) ?_) | ((with_reducible show wpAny _ _ (call _ [Value.ref _]) _ _ _); (rename News _ _ _ _ => Niz); refine PyProof.Rows.len_tuple (items := _) ⟨_, (Niz _ (by first | assumption | exact List.mem_cons_of_mem _ (by assumption))).1, rfl, _, rfl⟩ (by have hz9 : List.length _ ≤ 100 := (by assumption); show ((List.toArray _).size : Int) < 9223372036854775808; rw [List.size_toArray]; omega) ?_) | ((with_reducible show wpAny _ _ (call _ [Value.ref _, Value.type _]) _ _ _); (rename News _ _ _ _ => Niz); (have hiz := (Niz _ (by first | assumption | exact List.mem_cons_of_mem _ (by assumption))).1); first | refine IsiPair.tuple_bool hiz rfl ?_ | refine IsiPair.tuple_int hiz rfl ?_ | refine IsiPair.tuple_str hiz rfl ?_ | refine IsiPair.tuple_bytes hiz rfl ?_ | refine IsiPair.tuple_tuple hiz rfl ?_) | walk1 | (dsimp only; walk1)))) | (first | ((with_reducible show Frag.In _ _ ∧ _); refine ⟨by k_in, ?_⟩; try dsimp only [List.nil_append, List.cons_append]) | ((with_reducible show KswPost _ _ _ _ _ _ _ _ _ _ _ _ _ _); dsimp only [KswPost])))); (all_goals (try simp only [Bool.false_eq_true, if_false, if_true])); (all_goals (try refine wpC_execs_nil ?_)); all_goals (try dsimp only)))
    · exfalso
      have := nds_ge ds
      (clear hnd; lia)
    refine wpC_execs_cons (wpC_Return (wpC_BinOp (wpC_BinOp (wpC_of_any ?_))))
    (repeat' (first | ((((fail_if_success k_end); (fail_if_success (with_reducible show wpAny _ _ (exec (Stmt.While _ _ _ _) _) _ _ _)); (fail_if_success (with_reducible show wpAny _ _ (exec (Stmt.For _ _ _ _ _) _) _ _ _)))); ((first | ((with_reducible show wpAny _ _ (call _ [Value.str _ _]) _ _ _); refine P.len_str (by show ¬ ((_ : Nat) : Int) ≥ 2 ^ 63; have hz9 : PySem.Str.length _ ≤ 100 := (by assumption); omega) ?_) | ((with_reducible show wpAny _ _ (call _ [Value.ref _]) _ _ _); (rename News _ _ _ _ => Niz); refine PyProof.Rows.len_tuple (items := _) ⟨_, (Niz _ (by first | assumption | exact List.mem_cons_of_mem _ (by assumption))).1, rfl, _, rfl⟩ (by have hz9 : List.length _ ≤ 100 := (by assumption); show ((List.toArray _).size : Int) < 9223372036854775808; rw [List.size_toArray]; omega) ?_) | ((with_reducible show wpAny _ _ (call _ [Value.ref _, Value.type _]) _ _ _); (rename News _ _ _ _ => Niz); (have hiz := (Niz _ (by first | assumption | exact List.mem_cons_of_mem _ (by assumption))).1); first | refine IsiPair.tuple_bool hiz rfl ?_ | refine IsiPair.tuple_int hiz rfl ?_ | refine IsiPair.tuple_str hiz rfl ?_ | refine IsiPair.tuple_bytes hiz rfl ?_ | refine IsiPair.tuple_tuple hiz rfl ?_) | walk1 | (dsimp only; walk1)))) | (first | ((with_reducible show Frag.In _ _ ∧ _); refine ⟨by k_in, ?_⟩; try dsimp only [List.nil_append, List.cons_append]) | ((with_reducible show KswPost _ _ _ _ _ _ _ _ _ _ _ _ _ _); dsimp only [KswPost]))))
    ((refine wpC_Call ?_; (repeat' (first | ((((fail_if_success k_end); (fail_if_success (with_reducible show wpAny _ _ (exec (Stmt.While _ _ _ _) _) _ _ _)); (fail_if_success (with_reducible show wpAny _ _ (exec (Stmt.For _ _ _ _ _) _) _ _ _)))); ((first | ((with_reducible show wpAny _ _ (call _ [Value.str _ _]) _ _ _); refine P.len_str (by show ¬ ((_ : Nat) : Int) ≥ 2 ^ 63; have hz9 : PySem.Str.length _ ≤ 100 := (by assumption); omega) ?_) | ((with_reducible show wpAny _ _ (call _ [Value.ref _]) _ _ _); (rename News _ _ _ _ => Niz); refine PyProof.Rows.len_tuple (items := _) ⟨_, (Niz _ (by first | assumption | exact List.mem_cons_of_mem _ (by assumption))).1, rfl, _, rfl⟩ (by have hz9 : List.length _ ≤ 100 := (by assumption); show ((List.toArray _).size : Int) < 9223372036854775808; rw [List.size_toArray]; omega) ?_) | ((with_reducible show wpAny _ _ (call _ [Value.ref _, Value.type _]) _ _ _); (rename News _ _ _ _ => Niz); (have hiz := (Niz _ (by first | assumption | exact List.mem_cons_of_mem _ (by assumption))).1); first | refine IsiPair.tuple_bool hiz rfl ?_ | refine IsiPair.tuple_int hiz rfl ?_ | refine IsiPair.tuple_str hiz rfl ?_ | refine IsiPair.tuple_bytes hiz rfl ?_ | refine IsiPair.tuple_tuple hiz rfl ?_) | walk1 | (dsimp only; walk1)))) | (first | ((with_reducible show Frag.In _ _ ∧ _); refine ⟨by k_in, ?_⟩; try dsimp only [List.nil_append, List.cons_append]) | ((with_reducible show KswPost _ _ _ _ _ _ _ _ _ _ _ _ _ _); dsimp only [KswPost])))); ((k_dflt (refine' wpC_callWith_K ?kX ?kI ?_; (case kX => assumption); (case kI => k_is); k_whole))); refine wpC_of_any ?_; (repeat' (first | ((((fail_if_success k_end); (fail_if_success (with_reducible show wpAny _ _ (exec (Stmt.While _ _ _ _) _) _ _ _)); (fail_if_success (with_reducible show wpAny _ _ (exec (Stmt.For _ _ _ _ _) _) _ _ _)))); ((first | ((with_reducible show wpAny _ _ (call _ [Value.str _ _]) _ _ _); refine P.len_str (by show ¬ ((_ : Nat) : Int) ≥ 2 ^ 63; have hz9 : PySem.Str.length _ ≤ 100 := (by assumption); omega) ?_) | ((with_reducible show wpAny _ _ (call _ [Value.ref _]) _ _ _); (rename News _ _ _ _ => Niz); refine PyProof.Rows.len_tuple (items := _) ⟨_, (Niz _ (by first | assumption | exact List.mem_cons_of_mem _ (by assumption))).1, rfl, _, rfl⟩ (by have hz9 : List.length _ ≤ 100 := (by assumption); show ((List.toArray _).size : Int) < 9223372036854775808; rw [List.size_toArray]; omega) ?_) | ((with_reducible show wpAny _ _ (call _ [Value.ref _, Value.type _]) _ _ _); (rename News _ _ _ _ => Niz); (have hiz := (Niz _ (by first | assumption | exact List.mem_cons_of_mem _ (by assumption))).1); first | refine IsiPair.tuple_bool hiz rfl ?_ | refine IsiPair.tuple_int hiz rfl ?_ | refine IsiPair.tuple_str hiz rfl ?_ | refine IsiPair.tuple_bytes hiz rfl ?_ | refine IsiPair.tuple_tuple hiz rfl ?_) | walk1 | (dsimp only; walk1)))) | (first | ((with_reducible show Frag.In _ _ ∧ _); refine ⟨by k_in, ?_⟩; try dsimp only [List.nil_append, List.cons_append]) | ((with_reducible show KswPost _ _ _ _ _ _ _ _ _ _ _ _ _ _); dsimp only [KswPost]))))))
    rw [List.size_toArray]
    rename News _ _ _ _ => N
    refine ConS.useV (con_count_octets prog w vs.length (by (exact leb hvl rfl)) _ _) F N X T Fs (fun p hp => .tail _ (Fi p hp)) rfl rfl (by (clear hnd; lia)) (by (clear hd hnd; lia)) (fun t1 h' tk' F1 N1 => ?_)
    clear F N
    try dsimp only [List.nil_append] at F1 N1 ⊢
    have hcl := co_len vs.length
    refine wpC_of_any (KBy.add_bytes (by rw [byteArr_size]; show 1 + _ ≤ _; lia) fun t2 k2 => ?_)
    refine wpC_Meth ?_
    refine wpAny_mono (E := E0) (Q := fun ov s' => ∃ t k, ov = .bytes #[] t ∧ s' = { heap := h', gens := s.gens, drawn := s.drawn, toks := k, os := s.os }) ?_ ?_ (fun _ _ x => x)
    · (repeat' (first | ((((fail_if_success k_end); (fail_if_success (with_reducible show wpAny _ _ (exec (Stmt.While _ _ _ _) _) _ _ _)); (fail_if_success (with_reducible show wpAny _ _ (exec (Stmt.For _ _ _ _ _) _) _ _ _)))); ((first | ((with_reducible show wpAny _ _ (call _ [Value.str _ _]) _ _ _); refine P.len_str (by show ¬ ((_ : Nat) : Int) ≥ 2 ^ 63; have hz9 : PySem.Str.length _ ≤ 100 := (by assumption); omega) ?_) | ((with_reducible show wpAny _ _ (call _ [Value.ref _]) _ _ _); (rename News _ _ _ _ => Niz); refine PyProof.Rows.len_tuple (items := _) ⟨_, (Niz _ (by first | assumption | exact List.mem_cons_of_mem _ (by assumption))).1, rfl, _, rfl⟩ (by have hz9 : List.length _ ≤ 100 := (by assumption); show ((List.toArray _).size : Int) < 9223372036854775808; rw [List.size_toArray]; omega) ?_) | ((with_reducible show wpAny _ _ (call _ [Value.ref _, Value.type _]) _ _ _); (rename News _ _ _ _ => Niz); (have hiz := (Niz _ (by first | assumption | exact List.mem_cons_of_mem _ (by assumption))).1); first | refine IsiPair.tuple_bool hiz rfl ?_ | refine IsiPair.tuple_int hiz rfl ?_ | refine IsiPair.tuple_str hiz rfl ?_ | refine IsiPair.tuple_bytes hiz rfl ?_ | refine IsiPair.tuple_tuple hiz rfl ?_) | walk1 | (dsimp only; walk1)))) | (first | ((with_reducible show Frag.In _ _ ∧ _); refine ⟨by k_in, ?_⟩; try dsimp only [List.nil_append, List.cons_append]) | ((with_reducible show KswPost _ _ _ _ _ _ _ _ _ _ _ _ _ _); dsimp only [KswPost]))))
      exact ⟨_, _, rfl, rfl⟩
    intro ov s' q2
    refine hold (fun Ph hPh => ?_)
    obtain ⟨t3, k3, rfl, rfl⟩ := q2
    refine hPh ?_
    clear hPh
    refine getMethod_join ?_
    dsimp only
    refine wpC_callWith_builtin (wpC_args1 (wpC_ListComp (cl := [("depth", L' + 1)]) F1 rfl (by decide) rfl (by decide) rfl ?_))
    (repeat' (first | ((((fail_if_success k_end); (fail_if_success (with_reducible show wpAny _ _ (exec (Stmt.While _ _ _ _) _) _ _ _)); (fail_if_success (with_reducible show wpAny _ _ (exec (Stmt.For _ _ _ _ _) _) _ _ _)))); ((first | ((with_reducible show wpAny _ _ (call _ [Value.str _ _]) _ _ _); refine P.len_str (by show ¬ ((_ : Nat) : Int) ≥ 2 ^ 63; have hz9 : PySem.Str.length _ ≤ 100 := (by assumption); omega) ?_) | ((with_reducible show wpAny _ _ (call _ [Value.ref _]) _ _ _); (rename News _ _ _ _ => Niz); refine PyProof.Rows.len_tuple (items := _) ⟨_, (Niz _ (by first | assumption | exact List.mem_cons_of_mem _ (by assumption))).1, rfl, _, rfl⟩ (by have hz9 : List.length _ ≤ 100 := (by assumption); show ((List.toArray _).size : Int) < 9223372036854775808; rw [List.size_toArray]; omega) ?_) | ((with_reducible show wpAny _ _ (call _ [Value.ref _, Value.type _]) _ _ _); (rename News _ _ _ _ => Niz); (have hiz := (Niz _ (by first | assumption | exact List.mem_cons_of_mem _ (by assumption))).1); first | refine IsiPair.tuple_bool hiz rfl ?_ | refine IsiPair.tuple_int hiz rfl ?_ | refine IsiPair.tuple_str hiz rfl ?_ | refine IsiPair.tuple_bytes hiz rfl ?_ | refine IsiPair.tuple_tuple hiz rfl ?_) | walk1 | (dsimp only; walk1)))) | (first | ((with_reducible show Frag.In _ _ ∧ _); refine ⟨by k_in, ?_⟩; try dsimp only [List.nil_append, List.cons_append]) | ((with_reducible show KswPost _ _ _ _ _ _ _ _ _ _ _ _ _ _); dsimp only [KswPost]))))
    have hTup : Heap.IsTuple h' a vs.toArray := ⟨_, (N1 _ (.tail _ hm')).1, rfl, _, rfl⟩
    have haL : a < L' := Lt _ hm'
    have hLI := F1.ns.lt
    have hI0 := next_is_new F1
    have hlt1 : ∀ p ∈ ((L' + 1, oc) :: led' : Led), p.1 < h'.objs.size := fun p hp => Heap.lt_size (N1 p hp).1
    refine wpAny_pyIter_tuple hTup ?_
    dsimp only
    refine ⟨h'.objs.size, [h'.objs.size, a], vs.toArray.size, _, _, (L' + 1, oc) :: led', fun i y => ∃ d t, ds[i]? = some d ∧ y = .bytes (byteArr (vo d)) t, rfl, Walks.tuple rfl _ a (Nat.ne_of_lt (Nat.lt_trans haL hLI)) vs.toArray, by rw [List.size_toArray, sizeLine_eq]; (exact leb hvl rfl),
      ⟨⟨_, Heap.get?_push_size _ rfl, rfl, rfl⟩, ⟨_, Heap.get?_push_of_some _ (N1 _ (.tail _ hm')).1, rfl, _, rfl⟩⟩, F1.push _, News.ext N1 fun b o e => Heap.get?_push_of_some _ e, fun p hp => Nat.ne_of_lt (hlt1 p hp), hI0, fun q => ?_, fun b hb => ?_, ?_, ?_⟩
    · rcases List.mem_cons.mp q with q | q
      · exact Nat.ne_of_lt hLI q
      · exact Nat.ne_of_gt haL (List.mem_singleton.mp q)
    · rw [Heap.size_push]
      rcases List.mem_cons.mp hb with rfl | hb
      · exact Nat.lt_succ_self _
      · rw [List.mem_singleton.mp hb]
        exact Nat.lt_succ_of_lt (Nat.lt_trans haL hLI)
    · intro i v C1 oC m₂ own hp tk hi hP hC hx1 hmC F2 N2
      obtain ⟨d, hd1, hd2⟩ := hvs.at (i := i) (v := v) (by simpa using hP)
      refine wpC_Call (LCgL.ld_global F2 X T (by k_dflt k_is) ?_)
      ((k_dflt (refine' wpC_callWith_K ?kX ?kI ?_; (case kX => assumption); (case kI => k_is); k_whole)))
      refine wpC_of_any (args_cons (LCgL.ld_own N2 (List.mem_append_left _ hmC) hC hx1 ?_))
      refine args_cons (wpAny_BinOp (wpAny_Name (wpAny_loadName_cell rfl rfl rfl ⟨oc, (N2 _ (List.mem_append_right _ (.head _))).1, hoc⟩ ?_)))
      (repeat' (first | ((((fail_if_success k_end); (fail_if_success (with_reducible show wpAny _ _ (exec (Stmt.While _ _ _ _) _) _ _ _)); (fail_if_success (with_reducible show wpAny _ _ (exec (Stmt.For _ _ _ _ _) _) _ _ _)))); ((first | ((with_reducible show wpAny _ _ (call _ [Value.str _ _]) _ _ _); refine P.len_str (by show ¬ ((_ : Nat) : Int) ≥ 2 ^ 63; have hz9 : PySem.Str.length _ ≤ 100 := (by assumption); omega) ?_) | ((with_reducible show wpAny _ _ (call _ [Value.ref _]) _ _ _); (rename News _ _ _ _ => Niz); refine PyProof.Rows.len_tuple (items := _) ⟨_, (Niz _ (by first | assumption | exact List.mem_cons_of_mem _ (by assumption))).1, rfl, _, rfl⟩ (by have hz9 : List.length _ ≤ 100 := (by assumption); show ((List.toArray _).size : Int) < 9223372036854775808; rw [List.size_toArray]; omega) ?_) | ((with_reducible show wpAny _ _ (call _ [Value.ref _, Value.type _]) _ _ _); (rename News _ _ _ _ => Niz); (have hiz := (Niz _ (by first | assumption | exact List.mem_cons_of_mem _ (by assumption))).1); first | refine IsiPair.tuple_bool hiz rfl ?_ | refine IsiPair.tuple_int hiz rfl ?_ | refine IsiPair.tuple_str hiz rfl ?_ | refine IsiPair.tuple_bytes hiz rfl ?_ | refine IsiPair.tuple_tuple hiz rfl ?_) | walk1 | (dsimp only; walk1)))) | (first | ((with_reducible show Frag.In _ _ ∧ _); refine ⟨by k_in, ?_⟩; try dsimp only [List.nil_append, List.cons_append]) | ((with_reducible show KswPost _ _ _ _ _ _ _ _ _ _ _ _ _ _); dsimp only [KswPost]))))
      have hmem : d ∈ ds := List.mem_of_getElem? hd1
      have hnd1 := nds_mem hmem
      have hlen1 := vos_len hmem
      have hsz1 := List.sizeOf_lt_of_mem hmem
      rw [show ((dep : Int) + 1) = ((dep + 1 : Nat) : Int) by rfl]
      refine ConS.useV (ih d (by have := Dat.row.sizeOf_spec ds; lia) (fits_mem hfit.2 hmem) (by lia) (dep + 1) (by (clear hnd; lia)) v _ _ (DV.mono (fun q hq => List.mem_append_right _ (.tail _ (Ls q hq))) hd2)) F2 N2 X T Fs (fun p hp => List.mem_append_right _ (.tail _ (Fi p hp))) rfl rfl (by (clear hnd; lia)) (by (clear hnd; lia)) (fun t4 h' tk' F3 N3 => ?_)
      exact ⟨⟨d, t4, hd1, rfl⟩, h', tk', rfl, F3, N3⟩
    · intro D ys hp tk F2 N2 neD hyl hG
      have hB := bytesAre_of (by rw [hyl, List.size_toArray, hvs.len]) hG
      have hfo := vos_fold ds #[]
      rw [Array.empty_append] at hfo
      refine wpC_of_any (join_bytes (N2 _ (.head _)).1 hB ?_ fun t5 k5 => ?_)
      · rw [hfo, byteArr_size, sizeLine_eq]; lia
      rw [hfo]
      refine wpC_of_any (KBy.add_bytes (by rw [Array.size_append, byteArr_size, byteArr_size]; show 1 + _ + _ ≤ _; lia) fun t2 k2 => ?_)
      refine okc _ [] _ _ _ F2 (fun p hp => N2 p (.tail _ (.tail _ hp))) (fun _ h => nomatch h) ⟨rfl, t2, ?_⟩
      rw [vo, ← hvs.len]
      show Value.bytes _ _ = Value.bytes (byteArr ([114] ++ (co vs.length ++ _))) _
      rw [byteArr_append, byteArr_append, ← Array.append_assoc]; rfl

end

section
def isRow : Dat → Bool
  | .row (.text _ :: _) => true
  | _ => false
theorem con_is_row (prog : Program) (w : World) (d : Dat) (v : Value) (led : Led) (hdv : DV led d v) (hlen : ∀ ds, d = .row ds → ds.length ≤ 10000) :
    Con prog w 129 [v] 2 led (fun tl r => tl = [] ∧ r = .bool (isRow d)) False := by
  intro dp un gd env outer frs h₀ L m s p loose mean mg mb R C ok er
  have X := C.X
  have T := C.T
  have hd := C.hd
  have hu := C.hu
  (k_dflt (refine' enter ?kC ?kO ?kR ?k6 ?k7 ?k9 ?kB ?kn ?c2 ?c3 ?c4 ?c5 ?_; (case kC => assumption); (case kO => assumption); (case kR => assumption); (case k6 => k_is); (case k7 => k_is); (case k9 => first | exact BindsTo.of_eq rfl | fail "defaults"); (case c5 => decide); (case kB => exact locs rfl); (case kn => first | decide | omega); (case c2 => exact rfl); (case c3 => exact rfl); (case c4 => exact rfl); k_whole))
  intro L' h₁ tk₁ led' frs' Qc Ec F N Ls Fs Fi Lt okc erc hE era
  cases hdv with
  | int n t =>
    (repeat' (first | ((((fail_if_success k_end); (fail_if_success (with_reducible show wpAny _ _ (exec (Stmt.While _ _ _ _) _) _ _ _)); (fail_if_success (with_reducible show wpAny _ _ (exec (Stmt.For _ _ _ _ _) _) _ _ _)))); ((first | ((with_reducible show wpAny _ _ (call _ [Value.ref _]) _ _ _); (rename News _ _ _ _ => Niz); refine PyProof.Rows.len_tuple (items := _) ⟨_, (Niz _ (by first | assumption | exact List.mem_cons_of_mem _ (by assumption))).1, rfl, _, rfl⟩ (by have hz9 : List.length _ ≤ 10000 := (by assumption); show ((List.toArray _).size : Int) < 9223372036854775808; rw [List.size_toArray]; omega) ?_) | ((with_reducible show wpAny _ _ (call _ [Value.ref _, Value.type _]) _ _ _); (rename News _ _ _ _ => Niz); (have hiz := (Niz _ (by first | assumption | exact List.mem_cons_of_mem _ (by assumption))).1); first | refine IsiPair.tuple_tuple hiz rfl ?_ | refine IsiPair.tuple_str hiz rfl ?_) | walk1 | (dsimp only; walk1)))) | (first | ((with_reducible show Frag.In _ _ ∧ _); refine ⟨by k_in, ?_⟩; try dsimp only [List.nil_append, List.cons_append]) | ((with_reducible show KswPost _ _ _ _ _ _ _ _ _ _ _ _ _ _); dsimp only [KswPost]))))
    exact okc _ [] _ _ _ (by k_asm) (by k_asm) (fun _ h => nomatch h) ⟨rfl, rfl⟩
  | text n t =>
    (repeat' (first | ((((fail_if_success k_end); (fail_if_success (with_reducible show wpAny _ _ (exec (Stmt.While _ _ _ _) _) _ _ _)); (fail_if_success (with_reducible show wpAny _ _ (exec (Stmt.For _ _ _ _ _) _) _ _ _)))); ((first | ((with_reducible show wpAny _ _ (call _ [Value.ref _]) _ _ _); (rename News _ _ _ _ => Niz); refine PyProof.Rows.len_tuple (items := _) ⟨_, (Niz _ (by first | assumption | exact List.mem_cons_of_mem _ (by assumption))).1, rfl, _, rfl⟩ (by have hz9 : List.length _ ≤ 10000 := (by assumption); show ((List.toArray _).size : Int) < 9223372036854775808; rw [List.size_toArray]; omega) ?_) | ((with_reducible show wpAny _ _ (call _ [Value.ref _, Value.type _]) _ _ _); (rename News _ _ _ _ => Niz); (have hiz := (Niz _ (by first | assumption | exact List.mem_cons_of_mem _ (by assumption))).1); first | refine IsiPair.tuple_tuple hiz rfl ?_ | refine IsiPair.tuple_str hiz rfl ?_) | walk1 | (dsimp only; walk1)))) | (first | ((with_reducible show Frag.In _ _ ∧ _); refine ⟨by k_in, ?_⟩; try dsimp only [List.nil_append, List.cons_append]) | ((with_reducible show KswPost _ _ _ _ _ _ _ _ _ _ _ _ _ _); dsimp only [KswPost]))))
    exact okc _ [] _ _ _ (by k_asm) (by k_asm) (fun _ h => nomatch h) ⟨rfl, rfl⟩
  | octets n t =>
    (repeat' (first | ((((fail_if_success k_end); (fail_if_success (with_reducible show wpAny _ _ (exec (Stmt.While _ _ _ _) _) _ _ _)); (fail_if_success (with_reducible show wpAny _ _ (exec (Stmt.For _ _ _ _ _) _) _ _ _)))); ((first | ((with_reducible show wpAny _ _ (call _ [Value.ref _]) _ _ _); (rename News _ _ _ _ => Niz); refine PyProof.Rows.len_tuple (items := _) ⟨_, (Niz _ (by first | assumption | exact List.mem_cons_of_mem _ (by assumption))).1, rfl, _, rfl⟩ (by have hz9 : List.length _ ≤ 10000 := (by assumption); show ((List.toArray _).size : Int) < 9223372036854775808; rw [List.size_toArray]; omega) ?_) | ((with_reducible show wpAny _ _ (call _ [Value.ref _, Value.type _]) _ _ _); (rename News _ _ _ _ => Niz); (have hiz := (Niz _ (by first | assumption | exact List.mem_cons_of_mem _ (by assumption))).1); first | refine IsiPair.tuple_tuple hiz rfl ?_ | refine IsiPair.tuple_str hiz rfl ?_) | walk1 | (dsimp only; walk1)))) | (first | ((with_reducible show Frag.In _ _ ∧ _); refine ⟨by k_in, ?_⟩; try dsimp only [List.nil_append, List.cons_append]) | ((with_reducible show KswPost _ _ _ _ _ _ _ _ _ _ _ _ _ _); dsimp only [KswPost]))))
    exact okc _ [] _ _ _ (by k_asm) (by k_asm) (fun _ h => nomatch h) ⟨rfl, rfl⟩
  | @row a vs ds hm hvs =>
    have hm' := Ls _ hm
    have hvl : vs.length ≤ 10000 := by rw [hvs.len]; exact hlen _ rfl
    cases hvs with
    | nil =>
      (repeat' (first | ((((fail_if_success k_end); (fail_if_success (with_reducible show wpAny _ _ (exec (Stmt.While _ _ _ _) _) _ _ _)); (fail_if_success (with_reducible show wpAny _ _ (exec (Stmt.For _ _ _ _ _) _) _ _ _)))); ((first | ((with_reducible show wpAny _ _ (call _ [Value.ref _]) _ _ _); (rename News _ _ _ _ => Niz); refine PyProof.Rows.len_tuple (items := _) ⟨_, (Niz _ (by first | assumption | exact List.mem_cons_of_mem _ (by assumption))).1, rfl, _, rfl⟩ (by have hz9 : List.length _ ≤ 10000 := (by assumption); show ((List.toArray _).size : Int) < 9223372036854775808; rw [List.size_toArray]; omega) ?_) | ((with_reducible show wpAny _ _ (call _ [Value.ref _, Value.type _]) _ _ _); (rename News _ _ _ _ => Niz); (have hiz := (Niz _ (by first | assumption | exact List.mem_cons_of_mem _ (by assumption))).1); first | refine IsiPair.tuple_tuple hiz rfl ?_ | refine IsiPair.tuple_str hiz rfl ?_) | walk1 | (dsimp only; walk1)))) | (first | ((with_reducible show Frag.In _ _ ∧ _); refine ⟨by k_in, ?_⟩; try dsimp only [List.nil_append, List.cons_append]) | ((with_reducible show KswPost _ _ _ _ _ _ _ _ _ _ _ _ _ _); dsimp only [KswPost]))))
      all_goals first
        | exact okc _ [] _ _ _ (by k_asm) (by k_asm) (fun _ h => nomatch h) ⟨rfl, rfl⟩
        | (exfalso; rename_i hz; revert hz; decide)
    | @cons d0 v0 ds0 vs0 hd0 hvs0 =>
      (repeat' (first | ((((fail_if_success k_end); (fail_if_success (with_reducible show wpAny _ _ (exec (Stmt.While _ _ _ _) _) _ _ _)); (fail_if_success (with_reducible show wpAny _ _ (exec (Stmt.For _ _ _ _ _) _) _ _ _)))); ((first | ((with_reducible show wpAny _ _ (call _ [Value.ref _]) _ _ _); (rename News _ _ _ _ => Niz); refine PyProof.Rows.len_tuple (items := _) ⟨_, (Niz _ (by first | assumption | exact List.mem_cons_of_mem _ (by assumption))).1, rfl, _, rfl⟩ (by have hz9 : List.length _ ≤ 10000 := (by assumption); show ((List.toArray _).size : Int) < 9223372036854775808; rw [List.size_toArray]; omega) ?_) | ((with_reducible show wpAny _ _ (call _ [Value.ref _, Value.type _]) _ _ _); (rename News _ _ _ _ => Niz); (have hiz := (Niz _ (by first | assumption | exact List.mem_cons_of_mem _ (by assumption))).1); first | refine IsiPair.tuple_tuple hiz rfl ?_ | refine IsiPair.tuple_str hiz rfl ?_) | walk1 | (dsimp only; walk1)))) | (first | ((with_reducible show Frag.In _ _ ∧ _); refine ⟨by k_in, ?_⟩; try dsimp only [List.nil_append, List.cons_append]) | ((with_reducible show KswPost _ _ _ _ _ _ _ _ _ _ _ _ _ _); dsimp only [KswPost]))))
      · rename News _ _ _ _ => N1
        refine item_tupleL (l := v0 :: vs0) (j := 0) ⟨_, (N1 _ hm').1, rfl, _, rfl⟩ (by decide) (by decide) (by unfold seqIndex?; simp) rfl ?_
        cases hd0 with
        | int n t =>
          (repeat' (first | ((((fail_if_success k_end); (fail_if_success (with_reducible show wpAny _ _ (exec (Stmt.While _ _ _ _) _) _ _ _)); (fail_if_success (with_reducible show wpAny _ _ (exec (Stmt.For _ _ _ _ _) _) _ _ _)))); ((first | ((with_reducible show wpAny _ _ (call _ [Value.ref _]) _ _ _); (rename News _ _ _ _ => Niz); refine PyProof.Rows.len_tuple (items := _) ⟨_, (Niz _ (by first | assumption | exact List.mem_cons_of_mem _ (by assumption))).1, rfl, _, rfl⟩ (by have hz9 : List.length _ ≤ 10000 := (by assumption); show ((List.toArray _).size : Int) < 9223372036854775808; rw [List.size_toArray]; omega) ?_) | ((with_reducible show wpAny _ _ (call _ [Value.ref _, Value.type _]) _ _ _); (rename News _ _ _ _ => Niz); (have hiz := (Niz _ (by first | assumption | exact List.mem_cons_of_mem _ (by assumption))).1); first | refine IsiPair.tuple_tuple hiz rfl ?_ | refine IsiPair.tuple_str hiz rfl ?_) | walk1 | (dsimp only; walk1)))) | (first | ((with_reducible show Frag.In _ _ ∧ _); refine ⟨by k_in, ?_⟩; try dsimp only [List.nil_append, List.cons_append]) | ((with_reducible show KswPost _ _ _ _ _ _ _ _ _ _ _ _ _ _); dsimp only [KswPost]))))
          exact okc _ [] _ _ _ (by k_asm) (by k_asm) (fun _ h => nomatch h) ⟨rfl, rfl⟩
        | text n t =>
          (repeat' (first | ((((fail_if_success k_end); (fail_if_success (with_reducible show wpAny _ _ (exec (Stmt.While _ _ _ _) _) _ _ _)); (fail_if_success (with_reducible show wpAny _ _ (exec (Stmt.For _ _ _ _ _) _) _ _ _)))); ((first | ((with_reducible show wpAny _ _ (call _ [Value.ref _]) _ _ _); (rename News _ _ _ _ => Niz); refine PyProof.Rows.len_tuple (items := _) ⟨_, (Niz _ (by first | assumption | exact List.mem_cons_of_mem _ (by assumption))).1, rfl, _, rfl⟩ (by have hz9 : List.length _ ≤ 10000 := (by assumption); show ((List.toArray _).size : Int) < 9223372036854775808; rw [List.size_toArray]; omega) ?_) | ((with_reducible show wpAny _ _ (call _ [Value.ref _, Value.type _]) _ _ _); (rename News _ _ _ _ => Niz); (have hiz := (Niz _ (by first | assumption | exact List.mem_cons_of_mem _ (by assumption))).1); first | refine IsiPair.tuple_tuple hiz rfl ?_ | refine IsiPair.tuple_str hiz rfl ?_) | walk1 | (dsimp only; walk1)))) | (first | ((with_reducible show Frag.In _ _ ∧ _); refine ⟨by k_in, ?_⟩; try dsimp only [List.nil_append, List.cons_append]) | ((with_reducible show KswPost _ _ _ _ _ _ _ _ _ _ _ _ _ _); dsimp only [KswPost]))))
          exact okc _ [] _ _ _ (by k_asm) (by k_asm) (fun _ h => nomatch h) ⟨rfl, rfl⟩
        | octets n t =>
          (repeat' (first | ((((fail_if_success k_end); (fail_if_success (with_reducible show wpAny _ _ (exec (Stmt.While _ _ _ _) _) _ _ _)); (fail_if_success (with_reducible show wpAny _ _ (exec (Stmt.For _ _ _ _ _) _) _ _ _)))); ((first | ((with_reducible show wpAny _ _ (call _ [Value.ref _]) _ _ _); (rename News _ _ _ _ => Niz); refine PyProof.Rows.len_tuple (items := _) ⟨_, (Niz _ (by first | assumption | exact List.mem_cons_of_mem _ (by assumption))).1, rfl, _, rfl⟩ (by have hz9 : List.length _ ≤ 10000 := (by assumption); show ((List.toArray _).size : Int) < 9223372036854775808; rw [List.size_toArray]; omega) ?_) | ((with_reducible show wpAny _ _ (call _ [Value.ref _, Value.type _]) _ _ _); (rename News _ _ _ _ => Niz); (have hiz := (Niz _ (by first | assumption | exact List.mem_cons_of_mem _ (by assumption))).1); first | refine IsiPair.tuple_tuple hiz rfl ?_ | refine IsiPair.tuple_str hiz rfl ?_) | walk1 | (dsimp only; walk1)))) | (first | ((with_reducible show Frag.In _ _ ∧ _); refine ⟨by k_in, ?_⟩; try dsimp only [List.nil_append, List.cons_append]) | ((with_reducible show KswPost _ _ _ _ _ _ _ _ _ _ _ _ _ _); dsimp only [KswPost]))))
          exact okc _ [] _ _ _ (by k_asm) (by k_asm) (fun _ h => nomatch h) ⟨rfl, rfl⟩
        | @row a1 vs1 ds1 hm1 hvs1 =>
          have hm1' := Ls _ hm1
          clear hm hm' hvl
          (repeat' (first | ((((fail_if_success k_end); (fail_if_success (with_reducible show wpAny _ _ (exec (Stmt.While _ _ _ _) _) _ _ _)); (fail_if_success (with_reducible show wpAny _ _ (exec (Stmt.For _ _ _ _ _) _) _ _ _)))); ((first | ((with_reducible show wpAny _ _ (call _ [Value.ref _]) _ _ _); (rename News _ _ _ _ => Niz); refine PyProof.Rows.len_tuple (items := _) ⟨_, (Niz _ (by first | assumption | exact List.mem_cons_of_mem _ (by assumption))).1, rfl, _, rfl⟩ (by have hz9 : List.length _ ≤ 10000 := (by assumption); show ((List.toArray _).size : Int) < 9223372036854775808; rw [List.size_toArray]; omega) ?_) | ((with_reducible show wpAny _ _ (call _ [Value.ref _, Value.type _]) _ _ _); (rename News _ _ _ _ => Niz); (have hiz := (Niz _ (by first | assumption | exact List.mem_cons_of_mem _ (by assumption))).1); first | refine IsiPair.tuple_tuple hiz rfl ?_ | refine IsiPair.tuple_str hiz rfl ?_) | walk1 | (dsimp only; walk1)))) | (first | ((with_reducible show Frag.In _ _ ∧ _); refine ⟨by k_in, ?_⟩; try dsimp only [List.nil_append, List.cons_append]) | ((with_reducible show KswPost _ _ _ _ _ _ _ _ _ _ _ _ _ _); dsimp only [KswPost]))))
          exact okc _ [] _ _ _ (by k_asm) (by k_asm) (fun _ h => nomatch h) ⟨rfl, rfl⟩
      · exfalso
        rename_i hz
        simp only [List.size_toArray, List.length_cons] at hz
        lia

end

section
def adS (c : Int × Int) (k : Int) : Int × Int := ((c.1 + k) % 65521, (c.2 + (c.1 + k) % 65521) % 65521)
def adP (ks : List Int) : Int × Int := ks.foldl adS (1, 0)
def ad (ks : List Int) : Int := (adP ks).2 * 65536 + (adP ks).1
theorem con_adler (prog : Program) (w : World) (b : Array UInt8) (tb : Tok) (ks : List Int) (hks : KBw.bInts b = ks) (led : Led) :
    Con prog w 150 [.bytes b tb] 2 led (fun tl r => tl = [] ∧ ∃ t, r = .int (ad ks) t) False := by
  intro dp un gd env outer frs h₀ L m s p loose mean mg mb R C ok er
  have X := C.X
  have T := C.T
  have hd := C.hd
  have hu := C.hu
  (k_dflt (refine' enter ?kC ?kO ?kR ?k6 ?k7 ?k9 ?kB ?kn ?c2 ?c3 ?c4 ?c5 ?_; (case kC => assumption); (case kO => assumption); (case kR => assumption); (case k6 => k_is); (case k7 => k_is); (case k9 => first | exact BindsTo.of_eq rfl | fail "defaults"); (case c5 => decide); (case kB => exact locs rfl); (case kn => first | decide | omega); (case c2 => exact rfl); (case c3 => exact rfl); (case c4 => exact rfl); k_whole))
  intro L' h₁ tk₁ led' frs' Qc Ec F N Ls Fs Fi Lt okc erc hE era
  (repeat' (first | ((((fail_if_success k_end); (fail_if_success (with_reducible show wpAny _ _ (exec (Stmt.While _ _ _ _) _) _ _ _)); (fail_if_success (with_reducible show wpAny _ _ (exec (Stmt.For _ _ _ _ _) _) _ _ _)))); ((first | walk1 | (dsimp only; walk1)))) | (first | ((with_reducible show Frag.In _ _ ∧ _); refine ⟨by k_in, ?_⟩; try dsimp only [List.nil_append, List.cons_append]) | ((with_reducible show KswPost _ _ _ _ _ _ _ _ _ _ _ _ _ _); dsimp only [KswPost]))))
  rename Fr _ _ _ _ => F1
  rename News _ _ _ _ => N1
  refine wpAny_For ?_
  (repeat' (first | ((((fail_if_success k_end); (fail_if_success (with_reducible show wpAny _ _ (exec (Stmt.While _ _ _ _) _) _ _ _)); (fail_if_success (with_reducible show wpAny _ _ (exec (Stmt.For _ _ _ _ _) _) _ _ _)))); (fail_if_success (with_reducible show wpAny _ _ (pyIter _) _ _ _)); ((first | walk1 | (dsimp only; walk1)))) | (first | ((with_reducible show Frag.In _ _ ∧ _); refine ⟨by k_in, ?_⟩; try dsimp only [List.nil_append, List.cons_append]) | ((with_reducible show KswPost _ _ _ _ _ _ _ _ _ _ _ _ _ _); dsimp only [KswPost]))))
  refine KBw.pyIter_bytes ?_
  have F2 := F1.push { cls := .type "bytes_iterator", data := .fields #[.bytes b tb, .int 0 0] }
  have N2 := News.ext N1 (h' := _) fun b' ob e => Heap.get?_push_of_some { cls := .type "bytes_iterator", data := .fields #[.bytes b tb, .int 0 0] } e
  have lt3 : ∀ p ∈ led', p.1 < _ := fun p hp => Heap.lt_size (N1 p hp).1
  have hI0 : h₀.get? _ = none := next_is_new F1
  have hLI := F1.ns.lt
  refine codeA_for (KBw.walks rfl _ b tb) (fun i c => (c.1, c.2.1) = (ks.take i).foldl adS (1, 0)) (fun _ => led') (fun c => [("low", .int c.1 c.2.2.1), ("high", .int c.2.1 c.2.2.2)]) ["code"] ((1, 0, _, _) : Int × Int × Tok × Tok) hE
    rfl rfl rfl (fun q => Nat.ne_of_lt hLI (List.mem_singleton.mp q)) (fun b hb => by rw [List.mem_singleton.mp hb]; exact hI0) (fun i c _ p hp q => Nat.ne_of_lt (lt3 p hp) (List.mem_singleton.mp q))
    ⟨_, Heap.get?_push_size _ rfl, rfl, rfl⟩ F2 N2 (by (((repeat' (first | exact List.forall_mem_nil _ | refine List.forall_mem_cons.mpr ⟨rfl, ?_⟩))))) rfl ?_ ?_
  · intro i
    refine all4 (fun lo hi t1 t2 => ?_)
    intro v u h tk own hlt q8 hJ hown _ _ F3 N3
    refine hold (fun Ph hPh => ?_)
    obtain ⟨c, uc, hc, rfl⟩ := q8
    refine hPh ?_
    clear hPh
    dsimp only at hJ F3 N3 ⊢
    have hk : ks[i]? = some (c.toNat : Int) := by rw [← hks]; exact KBw.ints_get hc
    clear F1 N1 F2 N2
    (repeat' (first | ((((fail_if_success k_end); (fail_if_success (with_reducible show wpAny _ _ (exec (Stmt.While _ _ _ _) _) _ _ _)); (fail_if_success (with_reducible show wpAny _ _ (exec (Stmt.For _ _ _ _ _) _) _ _ _)))); ((first | walk1 | (dsimp only; walk1)))) | (first | ((with_reducible show Frag.In _ _ ∧ _); refine ⟨by k_in, ?_⟩; try dsimp only [List.nil_append, List.cons_append]) | ((with_reducible show KswPost _ _ _ _ _ _ _ _ _ _ _ _ _ _); dsimp only [KswPost]))))
    refine for_end ((lo + (c.toNat : Int)).fmod 65521, (hi + (lo + (c.toNat : Int)).fmod 65521).fmod 65521, _, _) (by k_asm) (by k_asm) (fun p hp => List.mem_append_left _ hp) (fun p hp => List.mem_append_right _ hp) (by (((repeat' (first | exact List.forall_mem_nil _ | refine List.forall_mem_cons.mpr ⟨rfl, ?_⟩))))) (by ((intro z h2 h3; simp only [List.forall_mem_cons, List.not_mem_nil, false_implies, implies_true, and_true, ne_eq] at h2; simp only [List.contains_cons, List.contains_nil, Bool.or_false, Bool.or_eq_false_iff, beq_eq_false_iff_ne, ne_eq] at h3; simp [h2, h3, kstB]))) ?_
    dsimp only
    rw [List.take_add_one, hk, Option.toList_some, List.foldl_append, ← hJ]
    simp only [List.foldl_cons, List.foldl_nil, adS]
    rw [Int.fmod_eq_emod_of_nonneg _ (by decide), Int.fmod_eq_emod_of_nonneg _ (by decide)]
  · refine all4 (fun lo hi t1 t2 => ?_)
    intro u h tk hJ F3 N3
    dsimp only at hJ F3 N3 ⊢
    clear F1 N1 F2 N2
    (repeat' (first | ((((fail_if_success k_end); (fail_if_success (with_reducible show wpAny _ _ (exec (Stmt.While _ _ _ _) _) _ _ _)); (fail_if_success (with_reducible show wpAny _ _ (exec (Stmt.For _ _ _ _ _) _) _ _ _)))); ((first | walk1 | (dsimp only; walk1)))) | (first | ((with_reducible show Frag.In _ _ ∧ _); refine ⟨by k_in, ?_⟩; try dsimp only [List.nil_append, List.cons_append]) | ((with_reducible show KswPost _ _ _ _ _ _ _ _ _ _ _ _ _ _); dsimp only [KswPost]))))
    have hsz : b.size = ks.length := by rw [← hks, KBw.ints_length]
    rw [hsz, List.take_length] at hJ
    have hz : hi * 65536 + lo = ad ks := by unfold ad adP; rw [← hJ]
    exact okc _ [] _ _ _ F3 N3 (fun _ h => nomatch h) ⟨rfl, _, congrArg (fun z => Value.int z _) hz⟩

/-- the four octets of a sum, the high one first -/
def su (n : Nat) : List Int := [((n / 16777216 % 256 : Nat) : Int), ((n / 65536 % 256 : Nat) : Int), ((n / 256 % 256 : Nat) : Int), ((n % 256 : Nat) : Int)]
theorem bit255 (m : Nat) : Builtin.bitAnd (m : Int) 255 = ((m % 256 : Nat) : Int) := by
  have : m &&& 255 = m % 256 := Nat.and_two_pow_sub_one_eq_mod m 8
  show ((m &&& 255 : Nat) : Int) = _
  rw [this]
theorem con_sum_octets (prog : Program) (w : World) (n : Nat) (hn : n < 4294967296) (tn : Tok) (led : Led) :
    Con prog w 157 [.int (n : Int) tn] 2 led (fun tl r => tl = [] ∧ ∃ t, r = .bytes (byteArr (su n)) t) False := by
  intro dp un gd env outer frs h₀ L m s p loose mean mg mb R C ok er
  have X := C.X
  have T := C.T
  have hd := C.hd
  have hu := C.hu
  (k_dflt (refine' enter ?kC ?kO ?kR ?k6 ?k7 ?k9 ?kB ?kn ?c2 ?c3 ?c4 ?c5 ?_; (case kC => assumption); (case kO => assumption); (case kR => assumption); (case k6 => k_is); (case k7 => k_is); (case k9 => first | exact BindsTo.of_eq rfl | fail "defaults"); (case c5 => decide); (case kB => exact locs rfl); (case kn => first | decide | omega); (case c2 => exact rfl); (case c3 => exact rfl); (case c4 => exact rfl); k_whole))
  intro L' h₁ tk₁ led' frs' Qc Ec F N Ls Fs Fi Lt okc erc hE era
  (repeat' (first | ((((fail_if_success k_end); (fail_if_success (with_reducible show wpAny _ _ (exec (Stmt.While _ _ _ _) _) _ _ _)); (fail_if_success (with_reducible show wpAny _ _ (exec (Stmt.For _ _ _ _ _) _) _ _ _)))); ((first | walk1 | (dsimp only; walk1)))) | (first | ((with_reducible show Frag.In _ _ ∧ _); refine ⟨by k_in, ?_⟩; try dsimp only [List.nil_append, List.cons_append]) | ((with_reducible show KswPost _ _ _ _ _ _ _ _ _ _ _ _ _ _); dsimp only [KswPost]))))
  rename News _ _ _ _ => N1
  rename Fr _ _ _ _ => F1
  have e1 : Builtin.bitAnd ((n : Int).fdiv (2 ^ Int.toNat 24)) 255 = ((n / 16777216 % 256 : Nat) : Int) := by
    rw [show ((n : Int).fdiv (2 ^ Int.toNat 24)) = ((n / 16777216 : Nat) : Int) by rw [Int.fdiv_eq_ediv_of_nonneg _ (by decide)]; rfl]; exact bit255 _
  have e2 : Builtin.bitAnd ((n : Int).fdiv (2 ^ Int.toNat 16)) 255 = ((n / 65536 % 256 : Nat) : Int) := by
    rw [show ((n : Int).fdiv (2 ^ Int.toNat 16)) = ((n / 65536 : Nat) : Int) by rw [Int.fdiv_eq_ediv_of_nonneg _ (by decide)]; rfl]; exact bit255 _
  have e3 : Builtin.bitAnd ((n : Int).fdiv (2 ^ Int.toNat 8)) 255 = ((n / 256 % 256 : Nat) : Int) := by
    rw [show ((n : Int).fdiv (2 ^ Int.toNat 8)) = ((n / 256 : Nat) : Int) by rw [Int.fdiv_eq_ediv_of_nonneg _ (by decide)]; rfl]; exact bit255 _
  have e4 : Builtin.bitAnd (n : Int) 255 = ((n % 256 : Nat) : Int) := bit255 n
  rw [e1, e2, e3, e4] at N1
  refine call_bytes_ints (ns := su n) (News.isList N1 (.head _)) (.cons _ _ (.cons _ _ (.cons _ _ (.cons _ _ .nil)))) (fun k hk => ?_) (by show 4 ≤ sizeLine; decide) rfl fun h' t k hk => ?_
  · simp only [su, List.mem_cons, List.not_mem_nil, or_false] at hk
    (clear e4; lia)
  · exact okc _ [] _ _ _ (Fr.ext F1 hk) (News.ext (fun p hp => N1 p (.tail _ hp)) hk) (fun _ h => nomatch h) ⟨rfl, _, rfl⟩

end

section
theorem adP_lt (ks : List Int) : 0 ≤ (adP ks).1 ∧ (adP ks).1 < 65521 ∧ 0 ≤ (adP ks).2 ∧ (adP ks).2 < 65521 := by
  have : ∀ (l : List Int) (c : Int × Int), (0 ≤ c.1 ∧ c.1 < 65521 ∧ 0 ≤ c.2 ∧ c.2 < 65521) → (0 ≤ (l.foldl adS c).1 ∧ (l.foldl adS c).1 < 65521 ∧ 0 ≤ (l.foldl adS c).2 ∧ (l.foldl adS c).2 < 65521) := by
    intro l
    induction l with
    | nil => intro c h; exact h
    | cons k l ih =>
      intro c h
      rw [List.foldl_cons]
      refine ih _ ?_
      unfold adS
      dsimp only
      omega
  exact this ks (1, 0) (by decide)
theorem ad_nat (ks : List Int) : ∃ n : Nat, ad ks = n ∧ n < 4294967296 := by
  have := adP_lt ks
  refine ⟨(ad ks).toNat, ?_, ?_⟩ <;> unfold ad <;> (first | lia | omega)
/-- the octets of a row in its frame -/
def fr (d : Dat) : List Int := co (vo d).length ++ (su (ad (vo d)).toNat ++ vo d)

theorem con_row_octets (prog : Program) (w : World) (d : Dat) (v : Value) (led : Led) (hdv : DV led d v) (hr : isRow d = true) (hfit : fit d) (hlen : (vo d).length ≤ 9000) (hnd : nd d ≤ 28) :
    ConS prog w 136 [v] (1 + nd d) led (fun tl r => tl = [] ∧ ∃ t, r = .bytes (byteArr (vo d)) t) := by
  have hn8 := nd_ge d
  have hds : ∀ ds, d = .row ds → ds.length ≤ 10000 := fun ds e => by subst e; rw [fit] at hfit; (exact leb hfit.1 rfl)
  intro dp un gd env outer frs h₀ L m s p loose mean mg mb R C ok
  have X := C.X
  have T := C.T
  have hd := C.hd
  have hu := C.hu
  (k_dflt (refine' enterS ?kC ?kO ?k6 ?k7 ?k9 ?kB ?kn ?c2 ?c3 ?c4 ?c5 ?_; (case kC => assumption); (case kO => assumption); (case k6 => k_is); (case k7 => k_is); (case k9 => first | exact BindsTo.of_eq rfl | fail "defaults"); (case c5 => decide); (case kB => exact locs rfl); (case kn => first | decide | omega); (case c2 => exact rfl); (case c3 => exact rfl); (case c4 => exact rfl); k_whole))
  intro L' h₁ tk₁ led' frs' Qc F N Ls Fs Fi Lt okc
  refine wpC_execs_cons (wpC_If (wpC_of_any ?_))
  (repeat' (first | ((((fail_if_success k_end); (fail_if_success (with_reducible show wpAny _ _ (exec (Stmt.While _ _ _ _) _) _ _ _)); (fail_if_success (with_reducible show wpAny _ _ (exec (Stmt.For _ _ _ _ _) _) _ _ _)))); ((first | walk1 | (dsimp only; walk1)))) | (first | ((with_reducible show Frag.In _ _ ∧ _); refine ⟨by k_in, ?_⟩; try dsimp only [List.nil_append, List.cons_append]) | ((with_reducible show KswPost _ _ _ _ _ _ _ _ _ _ _ _ _ _); dsimp only [KswPost]))))
  have hdv' := DV.mono Ls hdv
  refine Con.use (con_is_row prog w d v _ hdv' hds) F N X T Fs Fi rfl rfl (by (clear hnd; lia)) (by (clear hnd; lia)) (fun r tl h' tk' F1 N1 _ hr' => ?_) (fun x => x.elim)
  obtain ⟨rfl, rfl⟩ := hr'
  rw [hr]
  clear F N
  try dsimp only [List.nil_append] at F1 N1 ⊢
  (repeat' (first | ((((fail_if_success k_end); (fail_if_success (with_reducible show wpAny _ _ (exec (Stmt.While _ _ _ _) _) _ _ _)); (fail_if_success (with_reducible show wpAny _ _ (exec (Stmt.For _ _ _ _ _) _) _ _ _)))); ((first | walk1 | (dsimp only; walk1)))) | (first | ((with_reducible show Frag.In _ _ ∧ _); refine ⟨by k_in, ?_⟩; try dsimp only [List.nil_append, List.cons_append]) | ((with_reducible show KswPost _ _ _ _ _ _ _ _ _ _ _ _ _ _); dsimp only [KswPost]))))
  try simp only [Bool.not_true, Bool.false_eq_true, if_false]
  refine wpC_execs_nil ?_
  dsimp only
  refine wpC_execs_cons (wpC_Return ?_)
  ((refine wpC_Call ?_; (repeat' (first | ((((fail_if_success k_end); (fail_if_success (with_reducible show wpAny _ _ (exec (Stmt.While _ _ _ _) _) _ _ _)); (fail_if_success (with_reducible show wpAny _ _ (exec (Stmt.For _ _ _ _ _) _) _ _ _)))); ((first | walk1 | (dsimp only; walk1)))) | (first | ((with_reducible show Frag.In _ _ ∧ _); refine ⟨by k_in, ?_⟩; try dsimp only [List.nil_append, List.cons_append]) | ((with_reducible show KswPost _ _ _ _ _ _ _ _ _ _ _ _ _ _); dsimp only [KswPost])))); ((k_dflt (refine' wpC_callWith_K ?kX ?kI ?_; (case kX => assumption); (case kI => k_is); k_whole))); refine wpC_of_any ?_; (repeat' (first | ((((fail_if_success k_end); (fail_if_success (with_reducible show wpAny _ _ (exec (Stmt.While _ _ _ _) _) _ _ _)); (fail_if_success (with_reducible show wpAny _ _ (exec (Stmt.For _ _ _ _ _) _) _ _ _)))); ((first | walk1 | (dsimp only; walk1)))) | (first | ((with_reducible show Frag.In _ _ ∧ _); refine ⟨by k_in, ?_⟩; try dsimp only [List.nil_append, List.cons_append]) | ((with_reducible show KswPost _ _ _ _ _ _ _ _ _ _ _ _ _ _); dsimp only [KswPost]))))))
  refine ConS.useV (con_value_octets prog w (sizeOf d) d (Nat.le_refl _) hfit hlen 1 (by (clear hn8; lia)) v _ _ hdv') F1 N1 X T Fs Fi rfl rfl (by lia) (by lia) (fun t h' tk' F2 N2 => ?_)
  exact okc _ [] _ _ _ F2 N2 (fun _ h => nomatch h) ⟨rfl, t, rfl⟩

theorem con_framed (prog : Program) (w : World) (d : Dat) (v : Value) (led : Led) (hdv : DV led d v) (hr : isRow d = true) (hfit : fit d) (hlen : (vo d).length ≤ 9000) (hnd : nd d ≤ 28) :
    ConS prog w 164 [v] (2 + nd d) led (fun tl r => tl = [] ∧ ∃ t, r = .bytes (byteArr (fr d)) t) := by
  have hn8 := nd_ge d
  intro dp un gd env outer frs h₀ L m s p loose mean mg mb R C ok
  have X := C.X
  have T := C.T
  have hd := C.hd
  have hu := C.hu
  (k_dflt (refine' enterS ?kC ?kO ?k6 ?k7 ?k9 ?kB ?kn ?c2 ?c3 ?c4 ?c5 ?_; (case kC => assumption); (case kO => assumption); (case k6 => k_is); (case k7 => k_is); (case k9 => first | exact BindsTo.of_eq rfl | fail "defaults"); (case c5 => decide); (case kB => exact locs rfl); (case kn => first | decide | omega); (case c2 => exact rfl); (case c3 => exact rfl); (case c4 => exact rfl); k_whole))
  intro L' h₁ tk₁ led' frs' Qc F N Ls Fs Fi Lt okc
  have hdv' := DV.mono Ls hdv
  refine wpC_execs_cons (wpC_Assign ?_)
  ((refine wpC_Call ?_; (repeat' (first | ((((fail_if_success k_end); (fail_if_success (with_reducible show wpAny _ _ (exec (Stmt.While _ _ _ _) _) _ _ _)); (fail_if_success (with_reducible show wpAny _ _ (exec (Stmt.For _ _ _ _ _) _) _ _ _)))); ((first | walk1 | (dsimp only; walk1)))) | (first | ((with_reducible show Frag.In _ _ ∧ _); refine ⟨by k_in, ?_⟩; try dsimp only [List.nil_append, List.cons_append]) | ((with_reducible show KswPost _ _ _ _ _ _ _ _ _ _ _ _ _ _); dsimp only [KswPost])))); ((k_dflt (refine' wpC_callWith_K ?kX ?kI ?_; (case kX => assumption); (case kI => k_is); k_whole))); refine wpC_of_any ?_; (repeat' (first | ((((fail_if_success k_end); (fail_if_success (with_reducible show wpAny _ _ (exec (Stmt.While _ _ _ _) _) _ _ _)); (fail_if_success (with_reducible show wpAny _ _ (exec (Stmt.For _ _ _ _ _) _) _ _ _)))); ((first | walk1 | (dsimp only; walk1)))) | (first | ((with_reducible show Frag.In _ _ ∧ _); refine ⟨by k_in, ?_⟩; try dsimp only [List.nil_append, List.cons_append]) | ((with_reducible show KswPost _ _ _ _ _ _ _ _ _ _ _ _ _ _); dsimp only [KswPost]))))))
  refine ConS.useV (con_row_octets prog w d v _ hdv' hr hfit hlen hnd) F N X T Fs Fi rfl rfl (by lia) (by lia) (fun t h' tk' F1 N1 => ?_)
  clear F N
  try dsimp only [List.nil_append] at F1 N1 ⊢
  have hks := bInts_byteArr (vo_in d hfit)
  (repeat' (first | ((((fail_if_success k_end); (fail_if_success (with_reducible show wpAny _ _ (exec (Stmt.While _ _ _ _) _) _ _ _)); (fail_if_success (with_reducible show wpAny _ _ (exec (Stmt.For _ _ _ _ _) _) _ _ _)))); ((first | walk1 | (dsimp only; walk1)))) | (first | ((with_reducible show Frag.In _ _ ∧ _); refine ⟨by k_in, ?_⟩; try dsimp only [List.nil_append, List.cons_append]) | ((with_reducible show KswPost _ _ _ _ _ _ _ _ _ _ _ _ _ _); dsimp only [KswPost]))))
  dsimp only
  rename Fr _ _ _ _ => F1
  rename News _ _ _ _ => N1
  refine wpC_execs_cons (wpC_Return (wpC_BinOp (wpC_BinOp ?_)))
  ((refine wpC_Call ?_; (repeat' (first | ((((fail_if_success k_end); (fail_if_success (with_reducible show wpAny _ _ (exec (Stmt.While _ _ _ _) _) _ _ _)); (fail_if_success (with_reducible show wpAny _ _ (exec (Stmt.For _ _ _ _ _) _) _ _ _)))); ((first | walk1 | (dsimp only; walk1)))) | (first | ((with_reducible show Frag.In _ _ ∧ _); refine ⟨by k_in, ?_⟩; try dsimp only [List.nil_append, List.cons_append]) | ((with_reducible show KswPost _ _ _ _ _ _ _ _ _ _ _ _ _ _); dsimp only [KswPost])))); ((k_dflt (refine' wpC_callWith_K ?kX ?kI ?_; (case kX => assumption); (case kI => k_is); k_whole))); refine wpC_of_any ?_; (repeat' (first | ((((fail_if_success k_end); (fail_if_success (with_reducible show wpAny _ _ (exec (Stmt.While _ _ _ _) _) _ _ _)); (fail_if_success (with_reducible show wpAny _ _ (exec (Stmt.For _ _ _ _ _) _) _ _ _)))); ((first | walk1 | (dsimp only; walk1)))) | (first | ((with_reducible show Frag.In _ _ ∧ _); refine ⟨by k_in, ?_⟩; try dsimp only [List.nil_append, List.cons_append]) | ((with_reducible show KswPost _ _ _ _ _ _ _ _ _ _ _ _ _ _); dsimp only [KswPost]))))))
  have hcl := co_len (vo d).length
  obtain ⟨n, hn, hn2⟩ := ad_nat (vo d)
  refine ConS.useV (con_count_octets prog w (vo d).length (by (exact leb hlen rfl)) _ _) F1 N1 X T Fs Fi rfl rfl (by (clear hnd; lia)) (by (clear hnd; lia)) (fun t1 h' tk' F2 N2 => ?_)
  clear F1 N1
  try dsimp only [List.nil_append] at F2 N2 ⊢
  refine wpC_of_any ?_
  (repeat' (first | ((((fail_if_success k_end); (fail_if_success (with_reducible show wpAny _ _ (exec (Stmt.While _ _ _ _) _) _ _ _)); (fail_if_success (with_reducible show wpAny _ _ (exec (Stmt.For _ _ _ _ _) _) _ _ _)))); ((first | walk1 | (dsimp only; walk1)))) | (first | ((with_reducible show Frag.In _ _ ∧ _); refine ⟨by k_in, ?_⟩; try dsimp only [List.nil_append, List.cons_append]) | ((with_reducible show KswPost _ _ _ _ _ _ _ _ _ _ _ _ _ _); dsimp only [KswPost]))))
  refine Con.useV (con_adler prog w _ _ (vo d) hks _) F2 N2 X T Fs Fi rfl rfl (by (clear hnd; lia)) (by (clear hnd; lia)) (fun t2 h' tk' F3 N3 => ?_)
  clear F2 N2
  try dsimp only [List.nil_append] at F3 N3 ⊢
  (repeat' (first | ((((fail_if_success k_end); (fail_if_success (with_reducible show wpAny _ _ (exec (Stmt.While _ _ _ _) _) _ _ _)); (fail_if_success (with_reducible show wpAny _ _ (exec (Stmt.For _ _ _ _ _) _) _ _ _)))); ((first | walk1 | (dsimp only; walk1)))) | (first | ((with_reducible show Frag.In _ _ ∧ _); refine ⟨by k_in, ?_⟩; try dsimp only [List.nil_append, List.cons_append]) | ((with_reducible show KswPost _ _ _ _ _ _ _ _ _ _ _ _ _ _); dsimp only [KswPost]))))
  rw [hn]
  refine Con.useV (con_sum_octets prog w n hn2 t2 _) F3 N3 X T Fs Fi rfl rfl (by omega) (by omega) (fun t3 h' tk' F4 N4 => ?_)
  clear F3 N3
  try dsimp only [List.nil_append] at F4 N4 ⊢
  (repeat' (first | ((((fail_if_success k_end); (fail_if_success (with_reducible show wpAny _ _ (exec (Stmt.While _ _ _ _) _) _ _ _)); (fail_if_success (with_reducible show wpAny _ _ (exec (Stmt.For _ _ _ _ _) _) _ _ _)))); ((first | walk1 | (dsimp only; walk1)))) | (first | ((with_reducible show Frag.In _ _ ∧ _); refine ⟨by k_in, ?_⟩; try dsimp only [List.nil_append, List.cons_append]) | ((with_reducible show KswPost _ _ _ _ _ _ _ _ _ _ _ _ _ _); dsimp only [KswPost]))))
  refine wpC_of_any (KBy.add_bytes (by rw [byteArr_size, byteArr_size]; show _ + 4 ≤ _; lia) fun t4 k4 => ?_)
  refine wpC_of_any ?_
  (repeat' (first | ((((fail_if_success k_end); (fail_if_success (with_reducible show wpAny _ _ (exec (Stmt.While _ _ _ _) _) _ _ _)); (fail_if_success (with_reducible show wpAny _ _ (exec (Stmt.For _ _ _ _ _) _) _ _ _)))); ((first | walk1 | (dsimp only; walk1)))) | (first | ((with_reducible show Frag.In _ _ ∧ _); refine ⟨by k_in, ?_⟩; try dsimp only [List.nil_append, List.cons_append]) | ((with_reducible show KswPost _ _ _ _ _ _ _ _ _ _ _ _ _ _); dsimp only [KswPost]))))
  refine wpC_of_any (KBy.add_bytes (by rw [Array.size_append, byteArr_size, byteArr_size, byteArr_size]; show _ + 4 + _ ≤ _; lia) fun t5 k5 => ?_)
  refine okc _ [] _ _ _ F4 N4 (fun _ h => nomatch h) ⟨rfl, t5, ?_⟩
  unfold fr
  rw [byteArr_append, byteArr_append, ← Array.append_assoc, hn]
  rfl

end

section
inductive StrsOf : List Value → List Nat → Prop
  | nil : StrsOf [] []
  | snoc {ys : List Value} {cs : List Nat} {c : Nat} {t : Tok} : StrsOf ys cs → StrsOf (ys ++ [.str ⟨#[c]⟩ t]) (cs ++ [c])
theorem StrsOf.len {ys : List Value} {cs : List Nat} (h : StrsOf ys cs) : ys.length = cs.length := by
  induction h with
  | nil => rfl
  | snoc _ ih => simp [ih]
theorem StrsOf.vals {ys : List Value} {cs : List Nat} (h : StrsOf ys cs) : ∃ l : List (PySem.Str × Tok), ys = strValues l ∧ l.map (·.1) = cs.map fun c => (⟨#[c]⟩ : PySem.Str) := by
  induction h with
  | nil => exact ⟨[], rfl, rfl⟩
  | @snoc ys cs c t _ ih =>
    obtain ⟨l, e1, e2⟩ := ih
    exact ⟨l ++ [(⟨#[c]⟩, t)], by simp [strValues, e1], by simp [e2]⟩
theorem glued_nil (cs : List Nat) : Builtin.Str.glued (PySem.Str.ofString "") (cs.map fun c => (⟨#[c]⟩ : PySem.Str)) = ⟨cs.toArray⟩ := by
  have e0 : (PySem.Str.ofString "").cps = #[] := rfl
  have : ∀ (l : List Nat) (z : Array Nat), (l.map fun c => (⟨#[c]⟩ : PySem.Str)).foldl (fun acc p => acc ++ (PySem.Str.ofString "").cps ++ p.cps) z = z ++ l.toArray := by
    intro l
    induction l with
    | nil => intro z; simp
    | cons c l ih => intro z; rw [List.map_cons, List.foldl_cons, ih, e0]; simp
  unfold Builtin.Str.glued
  cases cs with
  | nil => rfl
  | cons c cs =>
    rw [List.map_cons, List.drop_one, List.tail_cons, List.headD_cons, this]
    simp
section
variable {prog : Program} {w : World} {A : Around} {E : Value → Shared → Prop} {s : Shared}
theorem join_strs {D : Addr} {ys : List Value} {cs : List Nat} {t0 : Tok} {Q : Value → Shared → Prop} (hl : s.heap.get? D = some (lst ys)) (hs : StrsOf ys cs) (hz : cs.length ≤ 20000)
    (h : ∀ t k, Q (.str ⟨cs.toArray⟩ t) { s with toks := k }) : wpAny (model prog w) A (call (.builtin "str.join") [.str (PySem.Str.ofString "") t0, .ref D]) Q E s := by
  obtain ⟨l, rfl, e2⟩ := hs.vals
  have hb : Builtin.Str.tooLong ((l.map (·.1)).toArray.foldl (· + ·.length + (PySem.Str.ofString "").length) 0) = false := by
    have e0 : (PySem.Str.ofString "").length = 0 := rfl
    have : ∀ (l : List Nat) (z : Nat), (l.map fun c => (⟨#[c]⟩ : PySem.Str)).foldl (fun a p => a + p.length + (PySem.Str.ofString "").length) z = z + l.length := by
      intro l
      induction l with
      | nil => intro z; rfl
      | cons c l ih =>
        intro z
        rw [List.map_cons, List.foldl_cons, ih, e0, List.length_cons]
        show z + 1 + 0 + l.length = _
        (exact Nat.succ_add _ _)
    rw [List.foldl_toArray', e2, this]
    exact decide_eq_false (by rw [sizeLine_eq]; lia)
    rfl
  refine call_meets F.slot_str_join (T := "str") rfl F.entry_str_join (F.args_str_join_2 _ _) (meets_str_join_list (PySem.Str.ofString "") t0 D l hb) ⟨⟨_, hl, rfl, _, rfl⟩, ?_⟩
  have big : (⟨cs.toArray⟩ : PySem.Str).length ≤ sizeLine := by
    show cs.toArray.size ≤ sizeLine
    rw [List.size_toArray, sizeLine_eq]; (exact leb hz rfl)
  have fin : Builtin.Str.glued (PySem.Str.ofString "") (l.map (·.1)) = ⟨cs.toArray⟩ := by rw [e2]; exact glued_nil cs
  rcases l with _ | ⟨p, _ | ⟨q, l⟩⟩
  · show (_ : PySem.Str).length ≤ sizeLine ∧ _
    rw [fin]; exact ⟨big, h _ _⟩
  · rcases cs with _ | ⟨c, _ | ⟨c2, cs⟩⟩
    · simp at e2
    · have e3 : p.1 = ⟨#[c]⟩ := by simpa using e2
      show Q (.str p.1 p.2) s
      rw [e3]
      exact h p.2 s.toks
    · simp at e2
  · show (_ : PySem.Str).length ≤ sizeLine ∧ _
    rw [fin]; exact ⟨big, h _ _⟩
end

end

section
/-- n texts' codes from the octet at on -/
def rt (ks : List Int) : Nat → Nat → List Nat → Option (List Nat × Nat)
  | 0, at_, acc => some (acc, at_)
  | n + 1, at_, acc => match rc (ks.drop at_) with
    | none => none
    | some (v, c) => if v > 1114111 then none else rt ks n (at_ + c) (acc ++ [v.toNat])
def turns (many : Int) (len at_ : Nat) : Nat := (min many ((len : Int) - at_ + 1)).toNat
def rtext (ks : List Int) (at_ : Nat) (many : Int) : Option (List Nat × Nat) := rt ks (turns many ks.length at_) at_ []

theorem rcA_spec : ∀ (l : List Int) (num w : Int) (c : Nat) (v : Int) (n : Nat), (∀ k ∈ l, 0 ≤ k ∧ k < 256) → 0 ≤ num → 0 ≤ w → rcA l num w c = some (v, n) → 0 ≤ v ∧ n ≤ c + l.length ∧ c < n
  | [], _, _, _, _, _, _, _, _, h => by simp [rcA] at h
  | k :: r, num, w, c, v, n, hl, h1, h2, h => by
    rw [rcA] at h
    have hk := hl k (.head _)
    split at h
    · have := rcA_spec r _ _ _ v n (fun k hk => hl k (.tail _ hk)) (by have : 0 ≤ (k - 128) * w := Int.mul_nonneg (by (clear hk; lia)) h2; (exact Int.add_nonneg h1 this)) (by lia) h
      rw [List.length_cons]; lia
    · split at h
      · cases h
      · cases h
        have : 0 ≤ k * w := Int.mul_nonneg hk.1 h2
        rw [List.length_cons]; lia
theorem rc_spec {ks : List Int} (hin : ∀ k ∈ ks, 0 ≤ k ∧ k < 256) {a : Nat} {v : Int} {n : Nat} (h : rc (ks.drop a) = some (v, n)) : 0 ≤ v ∧ a + n ≤ ks.length ∧ 0 < n := by
  have := rcA_spec _ _ _ _ _ _ (fun k hk => hin k (List.mem_of_mem_drop hk)) (by decide) (by decide) h
  rw [List.length_drop] at this
  omega
theorem News.drop2 {h₀ h : Heap} {L : Addr} {a b : Addr × Obj} {led : Led} (N : News h₀ L h (a :: b :: led)) : News h₀ L h ([a] ++ led) := fun p hp => N p (by
  rcases List.mem_cons.mp hp with rfl | hp
  · exact .head _
  · exact .tail _ (.tail _ hp))
theorem con_read_text (prog : Program) (w : World) (b : Array UInt8) (tb : Tok) (ks : List Int) (hks : KBw.bInts b = ks) (hlen : ks.length ≤ 10000) (a : Nat) (ha : a ≤ ks.length) (ta : Tok) (many : Int) (hmany : 0 ≤ many) (tm : Tok) (led : Led) :
    Con prog w 108 [.bytes b tb, .int (a : Int) ta, .int many tm] 6 led
      (fun tl r => ∃ cs e l t1 t2, rtext ks a many = some (cs, e) ∧ e ≤ ks.length ∧ r = .ref l ∧ (l, ({ cls := .type "tuple", data := .seq #[.str ⟨cs.toArray⟩ t1, .int (e : Int) t2] 0 } : Obj)) ∈ tl)
      (rtext ks a many = none) := by
  intro dp un gd env outer frs h₀ L m s p loose mean mg mb R C ok er
  have X := C.X
  have T := C.T
  have hd := C.hd
  have hu := C.hu
  (k_dflt (refine' enter ?kC ?kO ?kR ?k6 ?k7 ?k9 ?kB ?kn ?c2 ?c3 ?c4 ?c5 ?_; (case kC => assumption); (case kO => assumption); (case kR => assumption); (case k6 => k_is); (case k7 => k_is); (case k9 => first | exact BindsTo.of_eq rfl | fail "defaults"); (case c5 => decide); (case kB => exact locs rfl); (case kn => first | decide | omega); (case c2 => exact rfl); (case c3 => exact rfl); (case c4 => exact rfl); k_whole))
  intro L' h₁ tk₁ led' frs' Qc Ec F N Ls Fs Fi Lt okc erc hE era
  have era := eraL era
  have hin : ∀ k ∈ ks, 0 ≤ k ∧ k < 256 := hks ▸ fun k hk => KBw.ints_in hk
  (repeat' (first | ((((fail_if_success k_end); (fail_if_success (with_reducible show wpAny _ _ (exec (Stmt.While _ _ _ _) _) _ _ _)); (fail_if_success (with_reducible show wpAny _ _ (exec (Stmt.For _ _ _ _ _) _) _ _ _)))); ((first | walk1 | (dsimp only; walk1)))) | (first | ((with_reducible show Frag.In _ _ ∧ _); refine ⟨by k_in, ?_⟩; try dsimp only [List.nil_append, List.cons_append]) | ((with_reducible show KswPost _ _ _ _ _ _ _ _ _ _ _ _ _ _); dsimp only [KswPost]))))
  rename_i D _ l1 _ _ F1 N1
  refine wpAny_For ?_
  (repeat' (first | ((((fail_if_success k_end); (fail_if_success (with_reducible show wpAny _ _ (exec (Stmt.While _ _ _ _) _) _ _ _)); (fail_if_success (with_reducible show wpAny _ _ (exec (Stmt.For _ _ _ _ _) _) _ _ _)))); (fail_if_success (with_reducible show wpAny _ _ (pyIter _) _ _ _)); ((first | walk1 | (dsimp only; walk1)))) | (first | ((with_reducible show Frag.In _ _ ∧ _); refine ⟨by k_in, ?_⟩; try dsimp only [List.nil_append, List.cons_append]) | ((with_reducible show KswPost _ _ _ _ _ _ _ _ _ _ _ _ _ _); dsimp only [KswPost]))))
  rename IsRange _ _ _ _ _ _ _ _ => HR
  rename Fr _ _ _ _ => F2
  rename News _ _ _ _ => N2
  generalize hnt : turns many ks.length a = nt
  have hn : (if ((ks.length : Int) - a + 1) < many then ((ks.length : Int) - a + 1) else many) = (nt : Int) := by
    rw [← hnt]; unfold turns; split <;> (first | lia | omega)
  have hntl : nt ≤ ks.length + 1 := by rw [← hnt]; unfold turns; omega
  have hrt : rtext ks a many = rt ks nt a [] := by unfold rtext; rw [hnt]
  rw [hn] at HR
  have hrs : Builtin.Range.rangeSize 0 (nt : Int) 1 = (nt : Int) := by
    unfold Builtin.Range.rangeSize
    rw [if_pos (by decide)]
    split
    · rw [Int.ediv_one]; (simp +arith)
    · (clear hnt; lia)
  refine wpAny_pyIter_range HR (small_one (by (exact n0 _)) (by (exact n0 _)) (by (exact n0 _)) (by (clear hn hrs; lia))) ?_
  rw [hrs]
  have F3 := F2.push { cls := .type "range_iterator", data := .fields #[rawInt 0, rawInt (nt : Int), rawInt 1] }
  have N2 : News h₀ L' _ ((D, lst []) :: led') := N2
  have N3 := News.ext N2 (h' := _) fun b' ob e => Heap.get?_push_of_some { cls := .type "range_iterator", data := .fields #[rawInt 0, rawInt (nt : Int), rawInt 1] } e
  have lt3 : ∀ p ∈ (_ : Led), p.1 < _ := fun p hp => Heap.lt_size (N2 p hp).1
  have hI0 : h₀.get? _ = none := next_is_new F2
  have hLI := F2.ns.lt
  refine codeA_for (σ := Nat × List Nat × List Value × Tok) (LCg.range_walks rfl 0 nt) (fun i c => c.1 ≤ ks.length ∧ rtext ks a many = rt ks (nt - i) c.1 c.2.1 ∧ StrsOf c.2.2.1 c.2.1 ∧ c.2.1.length = i)
    (fun c => (D, lst c.2.2.1) :: led') (fun c => [("spot", .int (c.1 : Int) c.2.2.2)]) ["place", "code", "behind"] ((a, [], [], _) : Nat × List Nat × List Value × Tok) hE
    rfl rfl rfl (fun q => Nat.ne_of_lt hLI (List.mem_singleton.mp q)) (fun b hb => by rw [List.mem_singleton.mp hb]; exact hI0) (fun i c _ p hp q => ?_)
    (by show IsRangeIter _ _ _ _ _; simpa using Heap.get?_push_size _ rfl) F3 N3 (by (((repeat' (first | exact List.forall_mem_nil _ | refine List.forall_mem_cons.mpr ⟨rfl, ?_⟩))))) ⟨ha, by rw [hrt]; rfl, .nil, rfl⟩ ?_ ?_
  · rcases List.mem_cons.mp hp with rfl | hp
    · exact Nat.ne_of_lt (lt3 _ (.head _)) (List.mem_singleton.mp q)
    · exact Nat.ne_of_lt (lt3 _ (.tail _ hp)) (List.mem_singleton.mp q)
  · intro i
    refine all4 (fun spot acc ys t1 => ?_)
    intro v u h tk own hlt q8 q9 hown hst hown2 F4 N4
    have hsp := q9.1
    have hrc := q9.2.1
    have hys := q9.2.2.1
    have hal := q9.2.2.2
    clear q9
    obtain ⟨tv, rfl⟩ := q8
    dsimp only at hsp hrc hys hal F4 N4 ⊢
    clear F1 F2 N2 F3 N3
    have ne3 : ∀ p ∈ own ++ led', p.1 ≠ D := fun p hp => by
      rcases List.mem_append.mp hp with hp | hp
      · rw [List.mem_singleton.mp (hown p hp)]
        exact Nat.ne_of_gt (lt3 _ (.head _))
      · exact Nat.ne_of_lt (l1 p hp)
    have N5 : News h₀ L' h ((D, lst ys) :: (own ++ led')) := fun p hp => N4 p (by
      rcases List.mem_cons.mp hp with rfl | hp
      · exact List.mem_append_right _ (.head _)
      · rcases List.mem_append.mp hp with hp | hp
        · exact List.mem_append_left _ hp
        · exact List.mem_append_right _ (.tail _ hp))
    clear N4
    (repeat' (first | ((((fail_if_success k_end); (fail_if_success (with_reducible show wpAny _ _ (exec (Stmt.While _ _ _ _) _) _ _ _)); (fail_if_success (with_reducible show wpAny _ _ (exec (Stmt.For _ _ _ _ _) _) _ _ _)))); ((first | walk1 | (dsimp only; walk1)))) | (first | ((with_reducible show Frag.In _ _ ∧ _); refine ⟨by k_in, ?_⟩; try dsimp only [List.nil_append, List.cons_append]) | ((with_reducible show KswPost _ _ _ _ _ _ _ _ _ _ _ _ _ _); dsimp only [KswPost]))))
    obtain ⟨k, hk⟩ : ∃ k, nt - i = k + 1 := ⟨nt - i - 1, by (clear hn hrs hal; lia)⟩
    rw [hk, rt] at hrc
    have Fi' : ∀ p ∈ frs', p ∈ ((D, lst ys) :: (own ++ led') : Led) := fun p hp => .tail _ (List.mem_append_right _ (Fi p hp))
    refine Con.use (con_read_count prog w b tb ks hks hlen spot hsp t1 _) F4 N5 X T Fs Fi' rfl rfl (by (exact Nat.le_of_lt hd)) (by (exact ltu hu rfl)) (fun r tl h' tk' F5 N6 nd hr => ?_) (fun hx e h' tk' ht _ hfr => ?_)
    · refine hold (fun Ph hPh => ?_)
      obtain ⟨v, n, l, t3, t4, hrv, rfl, hl⟩ := hr
      refine hPh ?_
      clear hPh
      have hs := rc_spec hin hrv
      rw [hrv] at hrc
      dsimp only at hrc F5 N6 ⊢
      have N7 : News h₀ L' h' ((l, ({ cls := .type "tuple", data := .seq #[.int v t3, .int ((spot : Int) + (n : Int)) t4] 0 } : Obj)) :: (D, lst ys) :: (own ++ led')) := fun p hp => N6 p (by
        rcases List.mem_cons.mp hp with rfl | hp
        · exact List.mem_append_left _ hl
        · exact List.mem_append_right _ hp)
      clear N6 N5 F4
      (repeat' (first | ((((fail_if_success k_end); (fail_if_success (with_reducible show wpAny _ _ (exec (Stmt.While _ _ _ _) _) _ _ _)); (fail_if_success (with_reducible show wpAny _ _ (exec (Stmt.For _ _ _ _ _) _) _ _ _)))); ((first | walk1 | (dsimp only; walk1)))) | (first | ((with_reducible show Frag.In _ _ ∧ _); refine ⟨by k_in, ?_⟩; try dsimp only [List.nil_append, List.cons_append]) | ((with_reducible show KswPost _ _ _ _ _ _ _ _ _ _ _ _ _ _); dsimp only [KswPost]))))
      · rw [if_pos (by assumption)] at hrc
        rename News _ _ _ _ => N8
        exact era hrc (by assumption) (by assumption) (by assumption) (by k_asm) (fun p hp => N8 p (.tail _ (.tail _ (List.mem_append_right _ hp))))
      · rw [if_neg (by omega)] at hrc
        rename Fr _ _ _ _ => F8
        rename News _ _ _ _ => N8
        refine append_head (rest := own ++ led') F8 (fun p hp => N8 p (.tail _ hp)) ne3 (fun h9 F9 N9 => ?_) (by rw [List.size_toArray, hys.len, sizeLine_eq]; (clear hn hrs; lia))
        dsimp only at F9 N9 ⊢
        clear F8 N8
        obtain ⟨tz, N9⟩ : ∃ tz, News h₀ L' h9 ((D, lst (ys ++ [.str ⟨#[v.toNat]⟩ tz])) :: (own ++ led')) := ⟨_, by rw [← lst_snoc]; exact N9⟩
        (repeat' (first | ((((fail_if_success k_end); (fail_if_success (with_reducible show wpAny _ _ (exec (Stmt.While _ _ _ _) _) _ _ _)); (fail_if_success (with_reducible show wpAny _ _ (exec (Stmt.For _ _ _ _ _) _) _ _ _)))); ((first | walk1 | (dsimp only; walk1)))) | (first | ((with_reducible show Frag.In _ _ ∧ _); refine ⟨by k_in, ?_⟩; try dsimp only [List.nil_append, List.cons_append]) | ((with_reducible show KswPost _ _ _ _ _ _ _ _ _ _ _ _ _ _); dsimp only [KswPost]))))
        refine for_end (spot + n, acc ++ [v.toNat], ys ++ [.str ⟨#[v.toNat]⟩ tz], _) (by k_asm) (by k_asm) (fun p hp => .tail _ (List.mem_append_left _ hp)) (fun p hp => ?_) (by (((repeat' (first | exact List.forall_mem_nil _ | refine List.forall_mem_cons.mpr ⟨rfl, ?_⟩))))) (by ((intro z h2 h3; simp only [List.forall_mem_cons, List.not_mem_nil, false_implies, implies_true, and_true, ne_eq] at h2; simp only [List.contains_cons, List.contains_nil, Bool.or_false, Bool.or_eq_false_iff, beq_eq_false_iff_ne, ne_eq] at h3; simp [h2, h3, kstB]))) ⟨by (exact hs.2.1), ?_, .snoc hys, by simp [hal]⟩
        · rcases List.mem_cons.mp hp with rfl | hp
          · exact .head _
          · exact .tail _ (List.mem_append_right _ hp)
        · show rtext ks a many = rt ks (nt - (i + 1)) (spot + n) (acc ++ [v.toNat])
          rw [hrc, show nt - (i + 1) = k by (clear hn hrs hlt; omega)]
    · rw [hx] at hrc
      exact erc hrc e h' tk' (ht.sub fun p hp => .tail _ (List.mem_append_right _ hp)) hfr
  · refine all4 (fun spot acc ys t1 => ?_)
    intro u h tk q4 F4 N4
    have hsp := q4.1
    have hrc := q4.2.1
    have hys := q4.2.2.1
    have hal := q4.2.2.2
    clear q4
    dsimp only at hsp hrc hys hal F4 N4 ⊢
    clear F1 F2 N2 F3 N3
    (repeat' (first | ((((fail_if_success k_end); (fail_if_success (with_reducible show wpAny _ _ (exec (Stmt.While _ _ _ _) _) _ _ _)); (fail_if_success (with_reducible show wpAny _ _ (exec (Stmt.For _ _ _ _ _) _) _ _ _)))); ((first | walk1 | (dsimp only; walk1)))) | (first | ((with_reducible show Frag.In _ _ ∧ _); refine ⟨by k_in, ?_⟩; try dsimp only [List.nil_append, List.cons_append]) | ((with_reducible show KswPost _ _ _ _ _ _ _ _ _ _ _ _ _ _); dsimp only [KswPost]))))
    refine join_strs (N4 _ (.head _)).1 hys (by (clear hn hrs; lia)) fun t5 k5 => ?_
    (repeat' (first | ((((fail_if_success k_end); (fail_if_success (with_reducible show wpAny _ _ (exec (Stmt.While _ _ _ _) _) _ _ _)); (fail_if_success (with_reducible show wpAny _ _ (exec (Stmt.For _ _ _ _ _) _) _ _ _)))); ((first | walk1 | (dsimp only; walk1)))) | (first | ((with_reducible show Frag.In _ _ ∧ _); refine ⟨by k_in, ?_⟩; try dsimp only [List.nil_append, List.cons_append]) | ((with_reducible show KswPost _ _ _ _ _ _ _ _ _ _ _ _ _ _); dsimp only [KswPost]))))
    rw [Nat.sub_self, rt] at hrc
    rename News _ _ _ _ => N8
    exact okc _ [_] _ _ _ (by k_asm) (News.drop2 N8) (fun q hq => by rw [List.mem_singleton.mp hq]; exact ⟨rfl, rfl⟩) ⟨acc, spot, _, _, _, hrc, hsp, rfl, List.mem_singleton.mpr rfl⟩

end

section
def pn (c : Int) : Int := if c % 2 = 0 then c / 2 else (-(c + 1)) / 2
theorem con_plain_number (prog : Program) (w : World) (n : Int) (hn : 0 ≤ n) (t : Tok) (led : Led) :
    Con prog w 89 [.int n t] 1 led (fun tl r => tl = [] ∧ ∃ t', r = .int (pn n) t') False := by
  intro dp un gd env outer frs h₀ L m s p loose mean mg mb R C ok er
  have X := C.X
  have T := C.T
  have hd := C.hd
  have hu := C.hu
  (k_dflt (refine' enter ?kC ?kO ?kR ?k6 ?k7 ?k9 ?kB ?kn ?c2 ?c3 ?c4 ?c5 ?_; (case kC => assumption); (case kO => assumption); (case kR => assumption); (case k6 => k_is); (case k7 => k_is); (case k9 => first | exact BindsTo.of_eq rfl | fail "defaults"); (case c5 => decide); (case kB => exact locs rfl); (case kn => first | decide | omega); (case c2 => exact rfl); (case c3 => exact rfl); (case c4 => exact rfl); k_whole))
  intro L' h₁ tk₁ led' frs' Qc Ec F N Ls Fs Fi Lt okc erc hE era
  (repeat' (first | ((((fail_if_success k_end); (fail_if_success (with_reducible show wpAny _ _ (exec (Stmt.While _ _ _ _) _) _ _ _)); (fail_if_success (with_reducible show wpAny _ _ (exec (Stmt.For _ _ _ _ _) _) _ _ _)))); ((first | walk1 | (dsimp only; walk1)))) | (first | ((with_reducible show Frag.In _ _ ∧ _); refine ⟨by k_in, ?_⟩; try dsimp only [List.nil_append, List.cons_append]) | ((with_reducible show KswPost _ _ _ _ _ _ _ _ _ _ _ _ _ _); dsimp only [KswPost]))))
  · exact okc _ [] _ _ _ (by k_asm) (by k_asm) (fun _ h => nomatch h) ⟨rfl, _, congrArg (fun z => Value.int z _) (by
      rename_i hz
      rw [Int.fmod_eq_emod_of_nonneg _ (by decide)] at hz
      unfold pn; rw [if_pos hz, Int.fdiv_eq_ediv_of_nonneg _ (by decide)])⟩
  · exact okc _ [] _ _ _ (by k_asm) (by k_asm) (fun _ h => nomatch h) ⟨rfl, _, congrArg (fun z => Value.int z _) (by
      rename_i hz
      rw [Int.fmod_eq_emod_of_nonneg _ (by decide)] at hz
      unfold pn; rw [if_neg hz, Int.fdiv_eq_ediv_of_nonneg _ (by decide)])⟩

end

section
theorem byteArr_bInts (b : Array UInt8) : byteArr (KBw.bInts b) = b := by
  unfold byteArr KBw.bInts
  rw [List.map_map]
  have : (fun n : Int => n.toNat.toUInt8) ∘ (fun c : UInt8 => (c.toNat : Int)) = id := by
    funext c
    show ((c.toNat : Int).toNat).toUInt8 = c
    simp
  rw [this, List.map_id]
def rs (g : Nat → Option (Dat × Nat)) : Nat → Nat → List Dat → Option (List Dat × Nat)
  | 0, a, acc => some (acc, a)
  | n + 1, a, acc => match g a with
    | none => none
    | some (d, e) => rs g n e (acc ++ [d])
def rvG (ks : List Int) (row : Nat → Int → Option (Dat × Nat)) (a : Nat) : Option (Dat × Nat) :=
  if ks.length ≤ a then none else
  if ks.getD a 0 = 105 ∨ ks.getD a 0 = 116 ∨ ks.getD a 0 = 111 ∨ ks.getD a 0 = 114 then
    match rc (ks.drop (a + 1)) with
    | none => none
    | some (many, n) =>
      if ks.getD a 0 = 105 then some (.int (pn many), a + 1 + n)
      else if ks.getD a 0 = 116 then (rtext ks (a + 1 + n) many).map fun p => (.text ⟨p.1.toArray⟩, p.2)
      else if ks.getD a 0 = 114 then row (a + 1 + n) many
      else if ((a + 1 + n : Nat) : Int) + many > ks.length then none
      else some (.octets ((ks.drop (a + 1 + n)).take many.toNat), a + 1 + n + many.toNat)
  else none
def rsome (ks : List Int) (g : Option (Nat → Option (Dat × Nat))) (a : Nat) (many : Int) : Option (Dat × Nat) :=
  match g with
  | none => none
  | some g => (rs g (turns many ks.length a) a []).map fun p => (.row p.1, p.2)
def rv (ks : List Int) : Nat → Nat → Option (Dat × Nat)
  | 0 => rvG ks (rsome ks none)
  | f + 1 => rvG ks (rsome ks (some (rv ks f)))
def sub (ks : List Int) : Nat → Option (Nat → Option (Dat × Nat))
  | 0 => none
  | f + 1 => some (rv ks f)
theorem rv_eq (ks : List Int) (f : Nat) : rv ks f = rvG ks (rsome ks (sub ks f)) := by cases f <;> rfl

def SomeC (prog : Program) (w : World) (f : Nat) : Prop := ∀ (b : Array UInt8) (tb : Tok) (ks : List Int), KBw.bInts b = ks → ks.length ≤ 10000 → ∀ (a : Nat), a ≤ ks.length → ∀ (ta : Tok) (many : Int), 0 ≤ many → ∀ (tm : Tok) (dep : Nat), dep + f = 21 → ∀ (td : Tok) (led : Led),
    Con prog w 115 [.bytes b tb, .int (a : Int) ta, .int many tm, .int (dep : Int) td] (8 + 2 * f) led
      (fun tl r => ∃ d e v l t1, rsome ks (sub ks f) a many = some (d, e) ∧ e ≤ ks.length ∧ r = .ref l ∧ (l, tupO [v, .int (e : Int) t1]) ∈ tl ∧ DV tl d v)
      (rsome ks (sub ks f) a many = none)
def ValC (prog : Program) (w : World) (f : Nat) : Prop := ∀ (b : Array UInt8) (tb : Tok) (ks : List Int), KBw.bInts b = ks → ks.length ≤ 10000 → ∀ (a : Nat), a ≤ ks.length → ∀ (ta : Tok) (dep : Nat), dep + f = 21 → ∀ (td : Tok) (led : Led),
    Con prog w 122 [.bytes b tb, .int (a : Int) ta, .int (dep : Int) td] (9 + 2 * f) led
      (fun tl r => ∃ d e v l t1, rv ks f a = some (d, e) ∧ e ≤ ks.length ∧ r = .ref l ∧ (l, tupO [v, .int (e : Int) t1]) ∈ tl ∧ DV tl d v)
      (rv ks f a = none)

theorem valC_of (prog : Program) (w : World) (f : Nat) (hs : SomeC prog w f) : ValC prog w f := by
  intro b tb ks hks hlen a ha ta dep hdep td led dp un gd env outer frs h₀ L m s p loose mean mg mb R C ok er
  have X := C.X
  have T := C.T
  have hd := C.hd
  have hu := C.hu
  (k_dflt (refine' enter ?kC ?kO ?kR ?k6 ?k7 ?k9 ?kB ?kn ?c2 ?c3 ?c4 ?c5 ?_; (case kC => assumption); (case kO => assumption); (case kR => assumption); (case k6 => k_is); (case k7 => k_is); (case k9 => first | exact BindsTo.of_eq rfl | fail "defaults"); (case c5 => decide); (case kB => exact locs rfl); (case kn => first | decide | omega); (case c2 => exact rfl); (case c3 => exact rfl); (case c4 => exact rfl); k_whole))
  intro L' h₁ tk₁ led' frs' Qc Ec F N Ls Fs Fi Lt okc erc hE era
  have era := eraL era
  have hin : ∀ k ∈ ks, 0 ≤ k ∧ k < 256 := hks ▸ fun k hk => KBw.ints_in hk
  rw [rv_eq] at okc erc era
  (repeat' (first | ((((fail_if_success k_end); (fail_if_success (with_reducible show wpAny _ _ (exec (Stmt.While _ _ _ _) _) _ _ _)); (fail_if_success (with_reducible show wpAny _ _ (exec (Stmt.For _ _ _ _ _) _) _ _ _)))); ((first | walk1 | (dsimp only; walk1)))) | (first | ((with_reducible show Frag.In _ _ ∧ _); refine ⟨by k_in, ?_⟩; try dsimp only [List.nil_append, List.cons_append]) | ((with_reducible show KswPost _ _ _ _ _ _ _ _ _ _ _ _ _ _); dsimp only [KswPost]))))
  all_goals simp only [Int.toNat_natCast] at *
  · exact era (by unfold rvG; rw [if_pos (by (clear ha; lia))]) (by assumption) (by assumption) (by assumption) (by k_asm) (by k_asm)
  · rename_i hlt hlet _
    have hlt' : ¬ ks.length ≤ a := by lia
    have hlet' : ks.getD a 0 = 105 ∨ ks.getD a 0 = 116 ∨ ks.getD a 0 = 111 ∨ ks.getD a 0 = 114 := by
      simp only [List.any_cons, List.any_nil, Bool.or_false, Bool.or_eq_true, beq_iff_eq] at hlet
      lia
    rename Fr _ _ _ _ => F1
    rename News _ _ _ _ => N1
    rw [show ((a : Int) + 1) = ((a + 1 : Nat) : Int) by rfl]
    have N1 : News h₀ L' _ led' := fun p hp => N1 p (.tail _ hp)
    refine Con.use (con_read_count prog w b tb ks hks hlen (a + 1) (by lia) _ _) F1 N1 X T Fs Fi rfl rfl (by (clear hdep; lia)) (by lia) (fun r tl h' tk' F5 N6 nd hr => ?_) (fun hx e h' tk' ht _ hfr => ?_)
    · refine hold (fun Ph hPh => ?_)
      obtain ⟨many, n, l, t3, t4, hrv, rfl, hl⟩ := hr
      refine hPh ?_
      clear hPh
      have hsp := rc_spec hin hrv
      rw [show ((a + 1 : Nat) : Int) + (n : Int) = ((a + 1 + n : Nat) : Int) from rfl] at hl
      have hG : rvG ks (rsome ks (sub ks f)) a = (if ks.getD a 0 = 105 then some (.int (pn many), a + 1 + n)
          else if ks.getD a 0 = 116 then (rtext ks (a + 1 + n) many).map fun p => (.text ⟨p.1.toArray⟩, p.2)
          else if ks.getD a 0 = 114 then rsome ks (sub ks f) (a + 1 + n) many
          else if ((a + 1 + n : Nat) : Int) + many > ks.length then none
          else some (.octets ((ks.drop (a + 1 + n)).take many.toNat), a + 1 + n + many.toNat)) := by
        unfold rvG
        rw [if_neg hlt', if_pos hlet', hrv]
      rw [hG] at okc erc era
      dsimp only at F5 N6 ⊢
      have N7 : News h₀ L' h' ((l, ({ cls := .type "tuple", data := .seq #[.int many t3, .int ((a + 1 + n : Nat) : Int) t4] 0 } : Obj)) :: led') := fun p hp => N6 p (by
        rcases List.mem_cons.mp hp with rfl | hp
        · exact List.mem_append_left _ hl
        · exact List.mem_append_right _ hp)
      clear N6 N1 F1 hl hG
      generalize hspot : a + 1 + n = spot at *
      have Fi' : ∀ p ∈ frs', p ∈ ((l, ({ cls := .type "tuple", data := .seq #[.int many t3, .int (spot : Int) t4] 0 } : Obj)) :: led' : Led) := fun p hp => .tail _ (Fi p hp)
      (repeat' (first | ((((fail_if_success k_end); (fail_if_success (with_reducible show wpAny _ _ (exec (Stmt.While _ _ _ _) _) _ _ _)); (fail_if_success (with_reducible show wpAny _ _ (exec (Stmt.For _ _ _ _ _) _) _ _ _)))); ((first | walk1 | (dsimp only; walk1)))) | (first | ((with_reducible show Frag.In _ _ ∧ _); refine ⟨by k_in, ?_⟩; try dsimp only [List.nil_append, List.cons_append]) | ((with_reducible show KswPost _ _ _ _ _ _ _ _ _ _ _ _ _ _); dsimp only [KswPost]))))
      · rename_i h105
        rw [if_pos h105] at okc
        rename Fr _ _ _ _ => F8
        rename News _ _ _ _ => N8
        refine Con.useV (con_plain_number prog w many hsp.1 t3 _) F8 N8 X T Fs Fi' rfl rfl (by omega) (by lia) (fun t6 h' tk' F9 N9 => ?_)
        clear F8 N8
        try dsimp only [List.nil_append] at F9 N9 ⊢
        (repeat' (first | ((((fail_if_success k_end); (fail_if_success (with_reducible show wpAny _ _ (exec (Stmt.While _ _ _ _) _) _ _ _)); (fail_if_success (with_reducible show wpAny _ _ (exec (Stmt.For _ _ _ _ _) _) _ _ _)))); ((first | walk1 | (dsimp only; walk1)))) | (first | ((with_reducible show Frag.In _ _ ∧ _); refine ⟨by k_in, ?_⟩; try dsimp only [List.nil_append, List.cons_append]) | ((with_reducible show KswPost _ _ _ _ _ _ _ _ _ _ _ _ _ _); dsimp only [KswPost]))))
        rename News _ _ _ _ => N8
        exact okc _ [_] _ _ _ (by k_asm) (News.drop2 N8) (fun q hq => by rw [List.mem_singleton.mp hq]; exact ⟨rfl, rfl⟩) ⟨_, spot, _, _, _, rfl, by (exact hsp.2.1), rfl, List.mem_singleton.mpr rfl, .int _ _⟩
      · rename_i h105 h116
        rw [if_neg h105, if_pos h116] at okc erc
        rename Fr _ _ _ _ => F8
        rename News _ _ _ _ => N8
        refine Con.use (con_read_text prog w b tb ks hks hlen spot (by (exact hsp.2.1)) t4 many hsp.1 t3 _) F8 N8 X T Fs Fi' rfl rfl (by (clear hdep; lia)) (by lia) (fun r tl h' tk' F9 N9 nd9 hr => ?_) (fun hx e h' tk' ht _ hfr => ?_)
        · refine hold (fun Ph hPh => ?_)
          obtain ⟨cs, e, l2, t6, t7, hrt, he, rfl, hl2⟩ := hr
          refine hPh ?_
          clear hPh
          rw [hrt] at okc
          exact okc _ tl _ _ _ F9 (fun p hp => N9 p (by
            rcases List.mem_append.mp hp with hp | hp
            · exact List.mem_append_left _ hp
            · exact List.mem_append_right _ (.tail _ hp))) nd9 ⟨_, e, _, _, _, rfl, he, rfl, hl2, .text _ _⟩
        · exact erc (by rw [hx]; rfl) e h' tk' (ht.sub fun p hp => .tail _ hp) hfr
      · rename_i h105 h116 h114
        rw [if_neg h105, if_neg h116, if_pos h114] at okc erc
        rename Fr _ _ _ _ => F8
        rename News _ _ _ _ => N8
        refine Con.use (hs b tb ks hks hlen spot (by (exact hsp.2.1)) t4 many hsp.1 t3 dep hdep td _) F8 N8 X T Fs Fi' rfl rfl (by lia) (by lia) (fun r tl h' tk' F9 N9 nd9 hr => ?_) (fun hx e h' tk' ht _ hfr => ?_)
        · refine hold (fun Ph hPh => ?_)
          obtain ⟨d, e, v, l2, t6, hrt, he, rfl, hl2, hdv⟩ := hr
          refine hPh ?_
          clear hPh
          exact okc _ tl _ _ _ F9 (fun p hp => N9 p (by
            rcases List.mem_append.mp hp with hp | hp
            · exact List.mem_append_left _ hp
            · exact List.mem_append_right _ (.tail _ hp))) nd9 ⟨d, e, v, _, _, hrt, he, rfl, hl2, hdv⟩
        · exact erc hx e h' tk' (ht.sub fun p hp => .tail _ hp) hfr
      · rw [if_neg (show ¬ ks.getD a 0 = 105 by assumption), if_neg (show ¬ ks.getD a 0 = 116 by assumption), if_neg (show ¬ ks.getD a 0 = 114 by assumption), if_pos (show (spot : Int) + many > ks.length by omega)] at era
        rename News _ _ _ _ => N8
        exact era rfl (by assumption) (by assumption) (by assumption) (by k_asm) (fun p hp => N8 p (.tail _ hp))
      · have hbig : ¬ (spot : Int) + many > ks.length := by omega
        rw [if_neg (show ¬ ks.getD a 0 = 105 by assumption), if_neg (show ¬ ks.getD a 0 = 116 by assumption), if_neg (show ¬ ks.getD a 0 = 114 by assumption), if_neg hbig] at okc
        rename KBw.bInts (KBy.picked _ _ _) = _ => hpk
        refine call_bytes_bytes ?_
        (repeat' (first | ((((fail_if_success k_end); (fail_if_success (with_reducible show wpAny _ _ (exec (Stmt.While _ _ _ _) _) _ _ _)); (fail_if_success (with_reducible show wpAny _ _ (exec (Stmt.For _ _ _ _ _) _) _ _ _)))); ((first | walk1 | (dsimp only; walk1)))) | (first | ((with_reducible show Frag.In _ _ ∧ _); refine ⟨by k_in, ?_⟩; try dsimp only [List.nil_append, List.cons_append]) | ((with_reducible show KswPost _ _ _ _ _ _ _ _ _ _ _ _ _ _); dsimp only [KswPost]))))
        rename News _ _ _ _ => N8
        have hpk2 : KBy.picked b (some (spot : Int)) (some ((spot : Int) + many)) = byteArr ((ks.drop spot).take many.toNat) := by
          rw [← byteArr_bInts (KBy.picked b (some (spot : Int)) (some ((spot : Int) + many))), hpk]
          rw [clipAt_in (by (clear hspot; lia)) (by omega), Nat.min_eq_left (by (exact hsp.2.1)), show ((spot : Int) + many).toNat - spot = many.toNat by (clear hlen hspot hsp; lia)]
        rw [hpk2] at N8
        have he : (spot : Int) + many = ((spot + many.toNat : Nat) : Int) := by lia
        rw [he] at N8
        exact okc _ [_] _ _ _ (by k_asm) (News.drop2 N8) (fun q hq => by rw [List.mem_singleton.mp hq]; exact ⟨rfl, rfl⟩) ⟨_, spot + many.toNat, _, _, _, rfl, by omega, rfl, List.mem_singleton.mpr rfl, .octets _ _⟩
    · exact erc (by unfold rvG; rw [if_neg hlt', if_pos hlet', hx]) e h' tk' ht hfr
  · rename (List.any _ _ = false) => hlet
    rename News _ _ _ _ => N8
    simp only [List.any_cons, List.any_nil, Bool.or_false, Bool.or_eq_false_iff, beq_eq_false_iff_ne, ne_eq] at hlet
    exact era (by unfold rvG; rw [if_neg (by omega), if_neg (by lia)]) (by assumption) (by assumption) (by assumption) (by k_asm) (fun p hp => N8 p (.tail _ hp))

end

section
theorem News.apart {h₀ h : Heap} {L : Addr} {led : Led} (N : News h₀ L h led) {p q : Addr × Obj} (hp : p ∈ led) (hq : q ∈ led) (h : p.2.cls ≠ q.2.cls) : p.1 ≠ q.1 := fun e => by
  have h1 := (N p hp).1
  have h2 := (N q hq).1
  rw [e, h2] at h1
  exact h (by rw [Option.some.inj h1])
theorem DVs.snoc {led : Led} {ds : List Dat} {vs : List Value} {d : Dat} {v : Value} (h : DVs led ds vs) (x : DV led d v) : DVs led (ds ++ [d]) (vs ++ [v]) := by
  induction ds generalizing vs with
  | nil => cases h; exact .cons x .nil
  | cons e ds ih => cases h with | cons a r => exact .cons a (ih r)
theorem News.drop3 {h₀ h : Heap} {L : Addr} {a b c : Addr × Obj} {tla led : Led} (N : News h₀ L h (a :: b :: c :: (tla ++ led))) : News h₀ L h ((a :: b :: tla) ++ led) := fun p hp => N p (by
  rcases List.mem_cons.mp hp with rfl | hp
  · exact .head _
  · rcases List.mem_cons.mp hp with rfl | hp
    · exact .tail _ (.head _)
    · exact .tail _ (.tail _ (.tail _ hp)))
theorem someC_zero (prog : Program) (w : World) : SomeC prog w 0 := by
  intro b tb ks hks hlen a ha ta many hmany tm dep hdep td led dp un gd env outer frs h₀ L m s p loose mean mg mb R C ok er
  have X := C.X
  have T := C.T
  have hd := C.hd
  have hu := C.hu
  (k_dflt (refine' enter ?kC ?kO ?kR ?k6 ?k7 ?k9 ?kB ?kn ?c2 ?c3 ?c4 ?c5 ?_; (case kC => assumption); (case kO => assumption); (case kR => assumption); (case k6 => k_is); (case k7 => k_is); (case k9 => first | exact BindsTo.of_eq rfl | fail "defaults"); (case c5 => decide); (case kB => exact locs rfl); (case kn => first | decide | omega); (case c2 => exact rfl); (case c3 => exact rfl); (case c4 => exact rfl); k_whole))
  intro L' h₁ tk₁ led' frs' Qc Ec F N Ls Fs Fi Lt okc erc hE era
  have era := eraL era
  (repeat' (first | ((((fail_if_success k_end); (fail_if_success (with_reducible show wpAny _ _ (exec (Stmt.While _ _ _ _) _) _ _ _)); (fail_if_success (with_reducible show wpAny _ _ (exec (Stmt.For _ _ _ _ _) _) _ _ _)))); ((first | walk1 | (dsimp only; walk1)))) | (first | ((with_reducible show Frag.In _ _ ∧ _); refine ⟨by k_in, ?_⟩; try dsimp only [List.nil_append, List.cons_append]) | ((with_reducible show KswPost _ _ _ _ _ _ _ _ _ _ _ _ _ _); dsimp only [KswPost]))))
  exact era rfl (by assumption) (by assumption) (by assumption) (by k_asm) (by k_asm)

theorem someC_succ (prog : Program) (w : World) (f : Nat) (hv : ValC prog w f) : SomeC prog w (f + 1) := by
  intro b tb ks hks hlen a ha ta many hmany tm dep hdep td led dp un gd env outer frs h₀ L m s p loose mean mg mb R C ok er
  have X := C.X
  have T := C.T
  have hd := C.hd
  have hu := C.hu
  (k_dflt (refine' enter ?kC ?kO ?kR ?k6 ?k7 ?k9 ?kB ?kn ?c2 ?c3 ?c4 ?c5 ?_; (case kC => assumption); (case kO => assumption); (case kR => assumption); (case k6 => k_is); (case k7 => k_is); (case k9 => first | exact BindsTo.of_eq rfl | fail "defaults"); (case c5 => decide); (case kB => exact locs rfl); (case kn => first | decide | omega); (case c2 => exact rfl); (case c3 => exact rfl); (case c4 => exact rfl); k_whole))
  intro L' h₁ tk₁ led' frs' Qc Ec F N Ls Fs Fi Lt okc erc hE era
  (repeat' (first | ((((fail_if_success k_end); (fail_if_success (with_reducible show wpAny _ _ (exec (Stmt.While _ _ _ _) _) _ _ _)); (fail_if_success (with_reducible show wpAny _ _ (exec (Stmt.For _ _ _ _ _) _) _ _ _)))); ((first | walk1 | (dsimp only; walk1)))) | (first | ((with_reducible show Frag.In _ _ ∧ _); refine ⟨by k_in, ?_⟩; try dsimp only [List.nil_append, List.cons_append]) | ((with_reducible show KswPost _ _ _ _ _ _ _ _ _ _ _ _ _ _); dsimp only [KswPost]))))
  rename_i D _ l1 _ _ F1 N1
  refine wpAny_For ?_
  (repeat' (first | ((((fail_if_success k_end); (fail_if_success (with_reducible show wpAny _ _ (exec (Stmt.While _ _ _ _) _) _ _ _)); (fail_if_success (with_reducible show wpAny _ _ (exec (Stmt.For _ _ _ _ _) _) _ _ _)))); (fail_if_success (with_reducible show wpAny _ _ (pyIter _) _ _ _)); ((first | walk1 | (dsimp only; walk1)))) | (first | ((with_reducible show Frag.In _ _ ∧ _); refine ⟨by k_in, ?_⟩; try dsimp only [List.nil_append, List.cons_append]) | ((with_reducible show KswPost _ _ _ _ _ _ _ _ _ _ _ _ _ _); dsimp only [KswPost]))))
  rename IsRange _ _ _ _ _ _ _ _ => HR
  rename Heap => H2
  rename Fr _ _ _ _ => F2
  rename News _ _ _ _ => N2
  generalize hnt : turns many ks.length a = nt
  have hn : (if ((ks.length : Int) - a + 1) < many then ((ks.length : Int) - a + 1) else many) = (nt : Int) := by
    rw [← hnt]; unfold turns; split <;> (first | lia | omega)
  have hntl : nt ≤ ks.length + 1 := by rw [← hnt]; unfold turns; omega
  have hso : rsome ks (sub ks (f + 1)) a many = (rs (rv ks f) nt a []).map fun p => (.row p.1, p.2) := by rw [← hnt]; rfl
  rw [hso] at okc erc era
  rw [hn] at HR
  have hrs : Builtin.Range.rangeSize 0 (nt : Int) 1 = (nt : Int) := by
    unfold Builtin.Range.rangeSize
    rw [if_pos (by decide)]
    split
    · rw [Int.ediv_one]; (simp +arith)
    · (clear hnt; lia)
  refine wpAny_pyIter_range HR (small_one (by (exact n0 _)) (by (exact n0 _)) (by (exact n0 _)) (by (clear hn hrs; lia))) ?_
  rw [hrs]
  have F3 := F2.push { cls := .type "range_iterator", data := .fields #[rawInt 0, rawInt (nt : Int), rawInt 1] }
  have N2 : News h₀ L' _ ((D, lst []) :: led') := N2
  have N3 := News.ext N2 (h' := _) fun b' ob e => Heap.get?_push_of_some { cls := .type "range_iterator", data := .fields #[rawInt 0, rawInt (nt : Int), rawInt 1] } e
  have lt3 : ∀ p ∈ (_ : Led), p.1 < _ := fun p hp => Heap.lt_size (N2 p hp).1
  have hI0 : h₀.get? _ = none := next_is_new F2
  have hLI := F2.ns.lt
  refine codeA_for (σ := Nat × List Dat × List Value × Led × Tok) (LCg.range_walks rfl 0 nt)
    (fun i c => c.1 ≤ ks.length ∧ rs (rv ks f) nt a [] = rs (rv ks f) (nt - i) c.1 c.2.1 ∧ DVs c.2.2.2.1 c.2.1 c.2.2.1 ∧ c.2.1.length = i ∧ (∀ q ∈ c.2.2.2.1, Tup q) ∧ (∀ q ∈ c.2.2.2.1, q.1 ≠ H2.objs.size))
    (fun c => (D, lst c.2.2.1) :: (c.2.2.2.1 ++ led')) (fun c => [("spot", .int (c.1 : Int) c.2.2.2.2)]) ["place", "value"] ((a, [], [], [], _) : Nat × List Dat × List Value × Led × Tok) hE
    rfl rfl rfl (fun q => Nat.ne_of_lt hLI (List.mem_singleton.mp q)) (fun b hb => by rw [List.mem_singleton.mp hb]; exact hI0) (fun i c hJ p hp q => ?_)
    (by show IsRangeIter _ _ _ _ _; simpa using Heap.get?_push_size _ rfl) F3 N3 (by (((repeat' (first | exact List.forall_mem_nil _ | refine List.forall_mem_cons.mpr ⟨rfl, ?_⟩))))) ⟨ha, rfl, .nil, rfl, (fun _ h => nomatch h), (fun _ h => nomatch h)⟩ ?_ ?_
  · rcases List.mem_cons.mp hp with rfl | hp
    · exact Nat.ne_of_lt (lt3 _ (.head _)) (List.mem_singleton.mp q)
    · rcases List.mem_append.mp hp with hp | hp
      · exact hJ.2.2.2.2.2 p hp (List.mem_singleton.mp q)
      · exact Nat.ne_of_lt (lt3 _ (.tail _ hp)) (List.mem_singleton.mp q)
  · intro i
    refine all5 (fun spot acc ys tla t1 => ?_)
    intro v0 u h tk own hlt q8 q9 hown hst hown2 F4 N4
    have hsp := q9.1
    have hrc := q9.2.1
    have hys := q9.2.2.1
    have hal := q9.2.2.2.1
    have htt := q9.2.2.2.2.1
    have hti := q9.2.2.2.2.2
    clear q9
    obtain ⟨tv, rfl⟩ := q8
    dsimp only at hsp hrc hys hal htt hti F4 N4 ⊢
    clear F1 F2 N2 F3 N3
    have hIo : (H2.objs.size, ({ cls := .type "range_iterator", data := .fields #[rawInt (0 + ((i + 1 : Nat) : Int) * 1), rawInt ((nt : Int) - ((i + 1 : Nat) : Int)), rawInt 1] } : Obj)) ∈ own := hown2 _ (.head _) hI0 _ hst
    have ne3 : ∀ p ∈ own ++ (tla ++ led'), p.1 ≠ D := fun p hp => by
      rcases List.mem_append.mp hp with hp | hp
      · rw [List.mem_singleton.mp (hown p hp)]
        exact Nat.ne_of_gt (lt3 _ (.head _))
      · rcases List.mem_append.mp hp with hp | hp
        · exact News.apart N4 (p := p) (q := (D, lst ys)) (List.mem_append_right _ (.tail _ (List.mem_append_left _ hp))) (List.mem_append_right _ (.head _)) (by rw [(htt p hp).1]; show Value.type "tuple" ≠ Value.type "list"; decide)
        · exact Nat.ne_of_lt (l1 p hp)
    have N5 : News h₀ L' h ((D, lst ys) :: (own ++ (tla ++ led'))) := fun p hp => N4 p (by
      rcases List.mem_cons.mp hp with rfl | hp
      · exact List.mem_append_right _ (.head _)
      · rcases List.mem_append.mp hp with hp | hp
        · exact List.mem_append_left _ hp
        · exact List.mem_append_right _ (.tail _ hp))
    clear N4
    (repeat' (first | ((((fail_if_success k_end); (fail_if_success (with_reducible show wpAny _ _ (exec (Stmt.While _ _ _ _) _) _ _ _)); (fail_if_success (with_reducible show wpAny _ _ (exec (Stmt.For _ _ _ _ _) _) _ _ _)))); ((first | walk1 | (dsimp only; walk1)))) | (first | ((with_reducible show Frag.In _ _ ∧ _); refine ⟨by k_in, ?_⟩; try dsimp only [List.nil_append, List.cons_append]) | ((with_reducible show KswPost _ _ _ _ _ _ _ _ _ _ _ _ _ _); dsimp only [KswPost]))))
    obtain ⟨k, hk⟩ : ∃ k, nt - i = k + 1 := ⟨nt - i - 1, by (clear hn hrs hal; lia)⟩
    rw [hk, rs] at hrc
    have Fi' : ∀ p ∈ frs', p ∈ ((D, lst ys) :: (own ++ (tla ++ led')) : Led) := fun p hp => .tail _ (List.mem_append_right _ (List.mem_append_right _ (Fi p hp)))
    rw [show ((dep : Int) + 1) = ((dep + 1 : Nat) : Int) by rfl]
    refine Con.use (hv b tb ks hks hlen spot hsp t1 (dep + 1) (by lia) _ _) F4 N5 X T Fs Fi' rfl rfl (by lia) (by lia) (fun r tl h' tk' F5 N6 nd hr => ?_) (fun hx e h' tk' ht _ hfr => ?_)
    · refine hold (fun Ph hPh => ?_)
      obtain ⟨d, e, v, l, t3, hrv, he, rfl, hl, hdv⟩ := hr
      refine hPh ?_
      clear hPh
      rw [hrv] at hrc
      dsimp only at hrc F5 N6 ⊢
      have htl : ∀ p ∈ tl, p.1 ≠ D ∧ p.1 ≠ H2.objs.size := fun p hp =>
        ⟨News.apart N6 (p := p) (q := (D, lst ys)) (List.mem_append_left _ hp) (List.mem_append_right _ (.head _)) (by rw [(nd p hp).1]; show Value.type "tuple" ≠ Value.type "list"; decide),
         News.apart N6 (p := p) (q := (H2.objs.size, _)) (List.mem_append_left _ hp) (List.mem_append_right _ (.tail _ (List.mem_append_left _ hIo))) (by rw [(nd p hp).1]; show Value.type "tuple" ≠ Value.type "range_iterator"; decide)⟩
      have ne4 : ∀ p ∈ tl ++ (own ++ (tla ++ led')), p.1 ≠ D := fun p hp => by
        rcases List.mem_append.mp hp with hp | hp
        · exact (htl p hp).1
        · exact ne3 p hp
      have N7 : News h₀ L' h' ((l, ({ cls := .type "tuple", data := .seq #[v, .int (e : Int) t3] 0 } : Obj)) :: (D, lst ys) :: (tl ++ (own ++ (tla ++ led')))) := fun p hp => N6 p (by
        rcases List.mem_cons.mp hp with rfl | hp
        · exact List.mem_append_left _ hl
        · rcases List.mem_cons.mp hp with rfl | hp
          · exact List.mem_append_right _ (.head _)
          · rcases List.mem_append.mp hp with hp | hp
            · exact List.mem_append_left _ hp
            · exact List.mem_append_right _ (.tail _ hp))
      clear N6 N5 F4
      (repeat' (first | ((((fail_if_success k_end); (fail_if_success (with_reducible show wpAny _ _ (exec (Stmt.While _ _ _ _) _) _ _ _)); (fail_if_success (with_reducible show wpAny _ _ (exec (Stmt.For _ _ _ _ _) _) _ _ _)))); ((first | walk1 | (dsimp only; walk1)))) | (first | ((with_reducible show Frag.In _ _ ∧ _); refine ⟨by k_in, ?_⟩; try dsimp only [List.nil_append, List.cons_append]) | ((with_reducible show KswPost _ _ _ _ _ _ _ _ _ _ _ _ _ _); dsimp only [KswPost]))))
      rename Fr _ _ _ _ => F8
      rename News _ _ _ _ => N8
      refine append_head (rest := tl ++ (own ++ (tla ++ led'))) F8 (fun p hp => N8 p (.tail _ hp)) ne4 (fun h9 F9 N9 => ?_) (by rw [List.size_toArray, hys.len, sizeLine_eq]; (clear hn hrs; lia))
      dsimp only at F9 N9 ⊢
      clear F8 N8
      rw [lst_snoc] at N9
      (repeat' (first | ((((fail_if_success k_end); (fail_if_success (with_reducible show wpAny _ _ (exec (Stmt.While _ _ _ _) _) _ _ _)); (fail_if_success (with_reducible show wpAny _ _ (exec (Stmt.For _ _ _ _ _) _) _ _ _)))); ((first | walk1 | (dsimp only; walk1)))) | (first | ((with_reducible show Frag.In _ _ ∧ _); refine ⟨by k_in, ?_⟩; try dsimp only [List.nil_append, List.cons_append]) | ((with_reducible show KswPost _ _ _ _ _ _ _ _ _ _ _ _ _ _); dsimp only [KswPost]))))
      refine for_end (e, acc ++ [d], ys ++ [v], tl ++ tla, _) (by k_asm) (by k_asm) (fun p hp => .tail _ (List.mem_append_right _ (List.mem_append_left _ hp))) (fun p hp => ?_) (by (((repeat' (first | exact List.forall_mem_nil _ | refine List.forall_mem_cons.mpr ⟨rfl, ?_⟩))))) (by ((intro z h2 h3; simp only [List.forall_mem_cons, List.not_mem_nil, false_implies, implies_true, and_true, ne_eq] at h2; simp only [List.contains_cons, List.contains_nil, Bool.or_false, Bool.or_eq_false_iff, beq_eq_false_iff_ne, ne_eq] at h3; simp [h2, h3, kstB]))) ⟨he, ?_, ?_, by simp [hal], fun q hq => ?_, fun q hq => ?_⟩
      · rcases List.mem_cons.mp hp with rfl | hp
        · exact .head _
        · refine .tail _ ?_
          rcases List.mem_append.mp hp with hp | hp
          · rcases List.mem_append.mp hp with hp | hp
            · exact List.mem_append_left _ hp
            · exact List.mem_append_right _ (List.mem_append_right _ (List.mem_append_left _ hp))
          · exact List.mem_append_right _ (List.mem_append_right _ (List.mem_append_right _ hp))
      · show rs (rv ks f) nt a [] = rs (rv ks f) (nt - (i + 1)) e (acc ++ [d])
        rw [hrc, show nt - (i + 1) = k by (clear hn hrs hlt; omega)]
      · exact (DVs.mono (fun q hq => List.mem_append_right _ hq) hys).snoc (DV.mono (fun q hq => List.mem_append_left _ hq) hdv)
      · rcases List.mem_append.mp hq with hq | hq
        · exact nd q hq
        · exact htt q hq
      · rcases List.mem_append.mp hq with hq | hq
        · exact (htl q hq).2
        · exact hti q hq
    · rw [hx] at hrc
      exact erc (by rw [hrc]; rfl) e h' tk' (ht.sub fun p hp => .tail _ (List.mem_append_right _ (List.mem_append_right _ hp))) hfr
  · refine all5 (fun spot acc ys tla t1 => ?_)
    intro u h tk q4 F4 N4
    have hsp := q4.1
    have hrc := q4.2.1
    have hys := q4.2.2.1
    have hal := q4.2.2.2.1
    have htt := q4.2.2.2.2.1
    have hti := q4.2.2.2.2.2
    clear q4
    dsimp only at hsp hrc hys hal htt hti F4 N4 ⊢
    clear F1 F2 N2 F3 N3
    (repeat' (first | ((((fail_if_success k_end); (fail_if_success (with_reducible show wpAny _ _ (exec (Stmt.While _ _ _ _) _) _ _ _)); (fail_if_success (with_reducible show wpAny _ _ (exec (Stmt.For _ _ _ _ _) _) _ _ _)))); ((first | walk1 | (dsimp only; walk1)))) | (first | ((with_reducible show Frag.In _ _ ∧ _); refine ⟨by k_in, ?_⟩; try dsimp only [List.nil_append, List.cons_append]) | ((with_reducible show KswPost _ _ _ _ _ _ _ _ _ _ _ _ _ _); dsimp only [KswPost]))))
    refine call_tuple_list (l := D) (items := ys.toArray) ⟨_, (N4 _ (.head _)).1, rfl, _, rfl⟩ (fun h9 hk9 => ?_) (by rw [List.size_toArray, hys.len, sizeLine_eq]; (clear hn hrs; lia))
    have F5 := (Fr.ext F4 hk9).push { cls := .type "tuple", data := .seq ys.toArray }
    have N5 := News.more (Fr.ext F4 hk9) (News.ext N4 (h' := _) fun b' ob e => Heap.get?_push_of_some { cls := .type "tuple", data := .seq ys.toArray } (hk9 b' ob e)) (Heap.get?_push_size _ rfl) (Nat.le_refl _)
    dsimp only at F5 N5 ⊢
    generalize h9.objs.size = I2 at *
    clear F4 N4
    (repeat' (first | ((((fail_if_success k_end); (fail_if_success (with_reducible show wpAny _ _ (exec (Stmt.While _ _ _ _) _) _ _ _)); (fail_if_success (with_reducible show wpAny _ _ (exec (Stmt.For _ _ _ _ _) _) _ _ _)))); ((first | walk1 | (dsimp only; walk1)))) | (first | ((with_reducible show Frag.In _ _ ∧ _); refine ⟨by k_in, ?_⟩; try dsimp only [List.nil_append, List.cons_append]) | ((with_reducible show KswPost _ _ _ _ _ _ _ _ _ _ _ _ _ _); dsimp only [KswPost]))))
    rw [Nat.sub_self, rs] at hrc
    rw [hrc] at okc
    rename News _ _ _ _ => N8
    refine okc _ (_ :: (I2, tupO ys) :: tla) _ _ _ (by k_asm) (News.drop3 N8) (fun q hq => ?_) ⟨.row acc, spot, _, _, _, rfl, hsp, rfl, .head _, .row (.tail _ (.head _)) (DVs.mono (fun q hq => .tail _ (.tail _ hq)) hys)⟩
    rcases List.mem_cons.mp hq with rfl | hq
    · exact ⟨rfl, rfl⟩
    · rcases List.mem_cons.mp hq with rfl | hq
      · exact ⟨rfl, rfl⟩
      · exact htt q hq

theorem con_read_value (prog : Program) (w : World) : ∀ f, ValC prog w f
  | 0 => valC_of prog w 0 (someC_zero prog w)
  | f + 1 => valC_of prog w (f + 1) (someC_succ prog w f (con_read_value prog w f))

end

section
theorem rs_len (g : Nat → Option (Dat × Nat)) : ∀ (n a : Nat) (acc : List Dat) (ds : List Dat) (e : Nat), rs g n a acc = some (ds, e) → ds.length = acc.length + n
  | 0, a, acc, ds, e, h => by rw [rs] at h; cases h; rfl
  | n + 1, a, acc, ds, e, h => by
    rw [rs] at h
    split at h
    · cases h
    · rw [rs_len g n _ _ ds e h]; simp; (exact Nat.succ_add _ _)
theorem rv_row_len {ks : List Int} {f a : Nat} {ds : List Dat} {e : Nat} (h : rv ks f a = some (.row ds, e)) : ds.length ≤ ks.length + 1 := by
  rw [rv_eq] at h
  unfold rvG at h
  split at h
  · cases h
  split at h
  · split at h
    · cases h
    · split at h
      · cases h
      · split at h
        · cases hr : rtext ks (a + 1 + _) _ with
          | none => rw [hr] at h; cases h
          | some p => rw [hr] at h; cases h
        · split at h
          · unfold rsome at h
            split at h
            · cases h
            · cases hr : rs _ _ (a + 1 + _) [] with
              | none => rw [hr] at h; cases h
              | some p =>
                rw [hr] at h
                cases h
                have := rs_len _ _ _ _ p.1 p.2 hr
                rw [List.length_nil] at this
                unfold turns at this
                lia
          · split at h <;> cases h
  · cases h
def rrow (ks : List Int) : Option Dat := match rv ks 20 0 with
  | none => none
  | some (d, e) => if e < ks.length then none else if isRow d then some d else none
theorem con_read_row (prog : Program) (w : World) (b : Array UInt8) (tb : Tok) (ks : List Int) (hks : KBw.bInts b = ks) (hlen : ks.length ≤ 9000) (led : Led) :
    Con prog w 143 [.bytes b tb] 51 led (fun tl r => ∃ d, rrow ks = some d ∧ DV tl d r) (rrow ks = none) := by
  intro dp un gd env outer frs h₀ L m s p loose mean mg mb R C ok er
  have X := C.X
  have T := C.T
  have hd := C.hd
  have hu := C.hu
  (k_dflt (refine' enter ?kC ?kO ?kR ?k6 ?k7 ?k9 ?kB ?kn ?c2 ?c3 ?c4 ?c5 ?_; (case kC => assumption); (case kO => assumption); (case kR => assumption); (case k6 => k_is); (case k7 => k_is); (case k9 => first | exact BindsTo.of_eq rfl | fail "defaults"); (case c5 => decide); (case kB => exact locs rfl); (case kn => first | decide | omega); (case c2 => exact rfl); (case c3 => exact rfl); (case c4 => exact rfl); k_whole))
  intro L' h₁ tk₁ led' frs' Qc Ec F N Ls Fs Fi Lt okc erc hE era
  have era := eraL era
  (repeat' (first | ((((fail_if_success k_end); (fail_if_success (with_reducible show wpAny _ _ (exec (Stmt.While _ _ _ _) _) _ _ _)); (fail_if_success (with_reducible show wpAny _ _ (exec (Stmt.For _ _ _ _ _) _) _ _ _)))); ((first | walk1 | (dsimp only; walk1)))) | (first | ((with_reducible show Frag.In _ _ ∧ _); refine ⟨by k_in, ?_⟩; try dsimp only [List.nil_append, List.cons_append]) | ((with_reducible show KswPost _ _ _ _ _ _ _ _ _ _ _ _ _ _); dsimp only [KswPost]))))
  refine Con.use (con_read_value prog w 20 b tb ks hks (by (exact leb hlen rfl)) 0 (Nat.zero_le _) _ 1 rfl _ _) F N X T Fs Fi rfl rfl (by (exact Nat.le_of_lt hd)) (by (exact ltu hu rfl)) (fun r tl h' tk' F5 N6 nd hr => ?_) (fun hx e h' tk' ht _ hfr => ?_)
  · refine hold (fun Ph hPh => ?_)
    obtain ⟨d, e, v, l, t3, hrv, he, rfl, hl, hdv⟩ := hr
    refine hPh ?_
    clear hPh
    have hrr : rrow ks = if e < ks.length then none else if isRow d then some d else none := by unfold rrow; rw [hrv]
    rw [hrr] at okc erc era
    clear F N
    dsimp only at F5 N6 ⊢
    have N7 : News h₀ L' h' ((l, tupO [v, .int (e : Int) t3]) :: (tl ++ led')) := fun p hp => N6 p (by
      rcases List.mem_cons.mp hp with rfl | hp
      · exact List.mem_append_left _ hl
      · exact hp)
    clear N6
    (repeat' (first | ((((fail_if_success k_end); (fail_if_success (with_reducible show wpAny _ _ (exec (Stmt.While _ _ _ _) _) _ _ _)); (fail_if_success (with_reducible show wpAny _ _ (exec (Stmt.For _ _ _ _ _) _) _ _ _)))); ((first | walk1 | (dsimp only; walk1)))) | (first | ((with_reducible show Frag.In _ _ ∧ _); refine ⟨by k_in, ?_⟩; try dsimp only [List.nil_append, List.cons_append]) | ((with_reducible show KswPost _ _ _ _ _ _ _ _ _ _ _ _ _ _); dsimp only [KswPost]))))
    · rw [if_pos (by omega)] at era
      rename News _ _ _ _ => N8
      exact era rfl (by assumption) (by assumption) (by assumption) (by k_asm) (fun p hp => N8 p (.tail _ (List.mem_append_right _ hp)))
    · rw [if_neg (by (first | (clear he; lia) | omega))] at okc erc era
      rename Fr _ _ _ _ => F8
      rename News _ _ _ _ => N8
      have N8 : News h₀ L' _ (tl ++ led') := fun p hp => N8 p (.tail _ hp)
      have Fi' : ∀ p ∈ frs', p ∈ (tl ++ led' : Led) := fun p hp => List.mem_append_right _ (Fi p hp)
      refine Con.use (con_is_row prog w d v _ (DV.mono (fun q hq => List.mem_append_left _ hq) hdv) (fun ds hds => by subst hds; have := rv_row_len hrv; (clear he; lia))) F8 N8 X T Fs Fi' rfl rfl (by (exact ltd hd rfl)) (by (exact ltu hu rfl)) (fun r tl2 h' tk' F1 N1 _ hr' => ?_) (fun x => x.elim)
      obtain ⟨rfl, rfl⟩ := hr'
      clear F8 N8
      dsimp only [List.nil_append] at F1 N1 ⊢
      cases hir : isRow d with
      | true =>
        rw [hir] at okc
        (repeat' (first | ((((fail_if_success k_end); (fail_if_success (with_reducible show wpAny _ _ (exec (Stmt.While _ _ _ _) _) _ _ _)); (fail_if_success (with_reducible show wpAny _ _ (exec (Stmt.For _ _ _ _ _) _) _ _ _)))); ((first | walk1 | (dsimp only; walk1)))) | (first | ((with_reducible show Frag.In _ _ ∧ _); refine ⟨by k_in, ?_⟩; try dsimp only [List.nil_append, List.cons_append]) | ((with_reducible show KswPost _ _ _ _ _ _ _ _ _ _ _ _ _ _); dsimp only [KswPost]))))
        all_goals (try simp only [Bool.not_true, Bool.false_eq_true, if_false])
        (repeat' (first | ((((fail_if_success k_end); (fail_if_success (with_reducible show wpAny _ _ (exec (Stmt.While _ _ _ _) _) _ _ _)); (fail_if_success (with_reducible show wpAny _ _ (exec (Stmt.For _ _ _ _ _) _) _ _ _)))); ((first | walk1 | (dsimp only; walk1)))) | (first | ((with_reducible show Frag.In _ _ ∧ _); refine ⟨by k_in, ?_⟩; try dsimp only [List.nil_append, List.cons_append]) | ((with_reducible show KswPost _ _ _ _ _ _ _ _ _ _ _ _ _ _); dsimp only [KswPost]))))
        exact okc _ tl _ _ _ (by k_asm) (by k_asm) nd ⟨d, rfl, hdv⟩
      | false =>
        rw [hir] at era
        (repeat' (first | ((((fail_if_success k_end); (fail_if_success (with_reducible show wpAny _ _ (exec (Stmt.While _ _ _ _) _) _ _ _)); (fail_if_success (with_reducible show wpAny _ _ (exec (Stmt.For _ _ _ _ _) _) _ _ _)))); ((first | walk1 | (dsimp only; walk1)))) | (first | ((with_reducible show Frag.In _ _ ∧ _); refine ⟨by k_in, ?_⟩; try dsimp only [List.nil_append, List.cons_append]) | ((with_reducible show KswPost _ _ _ _ _ _ _ _ _ _ _ _ _ _); dsimp only [KswPost]))))
        rename News _ _ _ _ => N8
        exact era rfl (by assumption) (by assumption) (by assumption) (by k_asm) (fun p hp => N8 p (List.mem_append_right _ hp))
  · exact erc (by unfold rrow; rw [hx]) e h' tk' ht hfr

end

section
def rat (ks : List Int) (a : Nat) : Option (Dat × Nat) := match rc (ks.drop a) with
  | none => none
  | some (count, n) =>
    if ((a + n + 4 : Nat) : Int) + count > ks.length then none
    else if (ks.drop (a + n)).take 4 ≠ su (ad ((ks.drop (a + n + 4)).take count.toNat)).toNat then none
    else match rrow ((ks.drop (a + n + 4)).take count.toNat) with
      | none => none
      | some d => some (d, a + n + 4 + count.toNat)
theorem byteArr_inj {x y : List Int} (hx : ∀ k ∈ x, 0 ≤ k ∧ k < 256) (hy : ∀ k ∈ y, 0 ≤ k ∧ k < 256) (h : byteArr x = byteArr y) : x = y := by
  rw [← bInts_byteArr hx, h, bInts_byteArr hy]
theorem byteArr_ne {x y : List Int} (h : ((byteArr x).toList != (byteArr y).toList) = true) : x ≠ y := fun e => by
  rw [e] at h; simp at h
theorem byteArr_eq {x y : List Int} (hx : ∀ k ∈ x, 0 ≤ k ∧ k < 256) (hy : ∀ k ∈ y, 0 ≤ k ∧ k < 256) (h : ((byteArr x).toList != (byteArr y).toList) = false) : x = y :=
  byteArr_inj hx hy (by simpa using h)
theorem su_in (n : Nat) : ∀ k ∈ su n, 0 ≤ k ∧ k < 256 := fun k hk => by
  simp only [su, List.mem_cons, List.not_mem_nil, or_false] at hk
  lia
theorem News.caught {h₀ h h2 : Heap} {L : Addr} {led frs frs2 : Led} (N : News h₀ L h (led ++ frs)) (hnd : ∀ q ∈ led, TI.notDict q = true) (su : TI.SameUp frs frs2)
    (stay : ∀ q ∈ led ++ frs, TI.notDict q = true → h2.get? q.1 = some q.2) (hat : ∀ q ∈ frs2, h2.get? q.1 = some q.2) : News h₀ L h2 (led ++ frs2) := fun p hp => by
  rcases List.mem_append.mp hp with hp | hp
  · exact ⟨stay p (List.mem_append_left _ hp) (hnd p hp), (N p (List.mem_append_left _ hp)).2⟩
  · obtain ⟨x, hx, e⟩ := TI.SameUp.fwd su p hp
    refine ⟨hat p hp, ?_⟩
    rw [e]
    exact (N x (List.mem_append_right _ hx)).2
def AtRet (o : Option (Dat × Nat)) (len : Nat) (tl : Led) (r : Value) : Prop :=
  (∀ q ∈ tl, Tup q) ∧ ((o = none ∧ r = .none ∧ tl = []) ∨ ∃ d e v l t, o = some (d, e) ∧ e ≤ len ∧ r = .ref l ∧ (l, tupO [v, .int ((e : Nat) : Int) t]) ∈ tl ∧ DV tl d v)
theorem con_row_at (prog : Program) (w : World) (b : Array UInt8) (tb : Tok) (ks : List Int) (hks : KBw.bInts b = ks) (hlen : ks.length ≤ 9000) (a : Nat) (ha : a ≤ ks.length) (ta : Tok) (led : Led) :
    ConC prog w 171 [.bytes b tb, .int (a : Int) ta] 53 led (AtRet (rat ks a) ks.length) := by
  intro dp un gd env outer frs h₀ L m s p loose mean mg mb R hnd C ok
  have X := C.X
  have T := C.T
  have hd := C.hd
  have hu := C.hu
  (k_dflt (refine' enterC ?kD ?kC ?kO ?k6 ?k7 ?k9 ?kB ?kn ?c2 ?c3 ?c4 ?c5 ?_; (case kC => assumption); (case kO => assumption); (case kD => assumption); (case k6 => k_is); (case k7 => k_is); (case k9 => first | exact BindsTo.of_eq rfl | fail "defaults"); (case c5 => decide); (case kB => exact locs rfl); (case kn => first | decide | omega); (case c2 => exact rfl); (case c3 => exact rfl); (case c4 => exact rfl); k_whole))
  intro L' h₁ tk₁ frs₁ Qc Ec F N Fs Lt okc hE hE2
  have hin : ∀ k ∈ ks, 0 ≤ k ∧ k < 256 := hks ▸ fun k hk => KBw.ints_in hk
  have Fi : ∀ p ∈ frs₁, p ∈ led ++ frs₁ := fun p hp => List.mem_append_right _ hp
  (repeat' (first | ((((fail_if_success k_end); (fail_if_success (with_reducible show wpAny _ _ (exec (Stmt.While _ _ _ _) _) _ _ _)); (fail_if_success (with_reducible show wpAny _ _ (exec (Stmt.For _ _ _ _ _) _) _ _ _)))); ((first | walk1 | (dsimp only; walk1)))) | (first | ((with_reducible show Frag.In _ _ ∧ _); refine ⟨by k_in, ?_⟩; try dsimp only [List.nil_append, List.cons_append]) | ((with_reducible show KswPost _ _ _ _ _ _ _ _ _ _ _ _ _ _); dsimp only [KswPost]))))
  refine Con.use (con_read_count prog w b tb ks hks (by (exact leb hlen rfl)) a ha ta _) F N X T Fs Fi rfl rfl (by (exact ltd hd rfl)) (by (exact ltu hu rfl)) (fun r tl h' tk' F5 N6 nd hr => ?_) (fun hx e h' tk' ht hns hfr => ?_)
  · refine hold (fun Ph hPh => ?_)
    obtain ⟨count, n, l, t3, t4, hrv, rfl, hl⟩ := hr
    refine hPh ?_
    clear hPh
    have hsp := rc_spec hin hrv
    rw [show ((a : Nat) : Int) + (n : Int) = ((a + n : Nat) : Int) from rfl] at hl
    have hG : rat ks a = (if ((a + n + 4 : Nat) : Int) + count > ks.length then none
    else if (ks.drop (a + n)).take 4 ≠ su (ad ((ks.drop (a + n + 4)).take count.toNat)).toNat then none
    else match rrow ((ks.drop (a + n + 4)).take count.toNat) with
      | none => none
      | some d => some (d, a + n + 4 + count.toNat)) := by unfold rat; rw [hrv]
    rw [hG] at okc
    clear F N
    dsimp only at F5 N6 ⊢
    have N7 : News h₀ L' h' ((l, ({ cls := .type "tuple", data := .seq #[.int count t3, .int ((a + n : Nat) : Int) t4] 0 } : Obj)) :: (led ++ frs₁)) := fun p hp => N6 p (by
      rcases List.mem_cons.mp hp with rfl | hp
      · exact List.mem_append_left _ hl
      · exact List.mem_append_right _ hp)
    clear N6 hl
    generalize hspot : a + n = spot at *
    (repeat' (first | ((((fail_if_success k_end); (fail_if_success (with_reducible show wpAny _ _ (exec (Stmt.While _ _ _ _) _) _ _ _)); (fail_if_success (with_reducible show wpAny _ _ (exec (Stmt.For _ _ _ _ _) _) _ _ _)))); ((first | walk1 | (dsimp only; walk1)))) | (first | ((with_reducible show Frag.In _ _ ∧ _); refine ⟨by k_in, ?_⟩; try dsimp only [List.nil_append, List.cons_append]) | ((with_reducible show KswPost _ _ _ _ _ _ _ _ _ _ _ _ _ _); dsimp only [KswPost]))))
    · rw [if_pos (by assumption)] at okc
      dsimp only
      rename Fr _ _ _ _ => F8
      rename News _ _ _ _ => N8
      exact okc _ [] frs₁ _ _ _ F8 (TI.SameUp.refl _) (fun p hp => N8 p (.tail _ hp)) (fun _ h => nomatch h) ⟨fun _ h => (nomatch h), .inl ⟨rfl, rfl, rfl⟩⟩
    · have hbig : ¬ ((spot + 4 : Nat) : Int) + count > ks.length := by assumption
      rw [if_neg hbig] at okc
      rename KBw.bInts (KBy.picked _ _ _) = _ => hpk
      have hpk2 : KBy.picked b (some ((spot : Int) + 4)) (some ((spot : Int) + 4 + count)) = byteArr ((ks.drop (spot + 4)).take count.toNat) := by
        rw [← byteArr_bInts (KBy.picked b (some ((spot : Int) + 4)) (some ((spot : Int) + 4 + count))), hpk]
        rw [clipAt_in (by (clear hspot; lia)) (by omega), clipAt_in (by (exact n0 _)) (by omega), show ((spot : Int) + 4).toNat = spot + 4 by (exact (Int.toNat_natCast _)), show ((spot : Int) + 4 + count).toNat - (spot + 4) = count.toNat by (clear hlen hspot hsp; omega)]
      clear hpk
      rw [hpk2]
      have hoin : ∀ k ∈ (ks.drop (spot + 4)).take count.toNat, 0 ≤ k ∧ k < 256 := fun k hk => hin k (List.mem_of_mem_drop (List.mem_of_mem_take hk))
      have hol : ((ks.drop (spot + 4)).take count.toNat).length ≤ ks.length := by rw [List.length_take, List.length_drop]; (clear hspot ha hsp; omega)
      generalize hoct : (ks.drop (spot + 4)).take count.toNat = oct at *
      have hob := bInts_byteArr hoin
      refine call_bytes_bytes ?_
      (repeat' (first | ((((fail_if_success k_end); (fail_if_success (with_reducible show wpAny _ _ (exec (Stmt.While _ _ _ _) _) _ _ _)); (fail_if_success (with_reducible show wpAny _ _ (exec (Stmt.For _ _ _ _ _) _) _ _ _)))); ((first | walk1 | (dsimp only; walk1)))) | (first | ((with_reducible show Frag.In _ _ ∧ _); refine ⟨by k_in, ?_⟩; try dsimp only [List.nil_append, List.cons_append]) | ((with_reducible show KswPost _ _ _ _ _ _ _ _ _ _ _ _ _ _); dsimp only [KswPost]))))
      rename KBw.bInts (KBy.picked _ _ _) = _ => hpk
      have hpk3 : KBy.picked b (some (spot : Int)) (some ((spot : Int) + 4)) = byteArr ((ks.drop spot).take 4) := by
        rw [← byteArr_bInts (KBy.picked b (some (spot : Int)) (some ((spot : Int) + 4))), hpk]
        rw [clipAt_in (by (exact n0 _)) (by omega), Nat.min_eq_left (by (exact hsp.2.1)), show ((spot : Int) + 4).toNat - spot = 4 by lia]
      clear hpk
      rw [hpk3]
      refine call_bytes_bytes ?_
      (repeat' (first | ((((fail_if_success k_end); (fail_if_success (with_reducible show wpAny _ _ (exec (Stmt.While _ _ _ _) _) _ _ _)); (fail_if_success (with_reducible show wpAny _ _ (exec (Stmt.For _ _ _ _ _) _) _ _ _)))); ((first | walk1 | (dsimp only; walk1)))) | (first | ((with_reducible show Frag.In _ _ ∧ _); refine ⟨by k_in, ?_⟩; try dsimp only [List.nil_append, List.cons_append]) | ((with_reducible show KswPost _ _ _ _ _ _ _ _ _ _ _ _ _ _); dsimp only [KswPost]))))
      rename Fr _ _ _ _ => F8
      rename News _ _ _ _ => N8
      have Fi' : ∀ p ∈ frs₁, p ∈ ((l, ({ cls := .type "tuple", data := .seq #[.int count t3, .int (spot : Int) t4] 0 } : Obj)) :: (led ++ frs₁) : Led) := fun p hp => .tail _ (Fi p hp)
      refine Con.useV (con_adler prog w _ _ oct hob _) F8 N8 X T Fs Fi' rfl rfl (by (exact ltd hd rfl)) (by (exact ltu hu rfl)) (fun t6 h' tk' F1 N1 => ?_)
      clear F8 N8
      try dsimp only [List.nil_append] at F1 N1 ⊢
      obtain ⟨na, hna, hna2⟩ := ad_nat oct
      rw [hna] at okc ⊢
      rw [Int.toNat_natCast] at okc
      (repeat' (first | ((((fail_if_success k_end); (fail_if_success (with_reducible show wpAny _ _ (exec (Stmt.While _ _ _ _) _) _ _ _)); (fail_if_success (with_reducible show wpAny _ _ (exec (Stmt.For _ _ _ _ _) _) _ _ _)))); ((first | walk1 | (dsimp only; walk1)))) | (first | ((with_reducible show Frag.In _ _ ∧ _); refine ⟨by k_in, ?_⟩; try dsimp only [List.nil_append, List.cons_append]) | ((with_reducible show KswPost _ _ _ _ _ _ _ _ _ _ _ _ _ _); dsimp only [KswPost]))))
      refine Con.useV (con_sum_octets prog w na hna2 t6 _) F1 N1 X T Fs Fi' rfl rfl (by (exact ltd hd rfl)) (by (exact ltu hu rfl)) (fun t6 h' tk' F1 N1 => ?_)
      try dsimp only [List.nil_append] at F1 N1 ⊢
      (repeat' (first | ((((fail_if_success k_end); (fail_if_success (with_reducible show wpAny _ _ (exec (Stmt.While _ _ _ _) _) _ _ _)); (fail_if_success (with_reducible show wpAny _ _ (exec (Stmt.For _ _ _ _ _) _) _ _ _)))); ((first | walk1 | (dsimp only; walk1)))) | (first | ((with_reducible show Frag.In _ _ ∧ _); refine ⟨by k_in, ?_⟩; try dsimp only [List.nil_append, List.cons_append]) | ((with_reducible show KswPost _ _ _ _ _ _ _ _ _ _ _ _ _ _); dsimp only [KswPost]))))
      · rename (_ != _) = true => hne
        rw [if_pos (byteArr_ne hne)] at okc
        dsimp only
        rename Fr _ _ _ _ => F8
        exact okc _ [] frs₁ _ _ _ F8 (TI.SameUp.refl _) (fun p hp => N1 p (.tail _ hp)) (fun _ h => nomatch h) ⟨fun _ h => (nomatch h), .inl ⟨rfl, rfl, rfl⟩⟩
      · rename (_ != _) = false => heq
        rw [if_neg (fun z => z (byteArr_eq (fun k hk => hin k (List.mem_of_mem_drop (List.mem_of_mem_take hk))) (su_in na) heq))] at okc
        rename Fr _ _ _ _ => F8
        have N1 : News h₀ L' h' (led ++ frs₁) := fun p hp => N1 p (.tail _ hp)
        refine Con.use (con_read_row prog w _ _ oct hob (by (exact Nat.le_trans hol hlen)) _) F8 N1 X T Fs Fi rfl rfl (by (exact Nat.le_of_lt hd)) (by (exact ltu hu rfl)) (fun r tl h' tk' F1 N1 nd hr => ?_) (fun hx e h' tk' ht hns hfr => ?_)
        · obtain ⟨d, hrr, hdv⟩ := hr
          rw [hrr] at okc
          clear F8
          dsimp only at F1 N1 ⊢
          (repeat' (first | ((((fail_if_success k_end); (fail_if_success (with_reducible show wpAny _ _ (exec (Stmt.While _ _ _ _) _) _ _ _)); (fail_if_success (with_reducible show wpAny _ _ (exec (Stmt.For _ _ _ _ _) _) _ _ _)))); ((first | walk1 | (dsimp only; walk1)))) | (first | ((with_reducible show Frag.In _ _ ∧ _); refine ⟨by k_in, ?_⟩; try dsimp only [List.nil_append, List.cons_append]) | ((with_reducible show KswPost _ _ _ _ _ _ _ _ _ _ _ _ _ _); dsimp only [KswPost]))))
          rename Fr _ _ _ _ => F9
          rename News _ _ _ _ => N9
          refine okc _ (_ :: tl) frs₁ _ _ _ F9 (TI.SameUp.refl _) N9 (fun q hq => ?_) ⟨fun q hq => ?_, .inr ⟨d, spot + 4 + count.toNat, r, _, tk', rfl, by omega, rfl, ?_, DV.mono (fun q hq => .tail _ hq) hdv⟩⟩
          · rcases List.mem_cons.mp hq with rfl | hq
            · rfl
            · exact (nd q hq).2
          · rcases List.mem_cons.mp hq with rfl | hq
            · exact ⟨rfl, rfl⟩
            · exact nd q hq
          · rw [show ((spot + 4 + count.toNat : Nat) : Int) = (spot : Int) + 4 + count by lia]
            exact .head _
        · refine caught_LF ht hns hfr X T F8.above Fs (hE := hE2 e) fun h2 frs2 F2 su2 stay hat => ?_
          rw [hx] at okc
          (repeat' (first | ((((fail_if_success k_end); (fail_if_success (with_reducible show wpAny _ _ (exec (Stmt.While _ _ _ _) _) _ _ _)); (fail_if_success (with_reducible show wpAny _ _ (exec (Stmt.For _ _ _ _ _) _) _ _ _)))); ((first | walk1 | (dsimp only; walk1)))) | (first | ((with_reducible show Frag.In _ _ ∧ _); refine ⟨by k_in, ?_⟩; try dsimp only [List.nil_append, List.cons_append]) | ((with_reducible show KswPost _ _ _ _ _ _ _ _ _ _ _ _ _ _); dsimp only [KswPost]))))
          exact okc _ [] frs2 _ _ _ F2 su2 (show News h₀ L' h2 (led ++ frs2) from News.caught N1 hnd su2 stay hat) (fun _ h => nomatch h) ⟨fun _ h => (nomatch h), .inl ⟨rfl, rfl, rfl⟩⟩
  · refine caught_LF ht hns hfr X T F.above Fs (hE := hE2 e) fun h2 frs2 F2 su2 stay hat => ?_
    (repeat' (first | ((((fail_if_success k_end); (fail_if_success (with_reducible show wpAny _ _ (exec (Stmt.While _ _ _ _) _) _ _ _)); (fail_if_success (with_reducible show wpAny _ _ (exec (Stmt.For _ _ _ _ _) _) _ _ _)))); ((first | walk1 | (dsimp only; walk1)))) | (first | ((with_reducible show Frag.In _ _ ∧ _); refine ⟨by k_in, ?_⟩; try dsimp only [List.nil_append, List.cons_append]) | ((with_reducible show KswPost _ _ _ _ _ _ _ _ _ _ _ _ _ _); dsimp only [KswPost]))))
    exact okc _ [] frs2 _ _ _ F2 su2 (show News h₀ L' h2 (led ++ frs2) from News.caught N hnd su2 stay hat) (fun _ h => nomatch h) ⟨fun _ h => (nomatch h), .inl ⟨by unfold rat; rw [hx], rfl, rfl⟩⟩

end

section
theorem rat_up {ks : List Int} (hin : ∀ k ∈ ks, 0 ≤ k ∧ k < 256) {a : Nat} {d : Dat} {e : Nat} (h : rat ks a = some (d, e)) : a < e ∧ e ≤ ks.length := by
  unfold rat at h
  split at h
  · cases h
  · rename_i count n hrc
    have := rc_spec hin hrc
    split at h
    · cases h
    · split at h
      · cases h
      · split at h
        · cases h
        · cases h
          omega
def rr (ks : List Int) : Nat → Nat → List (Dat × Nat)
  | 0, _ => []
  | n + 1, a => match rat ks a with
    | none => []
    | some (d, e) => (d, e) :: rr ks n e
def al (ks : List Int) : List (Dat × Nat) := rr ks (ks.length + 1) 0
def lastEnd (es : List (Dat × Nat)) : Nat := match es.getLast? with
  | none => 0
  | some p => p.2
theorem lastEnd_snoc (es : List (Dat × Nat)) (p : Dat × Nat) : lastEnd (es ++ [p]) = p.2 := by unfold lastEnd; simp
/-- what the name found holds -/
def Found (o : Option (Dat × Nat)) (len : Nat) (tl : Led) (r : Value) : Prop :=
  (o = none ∧ r = .none) ∨ ∃ d e v l t, o = some (d, e) ∧ e ≤ len ∧ r = .ref l ∧ (l, tupO [v, .int ((e : Nat) : Int) t]) ∈ tl ∧ DV tl d v
theorem Found.mono {o : Option (Dat × Nat)} {len : Nat} {tl tl2 : Led} {r : Value} (k : ∀ q ∈ tl, q ∈ tl2) (h : Found o len tl r) : Found o len tl2 r := by
  rcases h with h | ⟨d, e, v, l, t, h1, h2, h3, h4, h5⟩
  · exact .inl h
  · exact .inr ⟨d, e, v, l, t, h1, h2, h3, k _ h4, DV.mono k h5⟩
theorem AtRet.found {o : Option (Dat × Nat)} {len : Nat} {tl : Led} {r : Value} (h : AtRet o len tl r) : (∀ q ∈ tl, Tup q) ∧ Found o len tl r := by
  refine ⟨h.1, ?_⟩
  rcases h.2 with h | h
  · exact .inl ⟨h.1, h.2.1⟩
  · exact .inr h
def RowsRet (ks : List Int) (tl : Led) (r : Value) : Prop :=
  ∃ D l t vs tla, tl = (l, tupO [.ref D, .int ((lastEnd (al ks) : Nat) : Int) t]) :: (D, lst vs) :: tla ∧ r = .ref l ∧ (∀ q ∈ tla, Tup q) ∧ DVs tla ((al ks).map (·.1)) vs
theorem con_read_rows (prog : Program) (w : World) (b : Array UInt8) (tb : Tok) (ks : List Int) (hks : KBw.bInts b = ks) (hlen : ks.length ≤ 9000) (led : Led) :
    ConC prog w 178 [.bytes b tb] 55 led (RowsRet ks) := by
  intro dp un gd env outer frs h₀ L m s p loose mean mg mb R hnd C ok
  have X := C.X
  have T := C.T
  have hd := C.hd
  have hu := C.hu
  (k_dflt (refine' enterC ?kD ?kC ?kO ?k6 ?k7 ?k9 ?kB ?kn ?c2 ?c3 ?c4 ?c5 ?_; (case kC => assumption); (case kO => assumption); (case kD => assumption); (case k6 => k_is); (case k7 => k_is); (case k9 => first | exact BindsTo.of_eq rfl | fail "defaults"); (case c5 => decide); (case kB => exact locs rfl); (case kn => first | decide | omega); (case c2 => exact rfl); (case c3 => exact rfl); (case c4 => exact rfl); k_whole))
  intro L' h₁ tk₁ frs₁ Qc Ec F N Fs Lt okc hE hE2
  have hin : ∀ k ∈ ks, 0 ≤ k ∧ k < 256 := hks ▸ fun k hk => KBw.ints_in hk
  (repeat' (first | ((((fail_if_success k_end); (fail_if_success (with_reducible show wpAny _ _ (exec (Stmt.While _ _ _ _) _) _ _ _)); (fail_if_success (with_reducible show wpAny _ _ (exec (Stmt.For _ _ _ _ _) _) _ _ _)))); ((first | walk1 | (dsimp only; walk1)))) | (first | ((with_reducible show Frag.In _ _ ∧ _); refine ⟨by k_in, ?_⟩; try dsimp only [List.nil_append, List.cons_append]) | ((with_reducible show KswPost _ _ _ _ _ _ _ _ _ _ _ _ _ _); dsimp only [KswPost]))))
  rename_i D _ l1 _ _ F1 N1
  have hndD : ∀ q ∈ ((D, lst []) :: led : Led), TI.notDict q = true := fun q hq => by
    rcases List.mem_cons.mp hq with rfl | hq
    · rfl
    · exact hnd q hq
  refine ConC.use (frs := frs₁) (con_row_at prog w b tb ks hks hlen 0 (Nat.zero_le _) _ ((D, lst []) :: led)) F1 N1 X T Fs hndD rfl rfl (by (exact Nat.le_of_lt hd)) (by (exact ltu hu rfl)) (fun r tl frs2 h' tk' F2 su2 N2 nd2 hr => ?_)
  obtain ⟨htt, hfd⟩ := hr.found
  clear F1 N1 hr nd2
  dsimp only at F2 N2 ⊢
  have N3 : News h₀ L' h' ((D, lst []) :: (tl ++ (led ++ frs2))) := fun p hp => N2 p (by
    rcases List.mem_cons.mp hp with rfl | hp
    · exact List.mem_append_right _ (.head _)
    · rcases List.mem_append.mp hp with hp | hp
      · exact List.mem_append_left _ hp
      · exact List.mem_append_right _ (.tail _ hp))
  clear N2
  (repeat' (first | ((((fail_if_success k_end); (fail_if_success (with_reducible show wpAny _ _ (exec (Stmt.While _ _ _ _) _) _ _ _)); (fail_if_success (with_reducible show wpAny _ _ (exec (Stmt.For _ _ _ _ _) _) _ _ _)))); ((first | walk1 | (dsimp only; walk1)))) | (first | ((with_reducible show Frag.In _ _ ∧ _); refine ⟨by k_in, ?_⟩; try dsimp only [List.nil_append, List.cons_append]) | ((with_reducible show KswPost _ _ _ _ _ _ _ _ _ _ _ _ _ _); dsimp only [KswPost]))))
  rename Fr _ _ _ _ => F3
  rename News _ _ _ _ => N4
  have lD : ∀ frs', TI.SameUp frs₁ frs' → ∀ p ∈ led ++ frs', p.1 ≠ D := fun frs' su p hp => by
    rcases List.mem_append.mp hp with hp | hp
    · exact Nat.ne_of_lt (l1 p (List.mem_append_left _ hp))
    · obtain ⟨x, hx, e⟩ := TI.SameUp.fwd su p hp
      rw [e]
      exact Nat.ne_of_lt (l1 x (List.mem_append_right _ hx))
  refine ksw_while (σ := Led × Nat × Tok × List (Dat × Nat) × List Value × Led × Value × Nat)
    (fun c => (D, lst c.2.2.2.2.1) :: (c.2.2.2.2.2.1 ++ (led ++ c.1)))
    (fun c => [("rows", .ref D), ("end", .int (c.2.1 : Int) c.2.2.1), ("found", c.2.2.2.2.2.2.1)])
    (fun _ => True) []
    (fun c => TI.SameUp frs₁ c.1 ∧ c.2.1 ≤ ks.length ∧ ks.length - c.2.1 < c.2.2.2.2.2.2.2 ∧ al ks = c.2.2.2.1 ++ rr ks c.2.2.2.2.2.2.2 c.2.1 ∧ DVs c.2.2.2.2.2.1 (c.2.2.2.1.map (·.1)) c.2.2.2.2.1 ∧ c.2.1 = lastEnd c.2.2.2.1 ∧ (∀ q ∈ c.2.2.2.2.2.1, Tup q)
      ∧ Found (rat ks c.2.1) ks.length c.2.2.2.2.2.1 c.2.2.2.2.2.2.1 ∧ c.2.2.2.1.length ≤ c.2.1)
    (fun c => ks.length - c.2.1) (frs2, 0, _, [], [], tl, r, ks.length + 1) F3 N4 trivial (by (((repeat' (first | exact List.forall_mem_nil _ | refine List.forall_mem_cons.mpr ⟨rfl, ?_⟩))))) ⟨su2, Nat.zero_le _, by dsimp only; (exact Nat.lt_succ_self _), rfl, .nil, rfl, htt, hfd, Nat.le_refl _⟩ ?_ hE
  refine all8 (fun frs3 e te acc ys tla fv n => ?_)
  intro u h tk _ q5 F4 N5
  have su3 := q5.1
  have hel := q5.2.1
  have hn := q5.2.2.1
  have hal := q5.2.2.2.1
  have hys := q5.2.2.2.2.1
  have hle := q5.2.2.2.2.2.1
  have htl := q5.2.2.2.2.2.2.1
  have hfo := q5.2.2.2.2.2.2.2.1
  have hac := q5.2.2.2.2.2.2.2.2
  clear q5
  dsimp only at su3 hel hn hal hys hle htl hfo hac F4 N5 ⊢
  clear F3 N4 hfd htt
  have Fs3 := TI.Frs.up Fs su3
  obtain ⟨k, hk⟩ : ∃ k, n = k + 1 := ⟨n - 1, by lia⟩
  subst hk
  rcases hfo with ⟨hno, rfl⟩ | ⟨d, e2, v, l, t5, hso, he2, rfl, hl, hdv⟩
  · rw [rr, hno, List.append_nil] at hal
    (repeat' (first | ((((fail_if_success k_end); (fail_if_success (with_reducible show wpAny _ _ (exec (Stmt.While _ _ _ _) _) _ _ _)); (fail_if_success (with_reducible show wpAny _ _ (exec (Stmt.For _ _ _ _ _) _) _ _ _)))); ((first | walk1 | (dsimp only; walk1)))) | (first | ((with_reducible show Frag.In _ _ ∧ _); refine ⟨by k_in, ?_⟩; try dsimp only [List.nil_append, List.cons_append]) | ((with_reducible show KswPost _ _ _ _ _ _ _ _ _ _ _ _ _ _); dsimp only [KswPost]))))
    rename Fr _ _ _ _ => F6
    rename News _ _ _ _ => N6
    refine okc _ (_ :: (D, lst ys) :: tla) frs3 _ _ _ F6 su3 N6 (fun q hq => ?_) ⟨D, _, te, ys, tla, ?_, rfl, htl, by rw [hal]; exact hys⟩
    · rcases List.mem_cons.mp hq with rfl | hq
      · rfl
      · rcases List.mem_cons.mp hq with rfl | hq
        · rfl
        · exact (htl q hq).2
    · rw [hal, ← hle]
  · have hup := rat_up hin hso
    rw [rr, hso] at hal
    dsimp only at hal
    have N6 : News h₀ L' h ((l, tupO [v, .int ((e2 : Nat) : Int) t5]) :: (D, lst ys) :: (tla ++ (led ++ frs3))) := fun p hp => N5 p (by
      rcases List.mem_cons.mp hp with rfl | hp
      · exact .tail _ (List.mem_append_left _ hl)
      · exact hp)
    have neD : ∀ p ∈ tla ++ (led ++ frs3), p.1 ≠ D := fun p hp => by
      rcases List.mem_append.mp hp with hp | hp
      · exact News.apart N5 (p := p) (q := (D, lst ys)) (.tail _ (List.mem_append_left _ hp)) (.head _) (by rw [(htl p hp).1]; show Value.type "tuple" ≠ Value.type "list"; decide)
      · exact lD frs3 su3 p hp
    have hyl := hys.len
    rw [List.length_map] at hyl
    (repeat' (first | ((((fail_if_success k_end); (fail_if_success (with_reducible show wpAny _ _ (exec (Stmt.While _ _ _ _) _) _ _ _)); (fail_if_success (with_reducible show wpAny _ _ (exec (Stmt.For _ _ _ _ _) _) _ _ _)))); ((first | walk1 | (dsimp only; walk1)))) | (first | ((with_reducible show Frag.In _ _ ∧ _); refine ⟨by k_in, ?_⟩; try dsimp only [List.nil_append, List.cons_append]) | ((with_reducible show KswPost _ _ _ _ _ _ _ _ _ _ _ _ _ _); dsimp only [KswPost]))))
    rename Fr _ _ _ _ => F9
    rename News _ _ _ _ => N9
    rw [show ys.length + 1 = (ys ++ [v]).length by simp] at N9
    clear F4 N5 N6
    have N10 : News h₀ L' _ ((l, tupO [v, .int ((e2 : Nat) : Int) t5]) :: (D, lst (ys ++ [v])) :: (tla ++ (led ++ frs3))) := fun p hp => N9 p (by
      rcases List.mem_cons.mp hp with rfl | hp
      · exact .tail _ (List.mem_append_left _ hl)
      · exact hp)
    clear N9
    (repeat' (first | ((((fail_if_success k_end); (fail_if_success (with_reducible show wpAny _ _ (exec (Stmt.While _ _ _ _) _) _ _ _)); (fail_if_success (with_reducible show wpAny _ _ (exec (Stmt.For _ _ _ _ _) _) _ _ _)))); ((first | walk1 | (dsimp only; walk1)))) | (first | ((with_reducible show Frag.In _ _ ∧ _); refine ⟨by k_in, ?_⟩; try dsimp only [List.nil_append, List.cons_append]) | ((with_reducible show KswPost _ _ _ _ _ _ _ _ _ _ _ _ _ _); dsimp only [KswPost]))))
    rename Fr _ _ _ _ => F11
    rename News _ _ _ _ => N11
    have hnd2 : ∀ q ∈ ((D, lst (ys ++ [v])) :: (tla ++ led) : Led), TI.notDict q = true := fun q hq => by
      rcases List.mem_cons.mp hq with rfl | hq
      · rfl
      · rcases List.mem_append.mp hq with hq | hq
        · exact (htl q hq).2
        · exact hnd q hq
    have N12 : News h₀ L' _ (((D, lst (ys ++ [v])) :: (tla ++ led)) ++ frs3) := fun p hp => N11 p (by
      rcases List.mem_append.mp hp with hp | hp
      · rcases List.mem_cons.mp hp with rfl | hp
        · exact .tail _ (.head _)
        · rcases List.mem_append.mp hp with hp | hp
          · exact .tail _ (.tail _ (List.mem_append_left _ hp))
          · exact .tail _ (.tail _ (List.mem_append_right _ (List.mem_append_left _ hp)))
      · exact .tail _ (.tail _ (List.mem_append_right _ (List.mem_append_right _ hp))))
    refine ConC.use (frs := frs3) (con_row_at prog w b tb ks hks hlen e2 he2 _ _) F11 N12 X T Fs3 hnd2 rfl rfl (by (exact Nat.le_of_lt hd)) (by (exact ltu hu rfl)) (fun r2 tl2 frs4 h' tk' F2 su4 N2 nd2 hr => ?_)
    obtain ⟨htt, hfd⟩ := hr.found
    clear F11 N11 N12
    dsimp only at F2 N2 ⊢
    have N3 : News h₀ L' h' ((D, lst (ys ++ [v])) :: ((tl2 ++ tla) ++ (led ++ frs4))) := fun p hp => N2 p (by
      rcases List.mem_cons.mp hp with rfl | hp
      · exact List.mem_append_right _ (List.mem_append_left _ (.head _))
      · rcases List.mem_append.mp hp with hp | hp
        · rcases List.mem_append.mp hp with hp | hp
          · exact List.mem_append_left _ hp
          · exact List.mem_append_right _ (List.mem_append_left _ (.tail _ (List.mem_append_left _ hp)))
        · rcases List.mem_append.mp hp with hp | hp
          · exact List.mem_append_right _ (List.mem_append_left _ (.tail _ (List.mem_append_right _ hp)))
          · exact List.mem_append_right _ (List.mem_append_right _ hp))
    clear N2
    (repeat' (first | ((((fail_if_success k_end); (fail_if_success (with_reducible show wpAny _ _ (exec (Stmt.While _ _ _ _) _) _ _ _)); (fail_if_success (with_reducible show wpAny _ _ (exec (Stmt.For _ _ _ _ _) _) _ _ _)))); ((first | walk1 | (dsimp only; walk1)))) | (first | ((with_reducible show Frag.In _ _ ∧ _); refine ⟨by k_in, ?_⟩; try dsimp only [List.nil_append, List.cons_append]) | ((with_reducible show KswPost _ _ _ _ _ _ _ _ _ _ _ _ _ _); dsimp only [KswPost]))))
    refine ksw_end (frs4, e2, _, acc ++ [(d, e2)], ys ++ [v], tl2 ++ tla, r2, k) (by k_asm) (by k_asm) (fun _ h => h) trivial (by (((repeat' (first | exact List.forall_mem_nil _ | refine List.forall_mem_cons.mpr ⟨rfl, ?_⟩))))) (by ((intro z h2 h3; simp only [List.forall_mem_cons, List.not_mem_nil, false_implies, implies_true, and_true, ne_eq] at h2; simp only [List.contains_cons, List.contains_nil, Bool.or_false, Bool.or_eq_false_iff, beq_eq_false_iff_ne, ne_eq] at h3; simp [h2, h3, kstB]))) ⟨su3.trans su4, he2, by dsimp only; (clear hel hle he2; lia), by rw [hal]; simp, ?_, (by dsimp only; exact (lastEnd_snoc acc (d, e2)).symm), fun q hq => ?_, hfd.mono fun q hq => List.mem_append_left _ hq, by dsimp only; rw [List.length_append, List.length_singleton]; (exact Nat.lt_of_le_of_lt hac hup.1)⟩ (by show ks.length - e2 < ks.length - e; (clear hel hle he2; lia))
    · dsimp only
      rw [List.map_append]
      exact (DVs.mono (fun q hq => List.mem_append_right _ hq) hys).snoc (DV.mono (fun q hq => List.mem_append_right _ hq) hdv)
    · rcases List.mem_append.mp hq with hq | hq
      · exact htt q hq
      · exact htl q hq

end

section
theorem IntsAre.snoc {ys : List Value} {ns : List Int} (h : IntsAre ys ns) (n : Int) (t : Tok) : IntsAre (ys ++ [.int n t]) (ns ++ [n]) := IntsAre.append h (.cons n t .nil)
def EndsRet (ks : List Int) (tl : Led) (r : Value) : Prop :=
  ∃ D vs tla, tl = (D, lst vs) :: tla ∧ r = .ref D ∧ (∀ q ∈ tla, Tup q) ∧ IntsAre vs ((al ks).map fun p => (p.2 : Int))
theorem con_frame_ends (prog : Program) (w : World) (b : Array UInt8) (tb : Tok) (ks : List Int) (hks : KBw.bInts b = ks) (hlen : ks.length ≤ 9000) (led : Led) :
    ConC prog w 185 [.bytes b tb] 55 led (EndsRet ks) := by
  intro dp un gd env outer frs h₀ L m s p loose mean mg mb R hnd C ok
  have X := C.X
  have T := C.T
  have hd := C.hd
  have hu := C.hu
  (k_dflt (refine' enterC ?kD ?kC ?kO ?k6 ?k7 ?k9 ?kB ?kn ?c2 ?c3 ?c4 ?c5 ?_; (case kC => assumption); (case kO => assumption); (case kD => assumption); (case k6 => k_is); (case k7 => k_is); (case k9 => first | exact BindsTo.of_eq rfl | fail "defaults"); (case c5 => decide); (case kB => exact locs rfl); (case kn => first | decide | omega); (case c2 => exact rfl); (case c3 => exact rfl); (case c4 => exact rfl); k_whole))
  intro L' h₁ tk₁ frs₁ Qc Ec F N Fs Lt okc hE hE2
  have hin : ∀ k ∈ ks, 0 ≤ k ∧ k < 256 := hks ▸ fun k hk => KBw.ints_in hk
  (repeat' (first | ((((fail_if_success k_end); (fail_if_success (with_reducible show wpAny _ _ (exec (Stmt.While _ _ _ _) _) _ _ _)); (fail_if_success (with_reducible show wpAny _ _ (exec (Stmt.For _ _ _ _ _) _) _ _ _)))); ((first | walk1 | (dsimp only; walk1)))) | (first | ((with_reducible show Frag.In _ _ ∧ _); refine ⟨by k_in, ?_⟩; try dsimp only [List.nil_append, List.cons_append]) | ((with_reducible show KswPost _ _ _ _ _ _ _ _ _ _ _ _ _ _); dsimp only [KswPost]))))
  rename_i D _ l1 _ F1 N1
  have hndD : ∀ q ∈ ((D, lst []) :: led : Led), TI.notDict q = true := fun q hq => by
    rcases List.mem_cons.mp hq with rfl | hq
    · rfl
    · exact hnd q hq
  refine ConC.use (frs := frs₁) (con_row_at prog w b tb ks hks hlen 0 (Nat.zero_le _) _ ((D, lst []) :: led)) F1 N1 X T Fs hndD rfl rfl (by (exact Nat.le_of_lt hd)) (by (exact ltu hu rfl)) (fun r tl frs2 h' tk' F2 su2 N2 nd2 hr => ?_)
  obtain ⟨htt, hfd⟩ := hr.found
  clear F1 N1 hr nd2
  dsimp only at F2 N2 ⊢
  have N3 : News h₀ L' h' ((D, lst []) :: (tl ++ (led ++ frs2))) := fun p hp => N2 p (by
    rcases List.mem_cons.mp hp with rfl | hp
    · exact List.mem_append_right _ (.head _)
    · rcases List.mem_append.mp hp with hp | hp
      · exact List.mem_append_left _ hp
      · exact List.mem_append_right _ (.tail _ hp))
  clear N2
  (repeat' (first | ((((fail_if_success k_end); (fail_if_success (with_reducible show wpAny _ _ (exec (Stmt.While _ _ _ _) _) _ _ _)); (fail_if_success (with_reducible show wpAny _ _ (exec (Stmt.For _ _ _ _ _) _) _ _ _)))); ((first | walk1 | (dsimp only; walk1)))) | (first | ((with_reducible show Frag.In _ _ ∧ _); refine ⟨by k_in, ?_⟩; try dsimp only [List.nil_append, List.cons_append]) | ((with_reducible show KswPost _ _ _ _ _ _ _ _ _ _ _ _ _ _); dsimp only [KswPost]))))
  rename Fr _ _ _ _ => F3
  rename News _ _ _ _ => N4
  have lD : ∀ frs', TI.SameUp frs₁ frs' → ∀ p ∈ led ++ frs', p.1 ≠ D := fun frs' su p hp => by
    rcases List.mem_append.mp hp with hp | hp
    · exact Nat.ne_of_lt (l1 p (List.mem_append_left _ hp))
    · obtain ⟨x, hx, e⟩ := TI.SameUp.fwd su p hp
      rw [e]
      exact Nat.ne_of_lt (l1 x (List.mem_append_right _ hx))
  refine ksw_while (σ := Led × Nat × List (Dat × Nat) × List Value × Led × Value × Nat)
    (fun c => (D, lst c.2.2.2.1) :: (c.2.2.2.2.1 ++ (led ++ c.1)))
    (fun c => [("found", .ref D), ("here", c.2.2.2.2.2.1)])
    (fun _ => True) []
    (fun c => TI.SameUp frs₁ c.1 ∧ c.2.1 ≤ ks.length ∧ ks.length - c.2.1 < c.2.2.2.2.2.2 ∧ al ks = c.2.2.1 ++ rr ks c.2.2.2.2.2.2 c.2.1 ∧ IntsAre c.2.2.2.1 (c.2.2.1.map fun p => (p.2 : Int)) ∧ (∀ q ∈ c.2.2.2.2.1, Tup q)
      ∧ Found (rat ks c.2.1) ks.length c.2.2.2.2.1 c.2.2.2.2.2.1 ∧ c.2.2.1.length ≤ c.2.1)
    (fun c => ks.length - c.2.1) (frs2, 0, [], [], tl, r, ks.length + 1) F3 N4 trivial (by (((repeat' (first | exact List.forall_mem_nil _ | refine List.forall_mem_cons.mpr ⟨rfl, ?_⟩))))) ⟨su2, Nat.zero_le _, by dsimp only; (exact Nat.lt_succ_self _), rfl, .nil, htt, hfd, Nat.le_refl _⟩ ?_ hE
  refine all7 (fun frs3 e acc ys tla fv n => ?_)
  intro u h tk _ q5 F4 N5
  have su3 := q5.1
  have hel := q5.2.1
  have hn := q5.2.2.1
  have hal := q5.2.2.2.1
  have hys := q5.2.2.2.2.1
  have htl := q5.2.2.2.2.2.1
  have hfo := q5.2.2.2.2.2.2.1
  have hac := q5.2.2.2.2.2.2.2
  clear q5
  dsimp only at su3 hel hn hal hys htl hfo hac F4 N5 ⊢
  clear F3 N4 hfd htt
  have Fs3 := TI.Frs.up Fs su3
  obtain ⟨k, hk⟩ : ∃ k, n = k + 1 := ⟨n - 1, by lia⟩
  subst hk
  rcases hfo with ⟨hno, rfl⟩ | ⟨d, e2, v, l, t5, hso, he2, rfl, hl, hdv⟩
  · rw [rr, hno, List.append_nil] at hal
    (repeat' (first | ((((fail_if_success k_end); (fail_if_success (with_reducible show wpAny _ _ (exec (Stmt.While _ _ _ _) _) _ _ _)); (fail_if_success (with_reducible show wpAny _ _ (exec (Stmt.For _ _ _ _ _) _) _ _ _)))); ((first | walk1 | (dsimp only; walk1)))) | (first | ((with_reducible show Frag.In _ _ ∧ _); refine ⟨by k_in, ?_⟩; try dsimp only [List.nil_append, List.cons_append]) | ((with_reducible show KswPost _ _ _ _ _ _ _ _ _ _ _ _ _ _); dsimp only [KswPost]))))
    refine okc _ ((D, lst ys) :: tla) frs3 _ _ _ (by k_asm) su3 (by k_asm) (fun q hq => ?_) ⟨D, ys, tla, rfl, rfl, htl, by rw [hal]; exact hys⟩
    rcases List.mem_cons.mp hq with rfl | hq
    · rfl
    · exact (htl q hq).2
  · have hup := rat_up hin hso
    rw [rr, hso] at hal
    dsimp only at hal
    have N6 : News h₀ L' h ((l, tupO [v, Value.int ((e2 : Nat) : Int) t5]) :: (D, lst ys) :: (tla ++ (led ++ frs3))) := fun p hp => N5 p (by
      rcases List.mem_cons.mp hp with rfl | hp
      · exact .tail _ (List.mem_append_left _ hl)
      · exact hp)
    have neD : ∀ p ∈ tla ++ (led ++ frs3), p.1 ≠ D := fun p hp => by
      rcases List.mem_append.mp hp with hp | hp
      · exact News.apart N5 (p := p) (q := (D, lst ys)) (.tail _ (List.mem_append_left _ hp)) (.head _) (by rw [(htl p hp).1]; show Value.type "tuple" ≠ Value.type "list"; decide)
      · exact lD frs3 su3 p hp
    have hyl := hys.length
    rw [List.length_map] at hyl
    (repeat' (first | ((((fail_if_success k_end); (fail_if_success (with_reducible show wpAny _ _ (exec (Stmt.While _ _ _ _) _) _ _ _)); (fail_if_success (with_reducible show wpAny _ _ (exec (Stmt.For _ _ _ _ _) _) _ _ _)))); ((first | walk1 | (dsimp only; walk1)))) | (first | ((with_reducible show Frag.In _ _ ∧ _); refine ⟨by k_in, ?_⟩; try dsimp only [List.nil_append, List.cons_append]) | ((with_reducible show KswPost _ _ _ _ _ _ _ _ _ _ _ _ _ _); dsimp only [KswPost]))))
    rename Fr _ _ _ _ => F9
    rename News _ _ _ _ => N9
    rw [show ys.length + 1 = (ys ++ [Value.int ((e2 : Nat) : Int) t5]).length by simp] at N9
    clear F4 N5 N6
    have N10 : News h₀ L' _ ((l, tupO [v, Value.int ((e2 : Nat) : Int) t5]) :: (D, lst (ys ++ [Value.int ((e2 : Nat) : Int) t5])) :: (tla ++ (led ++ frs3))) := fun p hp => N9 p (by
      rcases List.mem_cons.mp hp with rfl | hp
      · exact .tail _ (List.mem_append_left _ hl)
      · exact hp)
    clear N9
    (repeat' (first | ((((fail_if_success k_end); (fail_if_success (with_reducible show wpAny _ _ (exec (Stmt.While _ _ _ _) _) _ _ _)); (fail_if_success (with_reducible show wpAny _ _ (exec (Stmt.For _ _ _ _ _) _) _ _ _)))); ((first | walk1 | (dsimp only; walk1)))) | (first | ((with_reducible show Frag.In _ _ ∧ _); refine ⟨by k_in, ?_⟩; try dsimp only [List.nil_append, List.cons_append]) | ((with_reducible show KswPost _ _ _ _ _ _ _ _ _ _ _ _ _ _); dsimp only [KswPost]))))
    have hnd2 : ∀ q ∈ ((D, lst (ys ++ [Value.int ((e2 : Nat) : Int) t5])) :: (tla ++ led) : Led), TI.notDict q = true := fun q hq => by
      rcases List.mem_cons.mp hq with rfl | hq
      · rfl
      · rcases List.mem_append.mp hq with hq | hq
        · exact (htl q hq).2
        · exact hnd q hq
    have N12 : News h₀ L' _ (((D, lst (ys ++ [Value.int ((e2 : Nat) : Int) t5])) :: (tla ++ led)) ++ frs3) := fun p hp => N10 p (by
      rcases List.mem_append.mp hp with hp | hp
      · rcases List.mem_cons.mp hp with rfl | hp
        · exact .tail _ (.head _)
        · rcases List.mem_append.mp hp with hp | hp
          · exact .tail _ (.tail _ (List.mem_append_left _ hp))
          · exact .tail _ (.tail _ (List.mem_append_right _ (List.mem_append_left _ hp)))
      · exact .tail _ (.tail _ (List.mem_append_right _ (List.mem_append_right _ hp))))
    refine ConC.use (frs := frs3) (con_row_at prog w b tb ks hks hlen e2 he2 _ _) F9 N12 X T Fs3 hnd2 rfl rfl (by (exact Nat.le_of_lt hd)) (by (exact ltu hu rfl)) (fun r2 tl2 frs4 h' tk' F2 su4 N2 nd2 hr => ?_)
    obtain ⟨htt, hfd⟩ := hr.found
    clear F9 N12 N10
    dsimp only at F2 N2 ⊢
    have N3 : News h₀ L' h' ((D, lst (ys ++ [Value.int ((e2 : Nat) : Int) t5])) :: ((tl2 ++ tla) ++ (led ++ frs4))) := fun p hp => N2 p (by
      rcases List.mem_cons.mp hp with rfl | hp
      · exact List.mem_append_right _ (List.mem_append_left _ (.head _))
      · rcases List.mem_append.mp hp with hp | hp
        · rcases List.mem_append.mp hp with hp | hp
          · exact List.mem_append_left _ hp
          · exact List.mem_append_right _ (List.mem_append_left _ (.tail _ (List.mem_append_left _ hp)))
        · rcases List.mem_append.mp hp with hp | hp
          · exact List.mem_append_right _ (List.mem_append_left _ (.tail _ (List.mem_append_right _ hp)))
          · exact List.mem_append_right _ (List.mem_append_right _ hp))
    clear N2
    (repeat' (first | ((((fail_if_success k_end); (fail_if_success (with_reducible show wpAny _ _ (exec (Stmt.While _ _ _ _) _) _ _ _)); (fail_if_success (with_reducible show wpAny _ _ (exec (Stmt.For _ _ _ _ _) _) _ _ _)))); ((first | walk1 | (dsimp only; walk1)))) | (first | ((with_reducible show Frag.In _ _ ∧ _); refine ⟨by k_in, ?_⟩; try dsimp only [List.nil_append, List.cons_append]) | ((with_reducible show KswPost _ _ _ _ _ _ _ _ _ _ _ _ _ _); dsimp only [KswPost]))))
    refine ksw_end (frs4, e2, acc ++ [(d, e2)], ys ++ [Value.int ((e2 : Nat) : Int) t5], tl2 ++ tla, r2, k) (by k_asm) (by k_asm) (fun _ h => h) trivial (by (((repeat' (first | exact List.forall_mem_nil _ | refine List.forall_mem_cons.mpr ⟨rfl, ?_⟩))))) (by ((intro z h2 h3; simp only [List.forall_mem_cons, List.not_mem_nil, false_implies, implies_true, and_true, ne_eq] at h2; simp only [List.contains_cons, List.contains_nil, Bool.or_false, Bool.or_eq_false_iff, beq_eq_false_iff_ne, ne_eq] at h3; simp [h2, h3, kstB]))) ⟨su3.trans su4, he2, by dsimp only; (clear hel he2; lia), by rw [hal]; simp, ?_, fun q hq => ?_, hfd.mono fun q hq => List.mem_append_left _ hq, by dsimp only; rw [List.length_append, List.length_singleton]; (exact Nat.lt_of_le_of_lt hac hup.1)⟩ (by show ks.length - e2 < ks.length - e; (clear he2; lia))
    · dsimp only
      rw [List.map_append]
      exact IntsAre.snoc hys _ _
    · rcases List.mem_append.mp hq with hq | hq
      · exact htt q hq
      · exact htl q hq

end

section
theorem con_is_torn (prog : Program) (w : World) (b : Array UInt8) (tb : Tok) (ks : List Int) (hks : KBw.bInts b = ks) (hlen : ks.length ≤ 9000) (led : Led) :
    ConC prog w 192 [.bytes b tb] 57 led (fun tl r => r = .bool (decide (lastEnd (al ks) < ks.length))) := by
  intro dp un gd env outer frs h₀ L m s p loose mean mg mb R hnd C ok
  have X := C.X
  have T := C.T
  have hd := C.hd
  have hu := C.hu
  (k_dflt (refine' enterC ?kD ?kC ?kO ?k6 ?k7 ?k9 ?kB ?kn ?c2 ?c3 ?c4 ?c5 ?_; (case kC => assumption); (case kO => assumption); (case kD => assumption); (case k6 => k_is); (case k7 => k_is); (case k9 => first | exact BindsTo.of_eq rfl | fail "defaults"); (case c5 => decide); (case kB => exact locs rfl); (case kn => first | decide | omega); (case c2 => exact rfl); (case c3 => exact rfl); (case c4 => exact rfl); k_whole))
  intro L' h₁ tk₁ frs₁ Qc Ec F N Fs Lt okc hE hE2
  (repeat' (first | ((((fail_if_success k_end); (fail_if_success (with_reducible show wpAny _ _ (exec (Stmt.While _ _ _ _) _) _ _ _)); (fail_if_success (with_reducible show wpAny _ _ (exec (Stmt.For _ _ _ _ _) _) _ _ _)))); ((first | walk1 | (dsimp only; walk1)))) | (first | ((with_reducible show Frag.In _ _ ∧ _); refine ⟨by k_in, ?_⟩; try dsimp only [List.nil_append, List.cons_append]) | ((with_reducible show KswPost _ _ _ _ _ _ _ _ _ _ _ _ _ _); dsimp only [KswPost]))))
  refine ConC.use (frs := frs₁) (con_read_rows prog w b tb ks hks hlen led) F N X T Fs hnd rfl rfl (by (exact Nat.le_of_lt hd)) (by (exact ltu hu rfl)) (fun r tl frs2 h' tk' F2 su2 N2 nd2 hr => ?_)
  refine hold (fun Ph hPh => ?_)
  obtain ⟨D, l, t, vs, tla, rfl, rfl, htt, hdv⟩ := hr
  refine hPh ?_
  clear hPh
  clear F N
  dsimp only at F2 N2 ⊢
  (repeat' (first | ((((fail_if_success k_end); (fail_if_success (with_reducible show wpAny _ _ (exec (Stmt.While _ _ _ _) _) _ _ _)); (fail_if_success (with_reducible show wpAny _ _ (exec (Stmt.For _ _ _ _ _) _) _ _ _)))); ((first | walk1 | (dsimp only; walk1)))) | (first | ((with_reducible show Frag.In _ _ ∧ _); refine ⟨by k_in, ?_⟩; try dsimp only [List.nil_append, List.cons_append]) | ((with_reducible show KswPost _ _ _ _ _ _ _ _ _ _ _ _ _ _); dsimp only [KswPost]))))
  rename Fr _ _ _ _ => F3
  refine okc _ (_ :: _ :: tla) frs2 _ _ _ F3 su2 N2 nd2 (congrArg Value.bool (decide_eq_decide.mpr ⟨fun h => by (exact Int.ofNat_lt.mp h), fun h => by (exact Int.ofNat_lt.mpr h)⟩))

end

section
open _root_.PySem.SeqAt
theorem eq_bytesAt {A : Around} {s : Shared} (b : Array UInt8) (t u : Tok) : EqAt A s (.bytes b t) (.bytes b u) true := fun prog w E Q hq => by
  unfold eqBool
  refine wpAny_holding ?_
  refine wpAny_ite_split (fun hab => wpAny_bind (wpAny_rule (wpAny_pure hq))) (fun _ => ?_)
  refine wpAny_bind (eq_bytes (b := b) (c := b) (t := t) (u := u) (prog := prog) (w := w) (A := A) (E := E) (s := s) ?_)
  exact wpAny_truthy_bool (by rw [beq_self_eq_true]; exact hq)
theorem all_true (n : Nat) : (List.range n).all (fun _ => true) = true := by simp
theorem dvEq {led : Led} {s : Shared} (hl : ∀ q ∈ led, s.heap.get? q.1 = some q.2) : ∀ (Z : Nat) (d : Dat), sizeOf d ≤ Z → ∀ (v1 v2 : Value), DV led d v1 → DV led d v2 → ∀ (A : Around), A.units + nd d < cLine → EqAt A s v1 v2 true := by
  intro Z
  induction Z with
  | zero => intro d h; cases d <;> simp at h
  | succ Z ih =>
    intro d hsz v1 v2 h1 h2 A hu
    cases h1 with
    | int n t => cases h2 with | int _ u => have := EqAt.int_int (A := A) (s := s) n t n u; rwa [beq_self_eq_true] at this
    | text x t => cases h2 with | text _ u => have := EqAt.str_str (A := A) (s := s) x t x u; rwa [beq_self_eq_true] at this
    | octets ks t => cases h2 with | octets _ u => exact eq_bytesAt _ _ _
    | @row a vs ds hm hvs =>
      cases h2 with
      | @row b ws _ hm2 hws =>
        by_cases hab : a = b
        · subst hab; exact EqAt.same _
        · refine EqAt.of_refs hab ?_
          have := RcAt.tuples (A := A) (s := s) (e := fun _ => true) (l := a) (b := b) (items := vs.toArray) (items2 := ws.toArray) ⟨_, hl _ hm, rfl, _, rfl⟩ ⟨_, hl _ hm2, rfl, _, rfl⟩ (by (exact ltz hu)) (fun j g1 g2 => ?_)
          · rw [all_true, List.size_toArray, List.size_toArray, hvs.len, hws.len, beq_self_eq_true] at this
            exact this
          · rw [List.size_toArray] at g1 g2
            obtain ⟨d1, e1, k1⟩ := hvs.at (i := j) (v := vs[j]) (by simp [g1])
            obtain ⟨d2, e2, k2⟩ := hws.at (i := j) (v := ws[j]) (by simp [g2])
            rw [e1] at e2
            cases e2
            have hmem : d1 ∈ ds := List.mem_of_getElem? e1
            have hsz1 := List.sizeOf_lt_of_mem hmem
            have hn1 := nds_mem hmem
            rw [nd] at hu
            simp only [List.getElem_toArray]
            exact ih d1 (by have := Dat.row.sizeOf_spec ds; lia) _ _ k1 k2 A.in1 (by show A.units + 1 + nd d1 < cLine; lia)
/-- two lists of the same data -/
theorem listsEq {led : Led} {s : Shared} (hl : ∀ q ∈ led, s.heap.get? q.1 = some q.2) {D E : Addr} {vs ws : List Value} {ds : List Dat} {k1 k2 : Nat} {o1 o2 : Obj}
    (h1 : s.heap.IsList D vs.toArray) (h2 : s.heap.IsList E ws.toArray) (x1 : DVs led ds vs) (x2 : DVs led ds ws) {A : Around} (hu : A.units + 1 + nds ds < cLine) :
    (∀ j (g1 : j < vs.toArray.size) (g2 : j < ws.toArray.size), EqAt A.in1 s vs.toArray[j] ws.toArray[j] true) := by
  intro j g1 g2
  rw [List.size_toArray] at g1 g2
  obtain ⟨d1, e1, k1⟩ := x1.at (i := j) (v := vs[j]) (by simp [g1])
  obtain ⟨d2, e2, k2⟩ := x2.at (i := j) (v := ws[j]) (by simp [g2])
  rw [e1] at e2
  cases e2
  have hmem : d1 ∈ ds := List.mem_of_getElem? e1
  have hn1 := nds_mem hmem
  simp only [List.getElem_toArray]
  exact dvEq hl (sizeOf d1) d1 (Nat.le_refl _) _ _ k1 k2 A.in1 (by show A.units + 1 + nd d1 < cLine; lia)
theorem rcLists {led : Led} {s : Shared} (hl : ∀ q ∈ led, s.heap.get? q.1 = some q.2) {D E : Addr} {vs ws : List Value} {ds : List Dat}
    (h1 : s.heap.IsList D vs.toArray) (h2 : s.heap.IsList E ws.toArray) (x1 : DVs led ds vs) (x2 : DVs led ds ws) {A : Around} (hu : A.units + 1 + nds ds < cLine) : RcAt A s (.ref D) (.ref E) true := by
  have := RcAt.lists (e := fun _ => true) h1 h2 (by rw [List.size_toArray, List.size_toArray, x1.len, x2.len]) (by lia) (listsEq (k1 := 0) (k2 := 0) (o1 := tupO []) (o2 := tupO []) hl h1 h2 x1 x2 hu)
  rwa [all_true] at this
theorem eqLists {led : Led} {s : Shared} (hl : ∀ q ∈ led, s.heap.get? q.1 = some q.2) {D E : Addr} {vs ws : List Value} {ds : List Dat}
    (h1 : s.heap.IsList D vs.toArray) (h2 : s.heap.IsList E ws.toArray) (x1 : DVs led ds vs) (x2 : DVs led ds ws) {A : Around} (hu : A.units + 1 + nds ds < cLine) : EqAt A s (.ref D) (.ref E) true := by
  by_cases hab : D = E
  · subst hab; exact EqAt.same _
  · exact EqAt.of_refs hab (rcLists hl h1 h2 x1 x2 hu)
/-- two pairs of a list of rows and an int -/
theorem nePairs {led : Led} {s : Shared} (hl : ∀ q ∈ led, s.heap.get? q.1 = some q.2) {a b D E : Addr} {vs ws : List Value} {ds : List Dat} {n : Int} {t u : Tok}
    (ha : s.heap.IsTuple a #[.ref D, .int n t]) (hb : s.heap.IsTuple b #[.ref E, .int n u])
    (h1 : s.heap.IsList D vs.toArray) (h2 : s.heap.IsList E ws.toArray) (x1 : DVs led ds vs) (x2 : DVs led ds ws) {A : Around} (hu : A.units + 2 + nds ds < cLine) : RcNeAt A s (.ref a) (.ref b) false := by
  have := RcNeAt.tuples (A := A) (e := fun _ => true) ha hb (by lia) (fun j g1 g2 => ?_)
  · exact this
  · have g1' : j < 2 := g1
    obtain rfl | rfl : j = 0 ∨ j = 1 := by lia
    · exact eqLists hl h1 h2 x1 x2 (A := A.in1) (by show A.units + 1 + 1 + nds ds < cLine; omega)
    · have := EqAt.int_int (A := A.in1) (s := s) n t n u
      rw [beq_self_eq_true] at this
      exact this
section
variable {prog : Program} {w : World} {A : Around} {E₁ : Value → Shared → Prop} {s : Shared} {Q : Value → Shared → Prop}
theorem ne_pairs_walk {led : Led} (hl : ∀ q ∈ led, s.heap.get? q.1 = some q.2) {a b D E : Addr} {vs ws : List Value} {ds : List Dat} {n : Int} {t u : Tok}
    (ha : (a, tupO [.ref D, .int n t]) ∈ led) (hb : (b, tupO [.ref E, .int n u]) ∈ led) (h1 : (D, lst vs) ∈ led) (h2 : (E, lst ws) ∈ led) (x1 : DVs led ds vs) (x2 : DVs led ds ws) (hu : A.units + 2 + nds ds < cLine)
    (h : Q (.bool false) s) : wpAny (model prog w) A (compareOp .NotEq (.ref a) (.ref b)) Q E₁ s :=
  nePairs hl ⟨_, hl _ ha, rfl, _, rfl⟩ ⟨_, hl _ hb, rfl, _, rfl⟩ ⟨_, hl _ h1, rfl, _, rfl⟩ ⟨_, hl _ h2, rfl, _, rfl⟩ x1 x2 hu prog w E₁ Q h
theorem eq_lists_walk {led : Led} (hl : ∀ q ∈ led, s.heap.get? q.1 = some q.2) {D E : Addr} {vs ws : List Value} {ds : List Dat}
    (h1 : (D, lst vs) ∈ led) (h2 : (E, lst ws) ∈ led) (x1 : DVs led ds vs) (x2 : DVs led ds ws) (hu : A.units + 1 + nds ds < cLine)
    (h : Q (.bool true) s) : wpAny (model prog w) A (compareOp .Eq (.ref D) (.ref E)) Q E₁ s :=
  rcLists hl ⟨_, hl _ h1, rfl, _, rfl⟩ ⟨_, hl _ h2, rfl, _, rfl⟩ x1 x2 hu prog w E₁ Q h
end
end

section
def GoodRow (d : Dat) : Prop := isRow d = true ∧ fit d ∧ nd d ≤ 12 ∧ (vo d).length ≤ 200

theorem rcA_co : ∀ (n : Nat) (num w : Int) (c : Nat) (rest : List Int), (n ≠ 0 ∨ c = 0) → rcA (co n ++ rest) num w c = some (num + n * w, c + (co n).length) := by
  intro n
  induction n using Nat.strongRecOn with
  | ind n ih =>
    intro num w c rest h
    by_cases hn : n > 127
    · rw [co_gt hn, List.cons_append, rcA, if_pos (by lia), ih (n / 128) (by lia) _ _ _ _ (.inl (by lia)), List.length_cons]
      have e : num + (128 + (n : Int) % 128 - 128) * w + ((n / 128 : Nat) : Int) * (w * 128) = num + n * w := by
        have e2 : (n : Int) = (n : Int) % 128 + ((n / 128 : Nat) : Int) * 128 := by lia
        have e3 : (n : Int) * w = ((n : Int) % 128) * w + ((n / 128 : Nat) : Int) * (w * 128) := by
          conv => lhs; rw [e2]
          rw [Int.add_mul, Int.mul_assoc, Int.mul_comm 128 w]
        rw [e3, show 128 + (n : Int) % 128 - 128 = (n : Int) % 128 by (simp +arith)]
        (exact Int.add_assoc _ _ _)
      rw [e, show c + 1 + (co (n / 128)).length = c + ((co (n / 128)).length + 1) by (exact Nat.succ_add _ _)]
    · rw [co_le (by (exact Nat.not_lt.mp hn)), List.cons_append, rcA, if_neg (by omega), if_neg (by lia)]
      rfl
theorem rc_co (n : Nat) (rest : List Int) : rc (co n ++ rest) = some ((n : Int), (co n).length) := by
  unfold rc
  rw [rcA_co n 0 1 0 rest (.inr rfl)]
  simp
theorem rcA_cut : ∀ (n : Nat) (num w : Int) (c r : Nat), r < (co n).length → rcA ((co n).take r) num w c = none := by
  intro n
  induction n using Nat.strongRecOn with
  | ind n ih =>
    intro num w c r h
    cases r with
    | zero => rfl
    | succ r =>
      by_cases hn : n > 127
      · rw [co_gt hn, List.length_cons] at h
        rw [co_gt hn, List.take_succ_cons, rcA, if_pos (by lia)]
        exact ih (n / 128) (by lia) _ _ _ _ (by (exact Nat.le_of_lt_succ h))
      · rw [co_le (by (exact Nat.not_lt.mp hn)), List.length_singleton] at h
        lia
theorem co_pos (n : Nat) : 0 < (co n).length := by
  by_cases hn : n > 127
  · rw [co_gt hn, List.length_cons]; (exact Nat.succ_pos _)
  · rw [co_le (by (exact Nat.not_lt.mp hn))]; exact Nat.zero_lt_one
theorem vo_pos (d : Dat) : 0 < (vo d).length := by
  cases d <;> rw [vo, List.length_cons] <;> (first | exact Nat.succ_pos _ | omega)
theorem vos_pos : ∀ ds : List Dat, ds.length ≤ (vos ds).length
  | [] => Nat.zero_le _
  | d :: ds => by
    rw [vos, List.length_append, List.length_cons]
    have := vos_pos ds
    have := vo_pos d
    lia
theorem flat_pos : ∀ cs : List Nat, cs.length ≤ (cs.flatMap co).length
  | [] => Nat.zero_le _
  | c :: cs => by
    rw [List.flatMap_cons, List.length_append, List.length_cons]
    have := flat_pos cs
    have := co_pos c
    lia
theorem drop_len {ks xs post : List Int} {a : Nat} (h : ks.drop a = xs ++ post) (ha : a ≤ ks.length) : ks.length = a + xs.length + post.length := by
  have := congrArg List.length h
  rw [List.length_drop, List.length_append] at this
  omega
theorem drop_more {ks xs ys : List Int} {a : Nat} (h : ks.drop a = xs ++ ys) : ks.drop (a + xs.length) = ys := by
  rw [← List.drop_drop, h, List.drop_left]
theorem drop_head {ks ys : List Int} {a : Nat} {k : Int} (h : ks.drop a = k :: ys) : a < ks.length ∧ ks.getD a 0 = k ∧ ks.drop (a + 1) = ys := by
  have hl : a < ks.length := by
    rcases Nat.lt_or_ge a ks.length with h' | h'
    · exact h'
    · rw [List.drop_eq_nil_of_le h'] at h; cases h
  rw [drop_get hl] at h
  injection h with h1 h2
  exact ⟨hl, h1, h2⟩
theorem rt_codes {ks : List Int} : ∀ (cs : List Nat) (a : Nat) (acc : List Nat) (post : List Int), (∀ c ∈ cs, c ≤ 120) → ks.drop a = cs.flatMap co ++ post → rt ks cs.length a acc = some (acc ++ cs, a + (cs.flatMap co).length)
  | [], a, acc, post, _, _ => by simp [rt]
  | c :: cs, a, acc, post, hc, h => by
    rw [List.flatMap_cons, List.append_assoc] at h
    have hc1 := hc c (.head _)
    rw [List.length_cons, rt, h, rc_co]
    dsimp only
    rw [if_neg (by lia), rt_codes cs (a + (co c).length) _ post (fun d hd => hc d (.tail _ hd)) (drop_more h)]
    simp only [Int.toNat_natCast, List.append_assoc, List.singleton_append, List.flatMap_cons, List.length_append]
    congr 2
    (exact Nat.add_assoc _ _ _)
theorem turns_all {n len a : Nat} (h : a + n ≤ len) : turns (n : Int) len a = n := by
  unfold turns
  lia
theorem pn_folded (n : Int) : pn ((folded n).toNat : Int) = n := by
  unfold folded pn
  split <;> split <;> (first | lia | omega)
theorem rv_vo : ∀ (Z : Nat) (d : Dat), sizeOf d ≤ Z → fit d → ∀ (f : Nat), nd d ≤ 8 + f → ∀ (ks : List Int) (a : Nat) (post : List Int), a ≤ ks.length → ks.drop a = vo d ++ post → rv ks f a = some (d, a + (vo d).length) := by
  intro Z
  induction Z with
  | zero => intro d h; cases d <;> simp at h
  | succ Z ih =>
  intro d hsz hfit f hf ks a post ha h
  have hlen := drop_len h ha
  rw [rv_eq]
  unfold rvG
  cases d with
  | int n =>
    rw [vo, List.cons_append] at h
    obtain ⟨h1, h2, h3⟩ := drop_head h
    rw [if_neg (by (clear hlen; lia)), h2, if_pos (.inl rfl), h3, rc_co]
    dsimp only
    rw [if_pos rfl, pn_folded, vo, List.length_cons]
    congr 2
    (exact Nat.succ_add _ _)
  | text x =>
    obtain ⟨⟨cs⟩⟩ := x
    rw [fit] at hfit
    rw [vo, List.cons_append, List.append_assoc] at h
    rw [vo, List.length_cons, List.length_append] at hlen
    simp only [List.size_toArray] at h hlen hfit
    obtain ⟨h1, h2, h3⟩ := drop_head h
    have h4 := drop_more h3
    have hp := flat_pos cs
    rw [if_neg (by (clear hlen; lia)), h2, if_pos (.inr (.inl rfl)), h3, rc_co]
    dsimp only
    rw [if_neg (by decide), if_pos rfl]
    unfold rtext
    rw [turns_all (n := cs.length) (len := ks.length) (a := a + 1 + (co cs.length).length) (by lia), rt_codes _ _ _ post hfit.1 h4, vo, List.length_cons, List.length_append]
    simp only [Option.map_some, List.nil_append, List.size_toArray]
    congr 2
    (simp +arith)
  | octets os =>
    rw [vo, List.cons_append, List.append_assoc] at h
    obtain ⟨h1, h2, h3⟩ := drop_head h
    have h4 := drop_more h3
    rw [vo, List.length_cons, List.length_append] at hlen
    rw [if_neg (by (clear hlen; lia)), h2, if_pos (.inr (.inr (.inl rfl))), h3, rc_co]
    dsimp only
    rw [if_neg (by decide), if_neg (by decide), if_neg (by decide), if_neg (by lia), h4, Int.toNat_natCast, List.take_left, vo, List.length_cons, List.length_append]
    congr 2
    (simp +arith)
  | row ds =>
    rw [fit] at hfit
    rw [vo, List.cons_append, List.append_assoc] at h
    obtain ⟨h1, h2, h3⟩ := drop_head h
    have h4 := drop_more h3
    rw [vo, List.length_cons, List.length_append] at hlen
    have hp := vos_pos ds
    have hn8 := nds_ge ds
    rw [nd] at hf
    obtain ⟨g, rfl⟩ : ∃ g, f = g + 1 := ⟨f - 1, by lia⟩
    have main : ∀ (es : List Dat) (b : Nat) (acc : List Dat), (∀ e ∈ es, e ∈ ds) → b ≤ ks.length → ks.drop b = vos es ++ post → rs (rv ks g) es.length b acc = some (acc ++ es, b + (vos es).length) := by
      intro es
      induction es with
      | nil => intro b acc _ _ _; simp [rs, vos]
      | cons e es ihe =>
        intro b acc hm hb hd
        rw [vos, List.append_assoc] at hd
        have hme := hm e (.head _)
        have hsz1 := List.sizeOf_lt_of_mem hme
        have hn1 := nds_mem hme
        have hl1 := drop_len hd hb
        rw [List.length_append] at hl1
        rw [List.length_cons, rs, ih e (by have := Dat.row.sizeOf_spec ds; lia) (fits_mem hfit.2 hme) g (by lia) ks b _ hb hd]
        dsimp only
        rw [ihe (b + (vo e).length) _ (fun x hx => hm x (.tail _ hx)) (by (clear hlen; lia)) (drop_more hd), vos, List.length_append]
        simp only [List.append_assoc, List.singleton_append]
        congr 2
        (exact Nat.add_assoc _ _ _)
    rw [if_neg (by (clear hlen; lia)), h2, if_pos (.inr (.inr (.inr rfl))), h3, rc_co]
    dsimp only
    rw [if_neg (by decide), if_neg (by decide), if_pos rfl]
    show (rs (rv ks g) (turns (ds.length : Int) ks.length _) _ []).map _ = _
    rw [turns_all (n := ds.length) (len := ks.length) (a := a + 1 + (co ds.length).length) (by lia), main ds _ [] (fun _ h => h) (by lia) h4, vo, List.length_cons, List.length_append]
    simp only [Option.map_some, List.nil_append]
    congr 2
    (simp +arith)
theorem rrow_vo {d : Dat} (h : GoodRow d) : rrow (vo d) = some d := by
  obtain ⟨h1, h2, h3, h4⟩ := h
  unfold rrow
  rw [rv_vo (sizeOf d) d (Nat.le_refl _) h2 20 (by (exact leb h3 rfl)) (vo d) 0 [] (Nat.zero_le _) (by simp)]
  dsimp only
  rw [if_neg (by (simp +arith)), if_pos h1]
theorem su_len (n : Nat) : (su n).length = 4 := rfl
theorem fr_len (d : Dat) : (fr d).length = (co (vo d).length).length + (4 + (vo d).length) := by
  unfold fr
  rw [List.length_append, List.length_append, su_len]
theorem fr_pos (d : Dat) : 0 < (fr d).length := by rw [fr_len]; (simp +arith)
theorem rat_fr {d : Dat} (hg : GoodRow d) {ks post : List Int} {a : Nat} (ha : a ≤ ks.length) (h : ks.drop a = fr d ++ post) : rat ks a = some (d, a + (fr d).length) := by
  have hlen := drop_len h ha
  rw [fr_len] at hlen ⊢
  unfold fr at h
  rw [List.append_assoc, List.append_assoc] at h
  have h1 := drop_more h
  have h2 := drop_more h1
  rw [su_len] at h2
  unfold rat
  rw [h, rc_co]
  dsimp only
  rw [if_neg (by lia), h2, h1, Int.toNat_natCast, List.take_left, List.take_left' (su_len _), if_neg (fun z => z rfl), rrow_vo hg]
  dsimp only
  congr 2
  (simp +arith)
theorem rat_cut {d : Dat} {ks : List Int} {a r : Nat} (ha : a ≤ ks.length) (hr : r < (fr d).length) (h : ks.drop a = (fr d).take r) : rat ks a = none := by
  have hlen : ks.length = a + r := by
    have := congrArg List.length h
    rw [List.length_drop, List.length_take] at this
    lia
  rw [fr_len] at hr
  unfold fr at h
  unfold rat
  rcases Nat.lt_or_ge r (co (vo d).length).length with hlt | hge
  · rw [List.take_append_of_le_length (Nat.le_of_lt hlt)] at h
    rw [h]
    unfold rc
    rw [rcA_cut _ _ _ _ _ hlt]
  · rw [List.take_append, List.take_of_length_le hge] at h
    rw [h, rc_co]
    dsimp only
    rw [if_pos (by lia)]
def frs (ds : List Dat) : List Int := ds.flatMap fr
theorem frs_cons (d : Dat) (ds : List Dat) : frs (d :: ds) = fr d ++ frs ds := by unfold frs; rw [List.flatMap_cons]
def pairs : List Dat → Nat → List (Dat × Nat)
  | [], _ => []
  | d :: ds, a => (d, a + (fr d).length) :: pairs ds (a + (fr d).length)
theorem pairs_fst : ∀ (ds : List Dat) (a : Nat), (pairs ds a).map (·.1) = ds
  | [], _ => rfl
  | d :: ds, a => by rw [pairs, List.map_cons, pairs_fst ds]
theorem rr_chain {ks : List Int} : ∀ (ds : List Dat) (a n : Nat) (post : List Int), (∀ d ∈ ds, GoodRow d) → a ≤ ks.length → ks.drop a = frs ds ++ post → ks.length - a < n → ∃ m, ks.length - (a + (frs ds).length) < m ∧ rr ks n a = pairs ds a ++ rr ks m (a + (frs ds).length)
  | [], a, n, post, _, _, _, hn => ⟨n, hn, rfl⟩
  | d :: ds, a, n, post, hg, ha, h, hn => by
    obtain ⟨n, rfl⟩ : ∃ k, n = k + 1 := ⟨n - 1, by lia⟩
    unfold frs at h
    rw [List.flatMap_cons, List.append_assoc] at h
    have hl := drop_len h ha
    rw [List.length_append] at hl
    have hp := fr_pos d
    obtain ⟨m, h1, h2⟩ := rr_chain ds (a + (fr d).length) n post (fun e he => hg e (.tail _ he)) (by lia) (drop_more h) (by lia)
    have e : a + (frs (d :: ds)).length = a + (fr d).length + (frs ds).length := by
      unfold frs
      rw [List.flatMap_cons, List.length_append]
      (exact (Nat.add_assoc _ _ _).symm)
    refine ⟨m, by rw [e]; exact h1, ?_⟩
    rw [rr, rat_fr (hg d (.head _)) ha h, pairs, e]
    dsimp only
    rw [h2, List.cons_append]
theorem rr_stop {ks : List Int} {a m : Nat} (h : rat ks a = none) : rr ks m a = [] := by
  cases m with
  | zero => rfl
  | succ m => rw [rr, h]
theorem rat_len (ks : List Int) : rat ks ks.length = none := by
  unfold rat rc
  rw [List.drop_length]
  rfl
theorem al_whole {ds : List Dat} (hg : ∀ d ∈ ds, GoodRow d) : al (frs ds) = pairs ds 0 := by
  obtain ⟨m, _, h⟩ := rr_chain (ks := frs ds) ds 0 ((frs ds).length + 1) [] hg (Nat.zero_le _) (by simp) (by (exact Nat.lt_succ_self _))
  unfold al
  rw [h, Nat.zero_add, rr_stop (rat_len _), List.append_nil]
theorem lastEnd_pairs : ∀ (ds : List Dat) (a : Nat), ds ≠ [] → lastEnd (pairs ds a) = a + (frs ds).length
  | [d], a, _ => by simp [pairs, lastEnd, frs]
  | d :: e :: ds, a, _ => by
    have := lastEnd_pairs (e :: ds) (a + (fr d).length) (by simp)
    rw [pairs]
    unfold lastEnd at this ⊢
    rw [pairs] at this ⊢
    rw [List.getLast?_cons_cons, this]
    unfold frs
    rw [List.flatMap_cons (x := d), List.length_append]
    (exact Nat.add_assoc _ _ _)
theorem lastEnd_pairs0 (ds : List Dat) : lastEnd (pairs ds 0) = (frs ds).length := by
  cases ds with
  | nil => rfl
  | cons d ds => rw [lastEnd_pairs _ 0 (by simp), Nat.zero_add]
/-- the frames ahead of a place -/
theorem split_at : ∀ (ds : List Dat) (place : Nat), place < (frs ds).length → ∃ ds1 d ds2, ds = ds1 ++ d :: ds2 ∧ (frs ds1).length ≤ place ∧ place < (frs ds1).length + (fr d).length
  | [], place, h => by simp [frs] at h
  | d :: ds, place, h => by
    by_cases hp : place < (fr d).length
    · exact ⟨[], d, ds, rfl, by simp [frs], by simpa [frs] using hp⟩
    · have e : (frs (d :: ds)).length = (fr d).length + (frs ds).length := by unfold frs; rw [List.flatMap_cons, List.length_append]
      obtain ⟨ds1, d', ds2, h1, h2, h3⟩ := split_at ds (place - (fr d).length) (by omega)
      have e1 : (frs (d :: ds1)).length = (fr d).length + (frs ds1).length := by unfold frs; rw [List.flatMap_cons, List.length_append]
      exact ⟨d :: ds1, d', ds2, by rw [h1]; rfl, by lia, by omega⟩
theorem frs_app (xs ys : List Dat) : frs (xs ++ ys) = frs xs ++ frs ys := by unfold frs; rw [List.flatMap_append]
theorem al_front {ds1 : List Dat} (hg : ∀ d ∈ ds1, GoodRow d) {ks post : List Int} (h : ks = frs ds1 ++ post) : ∃ m, ks.length - (frs ds1).length < m ∧ al ks = pairs ds1 0 ++ rr ks m (frs ds1).length := by
  obtain ⟨m, h1, h2⟩ := rr_chain (ks := ks) ds1 0 (ks.length + 1) post hg (Nat.zero_le _) (by rw [h]; simp) (by (exact Nat.lt_succ_self _))
  rw [Nat.zero_add] at h1 h2
  exact ⟨m, h1, h2⟩
theorem al_cut {ds ds1 ds2 : List Dat} {d : Dat} (hg : ∀ d ∈ ds, GoodRow d) (hs : ds = ds1 ++ d :: ds2) {place : Nat} (h1 : (frs ds1).length ≤ place) (h2 : place < (frs ds1).length + (fr d).length) : al ((frs ds).take place) = pairs ds1 0 := by
  have e : (frs ds).take place = frs ds1 ++ (fr d).take (place - (frs ds1).length) := by
    rw [hs, frs_app, List.take_append, List.take_of_length_le h1]
    congr 1
    rw [frs_cons, List.take_append_of_le_length (by (clear h1; omega))]
  obtain ⟨m, _, h⟩ := al_front (ds1 := ds1) (fun x hx => hg x (by rw [hs]; exact List.mem_append_left _ hx)) e
  have hr : rat ((frs ds).take place) (frs ds1).length = none := by
    refine rat_cut (d := d) (r := place - (frs ds1).length) ?_ (by omega) ?_
    · rw [e, List.length_append]; (exact Nat.le_add_right _ _)
    · rw [e, List.drop_left]
  rw [h, rr_stop hr, List.append_nil]
/-- the ends of the frames, the begin ahead -/
def ends (ds : List Dat) : List Int := (pairs ds 0).map fun p => (p.2 : Int)
theorem pairs_app : ∀ (xs ys : List Dat) (a : Nat), pairs (xs ++ ys) a = pairs xs a ++ pairs ys (a + (frs xs).length)
  | [], ys, a => rfl
  | x :: xs, ys, a => by
    rw [List.cons_append, pairs, pairs, pairs_app xs ys, List.cons_append]
    congr 3
    unfold frs
    rw [List.flatMap_cons, List.length_append]
    (exact Nat.add_assoc _ _ _)
theorem pairs_ge : ∀ (ds : List Dat) (a : Nat), ∀ p ∈ pairs ds a, a < p.2 ∧ p.2 ≤ a + (frs ds).length
  | [], _, p, h => nomatch h
  | d :: ds, a, p, h => by
    have hp := fr_pos d
    have e : (frs (d :: ds)).length = (fr d).length + (frs ds).length := by unfold frs; rw [List.flatMap_cons, List.length_append]
    rw [pairs] at h
    rcases List.mem_cons.mp h with rfl | h
    · dsimp only; lia
    · have := pairs_ge ds _ p h
      (clear hp; lia)
theorem ends_before {ds ds1 ds2 : List Dat} {d : Dat} (hs : ds = ds1 ++ d :: ds2) {place : Nat} (h1 : (frs ds1).length ≤ place) (h2 : place < (frs ds1).length + (fr d).length) :
    ((0 : Int) :: ends ds).filter (fun e => decide (e ≤ (place : Int))) = 0 :: ends ds1 := by
  rw [List.filter_cons_of_pos (by simp)]
  congr 1
  unfold ends
  rw [hs, pairs_app, List.map_append, List.filter_append, Nat.zero_add]
  have e1 : ((pairs ds1 0).map fun p => (p.2 : Int)).filter (fun e => decide (e ≤ (place : Int))) = (pairs ds1 0).map fun p => (p.2 : Int) := by
    refine List.filter_eq_self.mpr fun x hx => ?_
    obtain ⟨p, hp, rfl⟩ := List.mem_map.mp hx
    have := pairs_ge _ _ p hp
    simp only [decide_eq_true_eq]
    lia
  have e2 : ((pairs (d :: ds2) (frs ds1).length).map fun p => (p.2 : Int)).filter (fun e => decide (e ≤ (place : Int))) = [] := by
    refine List.filter_eq_nil_iff.mpr fun x hx => ?_
    obtain ⟨p, hp, rfl⟩ := List.mem_map.mp hx
    rw [pairs] at hp
    simp only [decide_eq_true_eq]
    rcases List.mem_cons.mp hp with rfl | hp
    · dsimp only; omega
    · have := pairs_ge _ _ p hp
      omega
  rw [e1, e2, List.append_nil]
theorem ends_len (ds : List Dat) : (ends ds).length = ds.length := by
  unfold ends
  rw [List.length_map]
  have := congrArg List.length (pairs_fst ds 0)
  rwa [List.length_map] at this
theorem ends_last (ds : List Dat) : ((0 : Int) :: ends ds).getD ds.length 0 = ((frs ds).length : Nat) := by
  rcases List.eq_nil_or_concat ds with rfl | ⟨xs, x, rfl⟩
  · rfl
  · rw [List.concat_eq_append]
    have e : ends (xs ++ [x]) = ends xs ++ [((frs (xs ++ [x])).length : Int)] := by
      unfold ends
      rw [pairs_app, List.map_append, Nat.zero_add, frs_app]
      simp [pairs, frs]
    rw [e, ← List.cons_append, List.getD_eq_getElem?_getD, List.getElem?_append_right (by rw [List.length_cons, ends_len, List.length_append]; simp)]
    rw [List.length_cons, ends_len, List.length_append]
    simp
theorem frs_in {ds : List Dat} (hg : ∀ d ∈ ds, GoodRow d) : ∀ k ∈ frs ds, 0 ≤ k ∧ k < 256 := fun k hk => by
  unfold frs at hk
  obtain ⟨d, hd, hk⟩ := List.mem_flatMap.mp hk
  unfold fr at hk
  rcases List.mem_append.mp hk with hk | hk
  · exact co_in _ k hk
  · rcases List.mem_append.mp hk with hk | hk
    · exact su_in _ k hk
    · exact vo_in d (hg d hd).2.1 k hk
theorem frs_short {ds : List Dat} (hg : ∀ d ∈ ds, GoodRow d) : (frs ds).length ≤ 500 * ds.length := by
  induction ds with
  | nil => simp [frs]
  | cons d ds ih =>
    have e : (frs (d :: ds)).length = (fr d).length + (frs ds).length := by unfold frs; rw [List.flatMap_cons, List.length_append]
    have h1 := (hg d (.head _)).2.2.2
    have h2 := co_len (vo d).length
    have h3 := ih fun x hx => hg x (.tail _ hx)
    rw [fr_len] at e
    rw [List.length_cons]
    lia
end

section
/-- the octets backwards -/
def backw (b : Array UInt8) : Array UInt8 := Builtin.Bytes.sliced b ((b.size : Int) - 1) (-1) (-1)
theorem backw_size (b : Array UInt8) : (backw b).size ≤ b.size := by
  unfold backw Builtin.Bytes.sliced
  rw [List.size_toArray]
  refine Nat.le_trans (List.length_filterMap_le _ _) ?_
  unfold sliceRange
  rw [List.length_map, List.length_range]
  simp only [gt_iff_lt, show ¬ ((0 : Int) < -1) by decide, if_false]
  split
  · rw [show ((b.size : Int) - 1 - (-1) - (-1) - 1) / -(-1) = (b.size : Int) by rw [Int.neg_neg, Int.ediv_one]; lia]
    (exact Nat.le_refl _)
  · show (0 : Int).toNat ≤ _; simp
theorem back_bounds (n : Nat) : sliceBounds none none (some (-1)) n = ((n : Int) - 1, -1, -1) := rfl
theorem meets_back (b : Array UInt8) (t : Tok) (a : Addr) (ui : Tok) :
    Meets (Builtin.«bytes.__getitem__» ⟨[.bytes b t, .ref a], []⟩) (fun _ R s => s.heap.IsSliceOf a .none .none (.int (-1) ui) ∧ b.size ≤ sizeLine ∧ ∀ t' k, R (.ok (.ret (.bytes (backw b) t'))) { s with toks := k }) := by
  refine .of_wp fun prog w A R s hS => ?_
  obtain ⟨⟨o, ho, hc, hd⟩, hsz, h⟩ := hS
  have hT : s.TypeIs (.ref a) "slice" := ⟨o, ho, hc⟩
  show wpAny _ _ (Builtin.Bytes.payload (.bytes b t) >>= fun r => _) _ _ s
  refine wpAny_bind (wpAny_of_eq (a := b) rfl ?_)
  show wpAny _ _ (Builtin.Bytes.subscript? (.ref a) >>= fun r => _) _ _ s
  refine wpAny_bind ?_
  unfold Builtin.Bytes.subscript?
  refine wpAny_bind (wpAny_specialOf hT slice_no_index (wpAny_pure ?_))
  refine wpAny_bind (wpAny_typeOf hT ?_)
  show wpAny _ _ (Builtin.Bytes.sliceParts (.ref a) >>= fun r => _) _ _ s
  refine wpAny_bind ?_
  unfold Builtin.Bytes.sliceParts
  refine wpAny_bind (wpAny_field (x := .int (-1) ui) ho hd rfl ?_)
  kby_int
  refine wpAny_ite (KBy.ite_no (show ¬ ((rawInt (-1) == rawInt 0) = true) from by with_unfolding_all exact Bool.false_ne_true) ?_)
  refine wpAny_bind (wpAny_field (x := .none) ho hd rfl ?_)
  have go : wpAny (model prog w) A.in1 (sliceIndices (rawPart none) (rawPart none) (rawPart (some (-1))) b.size) (fun r s' => r = sliceBounds none none (some (-1)) b.size ∧ s' = s) (fun _ _ => False) s :=
    wpAny_of_eq (sliceIndices_raw none none (some (-1)) b.size (by decide)) ⟨rfl, rfl⟩
  kby_none
  refine wpAny_bind (wpAny_field (x := .none) ho hd rfl ?_)
  kby_none
  refine wpAny_pure ?_
  refine wpAny_bind (wpAny_mono go (fun r s' hr => ?_) fun _ _ e => e.elim)
  obtain ⟨hr1, hr2⟩ := hr
  subst hr1 hr2
  refine wpAny_ite (KBy.ite_no (fun hh => by rw [Bool.and_eq_true, Bool.and_eq_true, Bool.and_eq_true] at hh; exact absurd hh.1.1.2 (by decide)) ?_)
  exact wpAny_bind (wpAny_mkBytes (wpAny_pure ⟨_, rfl, h _ _⟩) (Nat.le_trans (backw_size b) hsz))
section
variable {prog : Program} {w : World} {A : Around} {E : Value → Shared → Prop} {s : Shared} {value slice : PySem.Expr} {b : Array UInt8} {t : Tok} {h₀ : Heap} {L : Addr} {m : PySem.Str → Option Value} {news : List (Addr × Obj)} {Q : Value → Shared → Prop} {ui : Tok}
theorem slice_back (hF : Fr h₀ L s.heap m) (hN : News h₀ L s.heap news) (hz : b.size ≤ 16777216)
    (h : ∀ h' t' k, Fr h₀ L h' m → News h₀ L h' news → Q (.bytes (backw b) t') { s with heap := h', toks := k })
    (hs : subscripted slice false (.bytes b t) (.ref s.heap.objs.size) = operate [.ref s.heap.objs.size, .bytes b t] (getItem (.bytes b t) (.ref s.heap.objs.size)) := by with_unfolding_all rfl)
    (ht : ∀ r, letTemporaryGo value (.bytes b t) r = pure () := by intro _; with_unfolding_all rfl) :
    wpAny (model prog w) A (subscriptTail value slice (.bytes b t) (.ref s.heap.objs.size)) Q E { s with heap := s.heap.push { cls := .type "slice", data := .fields #[.none, .none, .int (-1) ui] } } :=
  tail_of_ItemOn ⟨"bytes", _, FB.slot_bytes_getitem.lookup, typeIs_bytes _ _ _, getItem_meets (typeIs_bytes _ _ _) (by decide) FB.slot_bytes_getitem FB.entry_bytes_getitem (FB.args_bytes_getitem_2 _ _) (meets_back b t _ ui)
    ⟨Heap.IsSliceOf.new _ _ _ _, by rw [sizeLine_eq]; exact hz, fun t' k => h _ _ _ (hF.push _) (News.pushKeep hN _)⟩⟩ hs ht
theorem slice_listT {l : Addr} {items : Array Value} {vl vu : Value} {lo hi : Option Int}
    (F : Fr h₀ L s.heap m) (N : News h₀ L s.heap news) (hl : s.heap.IsList l items) (pl : IsPart vl lo) (pu : IsPart vu hi)
    (h : ∀ h', Fr h₀ L h' m → News h₀ L h' ((s.heap.objs.size + 1, { cls := .type "list", data := .seq (slicePick items lo hi none) }) :: news) → Q (.ref (s.heap.objs.size + 1)) { s with heap := h' })
    (hs : subscripted slice false (.ref l) (.ref s.heap.objs.size) = operate [.ref s.heap.objs.size, .ref l] (getItem (.ref l) (.ref s.heap.objs.size)))
    (hsz : items.size ≤ sizeLine) :
    wpAny (model prog w) A (subscriptTail value slice (.ref l) (.ref s.heap.objs.size)) Q E { s with heap := s.heap.push { cls := .type "slice", data := .fields #[vl, vu, .none] } } := by
  refine tail_any (Heap.IsList.typeIs (s := { s with heap := s.heap.push { cls := .type "slice", data := .fields #[vl, vu, .none] } }) (hl.push _)) list_getitem_lookup
    (wpAny_getItem_list_slice (hl.push _) (Heap.IsSliceOf.new ..) pl pu .none (by simp) ?_ hsz) hs
  have N1 := News.push (F.push { cls := .type "slice", data := .fields #[vl, vu, .none] }) (N.grown fun _ _ e => Heap.get?_push_of_some _ e) { cls := .type "list", data := .seq (slicePick items lo hi none) }
  rw [Heap.size_push] at N1
  show Q (.ref (s.heap.push _).objs.size) _
  rw [Heap.size_push]
  exact h _ ((F.push _).push _) N1
end
end

section
theorem IntsAre.snocA {ys : List Value} {ns : List Int} (h : IntsAre ys ns) (n : Int) (t : Tok) : IntsAre (ys ++ [.int n t]) (ns ++ [n]) := IntsAre.append h (.cons n t .nil)
theorem preS_up (f : Nat → Int) (m : Int) : ∀ k, preSum (fun i => f i * (m + 1 - i)) k = preSum (fun i => f i * (m - i)) k + preSum f k
  | 0 => rfl
  | k + 1 => by
    simp only [preSum]
    rw [preS_up f m k, show f k * (m + 1 - k) = f k * (m - k) + f k by rw [show m + 1 - (k : Int) = (m - k) + 1 by (simp +arith), Int.mul_add, Int.mul_one]]
    (simp +arith)
theorem adP_take (ks : List Int) : ∀ i, i ≤ ks.length → adP (ks.take i) = ((1 + preSum (fun j => ks.getD j 0) i) % 65521, ((i : Int) + preSum (fun j => ks.getD j 0 * ((i : Int) - j)) i) % 65521)
  | 0, _ => rfl
  | i + 1, h => by
    have ih := adP_take ks i (by (exact Nat.le_of_lt h))
    have hk : ks[i]? = some (ks.getD i 0) := by simp [List.getD, show i < ks.length by assumption]
    unfold adP at ih ⊢
    rw [List.take_add_one, hk, Option.toList_some, List.foldl_append, ih]
    simp only [List.foldl_cons, List.foldl_nil, adS]
    have e : preSum (fun j => ks.getD j 0 * (((i + 1 : Nat) : Int) - j)) (i + 1) = preSum (fun j => ks.getD j 0 * ((i : Int) - j)) i + preSum (fun j => ks.getD j 0) (i + 1) := by
      have := preS_up (fun j => ks.getD j 0) (i : Int) (i + 1)
      rw [show (((i + 1 : Nat) : Int)) = (i : Int) + 1 by rfl, this]
      simp only [preSum]
      rw [Int.sub_self, Int.mul_zero, Int.add_zero]
    rw [e]
    simp only [preSum]
    ext <;> dsimp only <;> (first | (simp +arith; done) | lia | omega)
theorem lad_eq (ks : List Int) : ((ks.length : Int) + preSum (fun i => ks.getD i 0 * ((ks.length : Int) - i)) ks.length) % 65521 * 65536 + (1 + preSum (fun i => ks.getD i 0) ks.length) % 65521 = ad ks := by
  have := adP_take ks ks.length (Nat.le_refl _)
  rw [List.take_length] at this
  unfold ad
  rw [this]
theorem preS_sum (f : Nat → Int) : ∀ k, ((List.range k).map f).sum = preSum f k
  | 0 => rfl
  | k + 1 => by
    rw [List.range_succ, List.map_append, List.sum_append, preS_sum f k]
    simp [preSum]
theorem map_getD (ks : List Int) : (List.range ks.length).map (fun i => ks.getD i 0) = ks := by
  apply List.ext_getElem
  · simp
  · intro i h1 h2
    simp [List.getD, show i < ks.length by simpa using h1]
theorem lad_sum (ks : List Int) : ((ks.length : Int) + ((List.range ks.length).map fun j => ks.getD j 0 * ((ks.length : Int) - j)).sum).fmod 65521 * 65536 + (1 + ks.sum).fmod 65521 = ad ks := by
  rw [← lad_eq, preS_sum, Int.fmod_eq_emod_of_nonneg _ (by decide), Int.fmod_eq_emod_of_nonneg _ (by decide), ← preS_sum (fun i => ks.getD i 0), map_getD]
theorem con_law_adler (prog : Program) (w : World) (b : Array UInt8) (tb : Tok) (ks : List Int) (hks : KBw.bInts b = ks) (hlen : ks.length ≤ 9000) (led : Led) :
    Con prog w 214 [.bytes b tb] 3 led (fun tl r => tl = [] ∧ ∃ t, r = .int (ad ks) t) False := by
  intro dp un gd env outer frs h₀ L m s p loose mean mg mb R C ok er
  have X := C.X
  have T := C.T
  have hd := C.hd
  have hu := C.hu
  have hlb : b.size = ks.length := by rw [← hks, KBw.ints_length]
  (k_dflt (refine' enterX ?kC ?kO ?k6 ?k7 ?k9 ?kB ?c5 ?kn ?c2 ?c3 ?c4 ?_; (case kC => assumption); (case kO => assumption); (case k6 => k_is); (case k7 => k_is); (case k9 => first | exact BindsTo.of_eq rfl | fail "defaults"); (case c5 => decide); (case kB => rfl); (case kn => first | decide | omega); (case c2 => exact rfl); (case c3 => exact rfl); (case c4 => exact rfl); k_whole))
  intro L' h₁ tk₁ cells led' frs' Qc Ec F N Y Ls Fs Fi Lt okc hE
  have hY := CellsAre.two Y
  refine hold (fun Ph hPh => ?_)
  obtain ⟨oc, oc2, hEq, hoc, hoc2⟩ := hY
  refine hPh ?_
  clear hPh
  subst hEq
  clear Y
  dsimp only [List.cons_append, List.nil_append] at N
  have neC : ∀ p ∈ (L' + 1, oc2) :: led', p.1 ≠ L' + 1 + 1 := fun p hp => by
    rcases List.mem_cons.mp hp with rfl | hp
    · exact Nat.ne_of_lt (Nat.lt_succ_self _)
    · exact Nat.ne_of_lt (Nat.lt_trans (Nat.lt_trans (Lt p hp) (Nat.lt_succ_self _)) (Nat.lt_succ_self _))
  (repeat' (first | ((((fail_if_success k_end); (fail_if_success (with_reducible show wpAny _ _ (exec (Stmt.While _ _ _ _) _) _ _ _)); (fail_if_success (with_reducible show wpAny _ _ (exec (Stmt.For _ _ _ _ _) _) _ _ _)))); ((first | walk1 | (dsimp only; walk1)))) | (first | ((with_reducible show Frag.In _ _ ∧ _); refine ⟨by k_in, ?_⟩; try dsimp only [List.nil_append, List.cons_append]) | ((with_reducible show KswPost _ _ _ _ _ _ _ _ _ _ _ _ _ _); dsimp only [KswPost]))))
  refine stCN (own := []) F N rfl hoc (fun _ h => nomatch h) neC (fun h2 o2 F2 N2 hoc' => ?_)
  clear F N hoc
  dsimp only [List.nil_append] at N2 ⊢
  (repeat' (first | ((((fail_if_success k_end); (fail_if_success (with_reducible show wpAny _ _ (exec (Stmt.While _ _ _ _) _) _ _ _)); (fail_if_success (with_reducible show wpAny _ _ (exec (Stmt.For _ _ _ _ _) _) _ _ _)))); ((first | walk1 | (dsimp only; walk1)))) | (first | ((with_reducible show Frag.In _ _ ∧ _); refine ⟨by k_in, ?_⟩; try dsimp only [List.nil_append, List.cons_append]) | ((with_reducible show KswPost _ _ _ _ _ _ _ _ _ _ _ _ _ _); dsimp only [KswPost]))))
  rename IsRange _ _ _ _ _ _ _ _ => HR
  rename Fr _ _ _ _ => F5
  rename News _ _ _ _ => N5
  try clear F2 N2
  have hrs : Builtin.Range.rangeSize 0 (ks.length : Int) 1 = (ks.length : Int) := by
    unfold Builtin.Range.rangeSize
    rw [if_pos (by decide)]
    split
    · rw [Int.ediv_one]; (simp +arith)
    · (clear hlen hlb; lia)
  refine LCg.CompSrc.range rfl F5 N5 HR (small_one (by (exact n0 _)) (by (exact n0 _)) (by (exact n0 _)) (by (exact nlt hlen rfl))) hrs (by rw [sizeLine_eq]; (exact leb hlen rfl)) fun g => compRest_inv (fun i ys news => news = ((L' + 1 + 1, o2) :: (L' + 1, oc2) :: led' : Led) ∧ IntsAre ys ((List.range i).map fun j => ks.getD j 0 * ((ks.length : Int) - j))) ⟨rfl, .nil⟩ ?_ ?_
  · intro i ys news v I oI C1 oC D m₂ hp tk hi q13 q14 hC hx1 F6 N6 off ne E'
    obtain ⟨rfl, hys⟩ := q13
    obtain ⟨tv, rfl⟩ := q14
    clear F5 N5 HR
    rw [Int.zero_add] at hx1
    (repeat' (first | ((((fail_if_success k_end); (fail_if_success (with_reducible show wpAny _ _ (exec (Stmt.While _ _ _ _) _) _ _ _)); (fail_if_success (with_reducible show wpAny _ _ (exec (Stmt.For _ _ _ _ _) _) _ _ _)))); ((first | walk1 | (dsimp only; walk1)))) | (first | ((with_reducible show Frag.In _ _ ∧ _); refine ⟨by k_in, ?_⟩; try dsimp only [List.nil_append, List.cons_append]) | ((with_reducible show KswPost _ _ _ _ _ _ _ _ _ _ _ _ _ _); dsimp only [KswPost]))))
    refine LCg.CompEnd.intro F6 N6 _ (fun p hp => hp) off trivial ⟨rfl, ?_⟩
    rw [List.range_succ, List.map_append]
    exact IntsAre.snocA hys _ _
  · intro ys news q2
    obtain ⟨rfl, hys⟩ := q2
    intro D hp tk F6 N6 off
    (repeat' (first | ((((fail_if_success k_end); (fail_if_success (with_reducible show wpAny _ _ (exec (Stmt.While _ _ _ _) _) _ _ _)); (fail_if_success (with_reducible show wpAny _ _ (exec (Stmt.For _ _ _ _ _) _) _ _ _)))); ((first | walk1 | (dsimp only; walk1)))) | (first | ((with_reducible show Frag.In _ _ ∧ _); refine ⟨by k_in, ?_⟩; try dsimp only [List.nil_append, List.cons_append]) | ((with_reducible show KswPost _ _ _ _ _ _ _ _ _ _ _ _ _ _); dsimp only [KswPost]))))
    dsimp only
    rename Fr _ _ _ _ => F7
    rename News _ _ _ _ => N7
    exact okc _ [] _ _ _ F7 (fun p hp => N7 p (.tail _ (.tail _ (.tail _ hp)))) (fun _ h => nomatch h) ⟨rfl, _, congrArg (fun z => Value.int z _) (lad_sum ks)⟩

end

section
theorem fig_step (prog : Program) (w : World) (k : Nat) (rec : ∀ m : Nat, m < 128 ^ k → m ≤ 10000 → k ≠ 0 → ∀ (tn : Tok) (led : Led), Con prog w 221 [.int (m : Int) tn] k led (fun tl r => tl = [] ∧ ∃ t, r = .bytes (byteArr (co m)) t) False)
    (n : Nat) (hn : n < 128 ^ (k + 1)) (h1 : n ≤ 10000) (tn : Tok) (led : Led) :
    Con prog w 221 [.int (n : Int) tn] (k + 1) led (fun tl r => tl = [] ∧ ∃ t, r = .bytes (byteArr (co n)) t) False := by
  intro dp un gd env outer frs h₀ L m s p loose mean mg mb R C ok er
  have X := C.X
  have T := C.T
  have hd := C.hd
  have hu := C.hu
  (k_dflt (refine' enter ?kC ?kO ?kR ?k6 ?k7 ?k9 ?kB ?kn ?c2 ?c3 ?c4 ?c5 ?_; (case kC => assumption); (case kO => assumption); (case kR => assumption); (case k6 => k_is); (case k7 => k_is); (case k9 => first | exact BindsTo.of_eq rfl | fail "defaults"); (case c5 => decide); (case kB => exact locs rfl); (case kn => first | decide | omega); (case c2 => exact rfl); (case c3 => exact rfl); (case c4 => exact rfl); k_whole))
  intro L' h₁ tk₁ led' frs' Qc Ec F N Ls Fs Fi Lt okc erc hE era
  (repeat' (first | ((((fail_if_success k_end); (fail_if_success (with_reducible show wpAny _ _ (exec (Stmt.While _ _ _ _) _) _ _ _)); (fail_if_success (with_reducible show wpAny _ _ (exec (Stmt.For _ _ _ _ _) _) _ _ _)))); ((first | walk1 | (dsimp only; walk1)))) | (first | ((with_reducible show Frag.In _ _ ∧ _); refine ⟨by k_in, ?_⟩; try dsimp only [List.nil_append, List.cons_append]) | ((with_reducible show KswPost _ _ _ _ _ _ _ _ _ _ _ _ _ _); dsimp only [KswPost]))))
  · rename News _ _ _ _ => N1
    exact okc _ [] _ _ _ (by k_asm) (fun p hp => N1 p (.tail _ hp)) (fun _ h => nomatch h) ⟨rfl, _, by rw [co_le (by (clear h1; lia))]; rfl⟩
  · rename Fr _ _ _ _ => F1
    rename News _ _ _ _ => N1
    have hk : k ≠ 0 := by
      rintro rfl
      simp at hn
      (clear h1; lia)
    have hm : n / 128 < 128 ^ k := by
      rw [Nat.pow_succ] at hn
      exact Nat.div_lt_of_lt_mul (by rw [Nat.mul_comm]; exact hn)
    have e1 : (n : Int).fmod 128 = (n : Int) % 128 := Int.fmod_eq_emod_of_nonneg _ (by decide)
    have e2 : (n : Int).fdiv 128 = ((n / 128 : Nat) : Int) := by rw [Int.fdiv_eq_ediv_of_nonneg _ (by decide)]; rfl
    refine call_bytes_ints (ns := [128 + (n : Int).fmod 128]) (News.isList N1 (.head _)) (.cons _ _ .nil) (fun k hk => ?_) (by show 1 ≤ sizeLine; decide) rfl fun h' t k hk => ?_
    · rw [List.mem_singleton.mp hk, e1]
      lia
    have F2 := Fr.ext F1 hk
    have N2 : News h₀ L' h' led' := News.ext (fun p hp => N1 p (.tail _ hp)) hk
    clear F1 N1
    dsimp only at F2 N2 ⊢
    (repeat' (first | ((((fail_if_success k_end); (fail_if_success (with_reducible show wpAny _ _ (exec (Stmt.While _ _ _ _) _) _ _ _)); (fail_if_success (with_reducible show wpAny _ _ (exec (Stmt.For _ _ _ _ _) _) _ _ _)))); ((first | walk1 | (dsimp only; walk1)))) | (first | ((with_reducible show Frag.In _ _ ∧ _); refine ⟨by k_in, ?_⟩; try dsimp only [List.nil_append, List.cons_append]) | ((with_reducible show KswPost _ _ _ _ _ _ _ _ _ _ _ _ _ _); dsimp only [KswPost]))))
    rw [e2]
    refine Con.useV (rec (n / 128) hm (by (clear e1 e2; lia)) (by omega) _ _) F2 N2 X T Fs Fi rfl rfl (by lia) (by lia) (fun t3 h' tk' F3 N3 => ?_)
    have hcl := co_len (n / 128)
    refine KBy.add_bytes (by rw [byteArr_size, byteArr_size, List.length_singleton]; have e := sizeLine_eq; (clear e1 e2; lia)) fun t4 k4 => ?_
    refine okc _ [] _ _ _ F3 N3 (fun _ h => nomatch h) ⟨rfl, t4, ?_⟩
    rw [co_gt (n := n) (by (clear h1 e1; lia)), e1]
    show Value.bytes _ _ = Value.bytes (byteArr ([_] ++ co (n / 128))) _
    rw [byteArr_append]
theorem con_figures (prog : Program) (w : World) : ∀ (k n : Nat), n < 128 ^ (k + 1) → n ≤ 10000 → ∀ (tn : Tok) (led : Led), Con prog w 221 [.int (n : Int) tn] (k + 1) led (fun tl r => tl = [] ∧ ∃ t, r = .bytes (byteArr (co n)) t) False
  | 0, n, h, h1, tn, led => fig_step prog w 0 (fun _ _ _ x => absurd rfl x) n h h1 tn led
  | k + 1, n, h, h1, tn, led => fig_step prog w (k + 1) (fun m h2 h3 _ t l => con_figures prog w k m h2 h3 t l) n h h1 tn led

end

section
theorem snocE {ys : List Value} {zs : List Int} {a b : Int} {t : Tok} (h : IntsAre ys zs) (e : a = b) : IntsAre (ys ++ [.int a t]) (zs ++ [b]) := e ▸ IntsAre.snocA h a t
theorem sd (n k : Nat) : ((n : Int).fdiv (256 ^ k)).fmod 256 = ((n / 256 ^ k % 256 : Nat) : Int) := by
  have : (0 : Int) ≤ 256 ^ k := Int.pow_nonneg (by decide)
  rw [Int.fmod_eq_emod_of_nonneg _ (by decide), Int.fdiv_eq_ediv_of_nonneg _ this]
  norm_cast
theorem con_law_frame (prog : Program) (w : World) (d : Dat) (v : Value) (led : Led) (hdv : DV led d v) (hr : isRow d = true) (hfit : fit d) (hlen : (vo d).length ≤ 9000) (hnd : nd d ≤ 28) :
    ConS prog w 226 [v] (5 + nd d) led (fun tl r => tl = [] ∧ ∃ t, r = .bytes (byteArr (fr d)) t) := by
  have hn8 := nd_ge d
  intro dp un gd env outer frs h₀ L m s p loose mean mg mb R C ok
  have X := C.X
  have T := C.T
  have hd := C.hd
  have hu := C.hu
  (k_dflt (refine' enterSX ?kC ?kO ?k6 ?k7 ?k9 ?kB ?c5 ?kn ?c2 ?c3 ?c4 ?_; (case kC => assumption); (case kO => assumption); (case k6 => k_is); (case k7 => k_is); (case k9 => first | exact BindsTo.of_eq rfl | fail "defaults"); (case c5 => decide); (case kB => rfl); (case kn => first | decide | omega); (case c2 => exact rfl); (case c3 => exact rfl); (case c4 => exact rfl); k_whole))
  intro L' h₁ tk₁ cells led' frs' Qc F N hcells Ls Fs Fi Lt okc
  have hY := CellsAre.one hcells
  obtain ⟨oc, hE, hoc⟩ := hY
  subst hE
  clear hcells
  dsimp only [List.cons_append, List.nil_append] at N
  have hdv' := DV.mono Ls hdv
  refine wpC_execs_cons (wpC_Assign ?_)
  ((refine wpC_Call ?_; (repeat' (first | ((((fail_if_success k_end); (fail_if_success (with_reducible show wpAny _ _ (exec (Stmt.While _ _ _ _) _) _ _ _)); (fail_if_success (with_reducible show wpAny _ _ (exec (Stmt.For _ _ _ _ _) _) _ _ _)))); ((first | walk1 | (dsimp only; walk1)))) | (first | ((with_reducible show Frag.In _ _ ∧ _); refine ⟨by k_in, ?_⟩; try dsimp only [List.nil_append, List.cons_append]) | ((with_reducible show KswPost _ _ _ _ _ _ _ _ _ _ _ _ _ _); dsimp only [KswPost])))); ((k_dflt (refine' wpC_callWith_K ?kX ?kI ?_; (case kX => assumption); (case kI => k_is); k_whole))); refine wpC_of_any ?_; (repeat' (first | ((((fail_if_success k_end); (fail_if_success (with_reducible show wpAny _ _ (exec (Stmt.While _ _ _ _) _) _ _ _)); (fail_if_success (with_reducible show wpAny _ _ (exec (Stmt.For _ _ _ _ _) _) _ _ _)))); ((first | walk1 | (dsimp only; walk1)))) | (first | ((with_reducible show Frag.In _ _ ∧ _); refine ⟨by k_in, ?_⟩; try dsimp only [List.nil_append, List.cons_append]) | ((with_reducible show KswPost _ _ _ _ _ _ _ _ _ _ _ _ _ _); dsimp only [KswPost]))))))
  refine ConS.useV (con_row_octets prog w d v _ (DV.mono (fun q hq => .tail _ hq) hdv') hr hfit hlen hnd) F N X T Fs (fun p hp => .tail _ (Fi p hp)) rfl rfl (by lia) (by lia) (fun t h' tk' F1 N1 => ?_)
  clear F N
  try dsimp only [List.nil_append] at F1 N1 ⊢
  have hks := bInts_byteArr (vo_in d hfit)
  (repeat' (first | ((((fail_if_success k_end); (fail_if_success (with_reducible show wpAny _ _ (exec (Stmt.While _ _ _ _) _) _ _ _)); (fail_if_success (with_reducible show wpAny _ _ (exec (Stmt.For _ _ _ _ _) _) _ _ _)))); ((first | walk1 | (dsimp only; walk1)))) | (first | ((with_reducible show Frag.In _ _ ∧ _); refine ⟨by k_in, ?_⟩; try dsimp only [List.nil_append, List.cons_append]) | ((with_reducible show KswPost _ _ _ _ _ _ _ _ _ _ _ _ _ _); dsimp only [KswPost]))))
  dsimp only
  rename Fr _ _ _ _ => F2
  rename News _ _ _ _ => N2
  try clear F1 N1
  refine wpC_of_any ?_
  (repeat' (first | ((((fail_if_success k_end); (fail_if_success (with_reducible show wpAny _ _ (exec (Stmt.While _ _ _ _) _) _ _ _)); (fail_if_success (with_reducible show wpAny _ _ (exec (Stmt.For _ _ _ _ _) _) _ _ _)))); ((first | walk1 | (dsimp only; walk1)))) | (first | ((with_reducible show Frag.In _ _ ∧ _); refine ⟨by k_in, ?_⟩; try dsimp only [List.nil_append, List.cons_append]) | ((with_reducible show KswPost _ _ _ _ _ _ _ _ _ _ _ _ _ _); dsimp only [KswPost]))))
  refine Con.useV (con_law_adler prog w _ _ (vo d) hks (by omega) _) F2 N2 X T Fs (fun p hp => .tail _ (Fi p hp)) rfl rfl (by (clear hnd hn8; lia)) (by (clear hnd; lia)) (fun t2 h' tk' F3 N3 => ?_)
  clear F2 N2
  try dsimp only [List.nil_append] at F3 N3 ⊢
  (repeat' (first | ((((fail_if_success k_end); (fail_if_success (with_reducible show wpAny _ _ (exec (Stmt.While _ _ _ _) _) _ _ _)); (fail_if_success (with_reducible show wpAny _ _ (exec (Stmt.For _ _ _ _ _) _) _ _ _)))); ((first | walk1 | (dsimp only; walk1)))) | (first | ((with_reducible show Frag.In _ _ ∧ _); refine ⟨by k_in, ?_⟩; try dsimp only [List.nil_append, List.cons_append]) | ((with_reducible show KswPost _ _ _ _ _ _ _ _ _ _ _ _ _ _); dsimp only [KswPost]))))
  have neC : ∀ p ∈ led', p.1 ≠ L' + 1 := fun p hp => Nat.ne_of_lt (Nat.lt_succ_of_lt (Lt p hp))
  refine stCN (own := []) F3 N3 rfl hoc (fun _ h => nomatch h) neC (fun h2 o2 F2 N2 hoc' => ?_)
  clear F3 N3 hoc
  try dsimp only [List.nil_append] at N2 ⊢
  have hcl := co_len (vo d).length
  obtain ⟨n, hn, hn2⟩ := ad_nat (vo d)
  rw [hn] at hoc'
  (repeat' (first | ((((fail_if_success k_end); (fail_if_success (with_reducible show wpAny _ _ (exec (Stmt.While _ _ _ _) _) _ _ _)); (fail_if_success (with_reducible show wpAny _ _ (exec (Stmt.For _ _ _ _ _) _) _ _ _)))); ((first | walk1 | (dsimp only; walk1)))) | (first | ((with_reducible show Frag.In _ _ ∧ _); refine ⟨by k_in, ?_⟩; try dsimp only [List.nil_append, List.cons_append]) | ((with_reducible show KswPost _ _ _ _ _ _ _ _ _ _ _ _ _ _); dsimp only [KswPost]))))
  refine Con.useV (con_figures prog w 1 (vo d).length (by show _ < 16384; (exact ltb hlen rfl)) (by (exact leb hlen rfl)) _ _) F2 N2 X T Fs (fun p hp => .tail _ (Fi p hp)) rfl rfl (by (clear hnd hn8; lia)) (by (clear hnd; lia)) (fun t3 h' tk' F3 N3 => ?_)
  clear F2 N2
  try dsimp only [List.nil_append] at F3 N3 ⊢
  (repeat' (first | ((((fail_if_success k_end); (fail_if_success (with_reducible show wpAny _ _ (exec (Stmt.While _ _ _ _) _) _ _ _)); (fail_if_success (with_reducible show wpAny _ _ (exec (Stmt.For _ _ _ _ _) _) _ _ _)))); (fail_if_success (with_reducible show wpAny _ _ (eval (Expr.ListComp _ _ _ _) _) _ _ _)); ((first | walk1 | (dsimp only; walk1)))) | (first | ((with_reducible show Frag.In _ _ ∧ _); refine ⟨by k_in, ?_⟩; try dsimp only [List.nil_append, List.cons_append]) | ((with_reducible show KswPost _ _ _ _ _ _ _ _ _ _ _ _ _ _); dsimp only [KswPost]))))
  refine ListComp_Tu F3 rfl (by decide) rfl (by decide) rfl ?_
  (repeat' (first | ((((fail_if_success k_end); (fail_if_success (with_reducible show wpAny _ _ (exec (Stmt.While _ _ _ _) _) _ _ _)); (fail_if_success (with_reducible show wpAny _ _ (exec (Stmt.For _ _ _ _ _) _) _ _ _)))); ((first | walk1 | (dsimp only; walk1)))) | (first | ((with_reducible show Frag.In _ _ ∧ _); refine ⟨by k_in, ?_⟩; try dsimp only [List.nil_append, List.cons_append]) | ((with_reducible show KswPost _ _ _ _ _ _ _ _ _ _ _ _ _ _); dsimp only [KswPost]))))
  rename Fr _ _ _ _ => F4
  rename News _ _ _ _ => N4
  refine ⟨_, _, _, _, _, rfl, (by first | trivial | exact rfl), F4, N4, .head _, rfl, rfl, Nat.le_of_ble_eq_true rfl, fun g => compRest_fix (fun i ys => IntsAre ys ((su n).take i)) .nil ?_ ?_⟩
  · rintro i ys v I oI C1 oC D m₂ hp tk hi hys hP hC hx1 F6 N6 off ne E'
    try clear F4 N4 F3 N3
    have hi4 : i < 4 := hi
    obtain rfl | rfl | rfl | rfl : i = 0 ∨ i = 1 ∨ i = 2 ∨ i = 3 := by lia
    all_goals
      simp only [List.getElem?_toArray, List.getElem?_cons_zero, List.getElem?_cons_succ, Option.some.injEq] at hP
      subst hP
    all_goals (repeat' (first | ((((fail_if_success k_end); (fail_if_success (with_reducible show wpAny _ _ (exec (Stmt.While _ _ _ _) _) _ _ _)); (fail_if_success (with_reducible show wpAny _ _ (exec (Stmt.For _ _ _ _ _) _) _ _ _)))); ((first | walk1 | (dsimp only; walk1)))) | (first | ((with_reducible show Frag.In _ _ ∧ _); refine ⟨by k_in, ?_⟩; try dsimp only [List.nil_append, List.cons_append]) | ((with_reducible show KswPost _ _ _ _ _ _ _ _ _ _ _ _ _ _); dsimp only [KswPost]))))
    · refine LCg.CompEnd.intro F6 N6 _ (fun p hp => hp) off (.head _) ⟨rfl, ?_⟩
      exact snocE (zs := (su n).take 0) hys (sd n 3)
    · refine LCg.CompEnd.intro F6 N6 _ (fun p hp => hp) off (.head _) ⟨rfl, ?_⟩
      exact snocE (zs := (su n).take 1) hys (sd n 2)
    · refine LCg.CompEnd.intro F6 N6 _ (fun p hp => hp) off (.head _) ⟨rfl, ?_⟩
      exact snocE (zs := (su n).take 2) hys (sd n 1)
    · refine LCg.CompEnd.intro F6 N6 _ (fun p hp => hp) off (.head _) ⟨rfl, ?_⟩
      exact snocE (zs := (su n).take 3) hys ((sd n 0).trans (by rw [Nat.pow_zero, Nat.div_one]))
  · intro ys hys D hp tk F6 N6 off
    try clear F4 N4 F3 N3
    (repeat' (first | ((((fail_if_success k_end); (fail_if_success (with_reducible show wpAny _ _ (exec (Stmt.While _ _ _ _) _) _ _ _)); (fail_if_success (with_reducible show wpAny _ _ (exec (Stmt.For _ _ _ _ _) _) _ _ _)))); ((first | walk1 | (dsimp only; walk1)))) | (first | ((with_reducible show Frag.In _ _ ∧ _); refine ⟨by k_in, ?_⟩; try dsimp only [List.nil_append, List.cons_append]) | ((with_reducible show KswPost _ _ _ _ _ _ _ _ _ _ _ _ _ _); dsimp only [KswPost]))))
    have hys : IntsAre ys (su n) := hys
    have hsl : ys.length = 4 := hys.length
    refine call_bytes_ints (ns := su n) (News.isList N6 (.head _)) (by simpa using hys) (su_in n) (by rw [hsl]; decide) rfl fun h' t k hk => ?_
    have F7 := Fr.ext F6 hk
    have N7 : News h₀ L' h' ((L' + 1, o2) :: led') := News.ext (fun p hp => N6 p (.tail _ (.tail _ hp))) hk
    clear F6 N6
    dsimp only at F7 N7 ⊢
    refine KBy.add_bytes (by rw [byteArr_size, byteArr_size]; show _ + 4 ≤ _; lia) fun t4 k4 => ?_
    (repeat' (first | ((((fail_if_success k_end); (fail_if_success (with_reducible show wpAny _ _ (exec (Stmt.While _ _ _ _) _) _ _ _)); (fail_if_success (with_reducible show wpAny _ _ (exec (Stmt.For _ _ _ _ _) _) _ _ _)))); (fail_if_success (with_reducible show wpAny _ _ (binaryOp Operator.Add (Value.bytes _ _) (Value.bytes _ _)) _ _ _)); ((first | walk1 | (dsimp only; walk1)))) | (first | ((with_reducible show Frag.In _ _ ∧ _); refine ⟨by k_in, ?_⟩; try dsimp only [List.nil_append, List.cons_append]) | ((with_reducible show KswPost _ _ _ _ _ _ _ _ _ _ _ _ _ _); dsimp only [KswPost]))))
    refine KBy.add_bytes (by rw [Array.size_append, byteArr_size, byteArr_size, byteArr_size]; show _ + 4 + _ ≤ _; lia) fun t5 k5 => ?_
    refine okc _ [] _ _ _ F7 (fun p hp => N7 p (.tail _ hp)) (fun _ h => nomatch h) ⟨rfl, t5, ?_⟩
    unfold fr
    rw [byteArr_append, byteArr_append, ← Array.append_assoc, hn]
    rfl

end

section
theorem con_law_row_of (prog : Program) (w : World) (b : Array UInt8) (tb : Tok) (ks : List Int) (hks : KBw.bInts b = ks) (hlen : ks.length ≤ 9000) (led : Led) :
    ConC prog w 233 [.bytes b tb] 53 led (fun tl r => (∀ q ∈ tl, Tup q) ∧ ((rrow ks = none ∧ r = .none ∧ tl = []) ∨ ∃ d, rrow ks = some d ∧ DV tl d r)) := by
  intro dp un gd env outer frs h₀ L m s p loose mean mg mb R hnd C ok
  have X := C.X
  have T := C.T
  have hd := C.hd
  have hu := C.hu
  (k_dflt (refine' enterC ?kD ?kC ?kO ?k6 ?k7 ?k9 ?kB ?kn ?c2 ?c3 ?c4 ?c5 ?_; (case kC => assumption); (case kO => assumption); (case kD => assumption); (case k6 => k_is); (case k7 => k_is); (case k9 => first | exact BindsTo.of_eq rfl | fail "defaults"); (case c5 => decide); (case kB => exact locs rfl); (case kn => first | decide | omega); (case c2 => exact rfl); (case c3 => exact rfl); (case c4 => exact rfl); k_whole))
  intro L' h₁ tk₁ frs₁ Qc Ec F N Fs Lt okc hE hE2
  have Fi : ∀ p ∈ frs₁, p ∈ led ++ frs₁ := fun p hp => List.mem_append_right _ hp
  (repeat' (first | ((((fail_if_success k_end); (fail_if_success (with_reducible show wpAny _ _ (exec (Stmt.While _ _ _ _) _) _ _ _)); (fail_if_success (with_reducible show wpAny _ _ (exec (Stmt.For _ _ _ _ _) _) _ _ _)))); ((first | walk1 | (dsimp only; walk1)))) | (first | ((with_reducible show Frag.In _ _ ∧ _); refine ⟨by k_in, ?_⟩; try dsimp only [List.nil_append, List.cons_append]) | ((with_reducible show KswPost _ _ _ _ _ _ _ _ _ _ _ _ _ _); dsimp only [KswPost]))))
  refine Con.use (con_read_row prog w _ _ ks hks (by omega) _) F N X T Fs Fi rfl rfl (by (exact Nat.le_of_lt hd)) (by (exact ltu hu rfl)) (fun r tl h' tk' F1 N1 nd hr => ?_) (fun hx e h' tk' ht hns hfr => ?_)
  · obtain ⟨d, hrr, hdv⟩ := hr
    exact okc _ tl frs₁ _ _ _ F1 (TI.SameUp.refl _) N1 (fun q hq => (nd q hq).2) ⟨nd, .inr ⟨d, hrr, hdv⟩⟩
  · refine caught_LF ht hns hfr X T F.above Fs (hE := hE2 e) fun h2 frs2 F2 su2 stay hat => ?_
    (repeat' (first | ((((fail_if_success k_end); (fail_if_success (with_reducible show wpAny _ _ (exec (Stmt.While _ _ _ _) _) _ _ _)); (fail_if_success (with_reducible show wpAny _ _ (exec (Stmt.For _ _ _ _ _) _) _ _ _)))); ((first | walk1 | (dsimp only; walk1)))) | (first | ((with_reducible show Frag.In _ _ ∧ _); refine ⟨by k_in, ?_⟩; try dsimp only [List.nil_append, List.cons_append]) | ((with_reducible show KswPost _ _ _ _ _ _ _ _ _ _ _ _ _ _); dsimp only [KswPost]))))
    exact okc _ [] frs2 _ _ _ F2 su2 (show News h₀ L' h2 (led ++ frs2) from News.caught N hnd su2 stay hat) (fun _ h => nomatch h) ⟨fun _ h => (nomatch h), .inl ⟨hx, rfl, rfl⟩⟩

end

section
def dg (ks : List Int) (a : Nat) (i : Nat) : Int := ks.getD (a + i) 0 % 128 * 128 ^ i
def s4 (ks : List Int) (q : Nat) : Int := ((List.range 4).map fun p => ks.getD (q + p) 0 * 256 ^ (3 - p)).sum
theorem rat_at {ks : List Int} {a j : Nat} {count : Int} (haj : a ≤ j) (h : rc (ks.drop a) = some (count, j + 1 - a)) :
    rat ks a = (if ((j + 5 : Nat) : Int) + count > ks.length then none
      else if (ks.drop (j + 1)).take 4 ≠ su (ad ((ks.drop (j + 5)).take count.toNat)).toNat then none
      else match rrow ((ks.drop (j + 5)).take count.toNat) with
        | none => none
        | some d => some (d, j + 5 + count.toNat)) := by
  unfold rat
  rw [h]
  dsimp only
  rw [show a + (j + 1 - a) = j + 1 by lia]
  try rfl
theorem take4 {ks : List Int} {q : Nat} (h : q + 4 ≤ ks.length) : (ks.drop q).take 4 = [ks.getD q 0, ks.getD (q + 1) 0, ks.getD (q + 2) 0, ks.getD (q + 3) 0] := by
  rw [drop_get (by (exact ltz h)), drop_get (j := q + 1) (by (exact ltj h rfl)), drop_get (j := q + 1 + 1) (by (exact Nat.le_of_lt h)), drop_get (j := q + 1 + 1 + 1) (by assumption)]
  rfl
theorem getD_in {ks : List Int} (hin : ∀ k ∈ ks, 0 ≤ k ∧ k < 256) (j : Nat) : 0 ≤ ks.getD j 0 ∧ ks.getD j 0 < 256 := by
  by_cases h : j < ks.length
  · have : ks.getD j 0 ∈ ks := by
      simp [List.getD, h]
    exact hin _ this
  · have : ks.getD j 0 = 0 := by simp [List.getD, show ks[j]? = none by simp; (exact Nat.not_lt.mp h)]
    rw [this]; decide
theorem s4_iff {ks : List Int} (hin : ∀ k ∈ ks, 0 ≤ k ∧ k < 256) {q n : Nat} (h : q + 4 ≤ ks.length) (hn : n < 4294967296) : s4 ks q = (n : Int) ↔ (ks.drop q).take 4 = su n := by
  rw [take4 h]
  have h0 := getD_in hin q
  have h1 := getD_in hin (q + 1)
  have h2 := getD_in hin (q + 2)
  have h3 := getD_in hin (q + 3)
  have e : s4 ks q = ks.getD q 0 * 16777216 + ks.getD (q + 1) 0 * 65536 + ks.getD (q + 2) 0 * 256 + ks.getD (q + 3) 0 := by
    unfold s4
    simp [List.range_succ]
    (simp +arith)
  rw [e]
  unfold su
  constructor
  · intro h
    simp only [List.cons.injEq, and_true]
    (clear e hn; lia)
  · intro h
    simp only [List.cons.injEq, and_true] at h
    omega
theorem rrow_isRow {ks : List Int} {d : Dat} (h : rrow ks = some d) : isRow d = true := by
  unfold rrow at h
  split at h
  · cases h
  · split at h
    · cases h
    · split at h
      · cases h; assumption
      · cases h
theorem DV.ofRow {led : Led} {d : Dat} {v : Value} (h : DV led d v) (hr : isRow d = true) : ∃ a, v = .ref a := by
  cases h with
  | row _ _ => exact ⟨_, rfl⟩
  | _ => cases hr
theorem s4_el (ks : List Int) (j i : Nat) (hi : i < 4) : ks.getD ((j : Int) + 1 + (0 + (i : Int))).toNat 0 * 256 ^ ((3 : Int) - (0 + (i : Int))).toNat = ks.getD (j + 1 + i) 0 * 256 ^ (3 - i) := by
  have e1 : ((j : Int) + 1 + (0 + (i : Int))).toNat = j + 1 + i := by (exact (Nat.add_assoc _ _ _).symm)
  have e2 : ((3 : Int) - (0 + (i : Int))).toNat = 3 - i := by (clear hi; lia)
  exact (congrArg (fun z => z * (256 : Int) ^ ((3 : Int) - (0 + (i : Int))).toNat) (congrArg (fun n => ks.getD n 0) e1)).trans (congrArg (fun n => ks.getD (j + 1 + i) 0 * (256 : Int) ^ n) e2)
theorem con_law_frame_at (prog : Program) (w : World) (b : Array UInt8) (tb : Tok) (ks : List Int) (hks : KBw.bInts b = ks) (hlen : ks.length ≤ 9000) (a : Nat) (ha : a ≤ ks.length) (ta : Tok) (led : Led) :
    ConG prog w 238 [.bytes b tb, .int (a : Int) ta] 56 led (fun led' r => ∃ tl, led' = tl ++ led ∧ AtRet (rat ks a) ks.length tl r) := by
  intro dp un gd env outer frs h₀ L m s p loose mean mg mb R hnd C ok
  have X := C.X
  have T := C.T
  have hd := C.hd
  have hu := C.hu
  (k_dflt (refine' enterGX ?kD ?kC ?kO ?k6 ?k7 ?k9 ?kB ?c5 ?kn ?c2 ?c3 ?c4 ?_; (case kC => assumption); (case kO => assumption); (case kD => assumption); (case k6 => k_is); (case k7 => k_is); (case k9 => first | exact BindsTo.of_eq rfl | fail "defaults"); (case c5 => decide); (case kB => rfl); (case kn => first | decide | omega); (case c2 => exact rfl); (case c3 => exact rfl); (case c4 => exact rfl); k_whole))
  intro L' h₁ tk₁ cells frs₁ Qc Ec F N Y Fs Lt okc hE
  have hY := CellsAre.three Y
  refine hold (fun Ph hPh => ?_)
  obtain ⟨oc, oc2, oc3, hEq, hoc, hoc2, hoc3⟩ := hY
  refine hPh ?_
  clear hPh
  subst hEq
  clear Y
  dsimp only [List.cons_append, List.nil_append] at N
  have hin : ∀ k ∈ ks, 0 ≤ k ∧ k < 256 := hks ▸ fun k hk => KBw.ints_in hk
  have neC : ∀ p ∈ (L' + 1 + 1, oc2) :: (L' + 1, oc3) :: (led ++ frs₁), p.1 ≠ L' + 1 + 1 + 1 := fun p hp => by
    rcases List.mem_cons.mp hp with rfl | hp
    · exact Nat.ne_of_lt (Nat.lt_succ_self _)
    · rcases List.mem_cons.mp hp with rfl | hp
      · exact Nat.ne_of_lt (Nat.lt_trans (Nat.lt_succ_self _) (Nat.lt_succ_self _))
      · exact Nat.ne_of_lt (Nat.lt_trans (Nat.lt_trans (Nat.lt_trans (Lt p hp) (Nat.lt_succ_self _)) (Nat.lt_succ_self _)) (Nat.lt_succ_self _))
  (repeat' (first | ((((fail_if_success k_end); (fail_if_success (with_reducible show wpAny _ _ (exec (Stmt.While _ _ _ _) _) _ _ _)); (fail_if_success (with_reducible show wpAny _ _ (exec (Stmt.For _ _ _ _ _) _) _ _ _)))); ((first | walk1 | (dsimp only; walk1)))) | (first | ((with_reducible show Frag.In _ _ ∧ _); refine ⟨by k_in, ?_⟩; try dsimp only [List.nil_append, List.cons_append]) | ((with_reducible show KswPost _ _ _ _ _ _ _ _ _ _ _ _ _ _); dsimp only [KswPost]))))
  refine stCN (own := []) F N rfl hoc (fun _ h => nomatch h) neC (fun h2 o2 F2 N2 hoc' => ?_)
  clear F N hoc
  try dsimp only [List.nil_append] at N2 ⊢
  (repeat' (first | ((((fail_if_success k_end); (fail_if_success (with_reducible show wpAny _ _ (exec (Stmt.While _ _ _ _) _) _ _ _)); (fail_if_success (with_reducible show wpAny _ _ (exec (Stmt.For _ _ _ _ _) _) _ _ _)))); ((first | walk1 | (dsimp only; walk1)))) | (first | ((with_reducible show Frag.In _ _ ∧ _); refine ⟨by k_in, ?_⟩; try dsimp only [List.nil_append, List.cons_append]) | ((with_reducible show KswPost _ _ _ _ _ _ _ _ _ _ _ _ _ _); dsimp only [KswPost]))))
  refine ksw_while (σ := Nat × Tok × Obj) (fun c => (L' + 1 + 1 + 1, c.2.2) :: (L' + 1 + 1, oc2) :: (L' + 1, oc3) :: (led ++ frs₁)) (fun _ => [])
    (fun c => c.2.2.data = .cell (some (.int (c.1 : Int) c.2.1))) []
    (fun c => a ≤ c.1 ∧ c.1 ≤ ks.length ∧ rc (ks.drop a) = rcA (ks.drop c.1) (preSum (dg ks a) (c.1 - a)) (128 ^ (c.1 - a)) (c.1 - a))
    (fun c => ks.length - c.1) (a, _, o2) F2 N2 hoc' (by (((repeat' (first | exact List.forall_mem_nil _ | refine List.forall_mem_cons.mpr ⟨rfl, ?_⟩))))) ⟨Nat.le_refl _, ha, by simp [rc, preSum]⟩ ?_ hE
  refine all3 (fun j t1 o3 => ?_)
  intro u h tk hoc4 q5 F4 N4
  have haj := q5.1
  have hjl := q5.2.1
  have hrc := q5.2.2
  clear q5
  dsimp only at hoc4 haj hjl hrc F4 N4 ⊢
  clear F2 N2 hoc' 
  have hdig : ∀ c, rcA (ks.drop j) (preSum (dg ks a) (j - a)) (128 ^ (j - a)) (j - a) = c → rc (ks.drop a) = c := fun c h => hrc.trans h
  have hgj := getD_in hin j
  have hdgj : dg ks a (j - a) = ks.getD j 0 % 128 * 128 ^ (j - a) := by unfold dg; rw [show a + (j - a) = j by lia]
  have hsu : j + 1 - a = (j - a) + 1 := by lia
  have drop3 : ∀ {hh : Heap} {oo : Obj}, News h₀ L' hh ((L' + 1 + 1 + 1, oo) :: (L' + 1 + 1, oc2) :: (L' + 1, oc3) :: (led ++ frs₁)) → News h₀ L' hh (led ++ frs₁) := fun N p hp => N p (.tail _ (.tail _ (.tail _ hp)))
  (repeat' (first | ((((fail_if_success k_end); (fail_if_success (with_reducible show wpAny _ _ (exec (Stmt.While _ _ _ _) _) _ _ _)); (fail_if_success (with_reducible show wpAny _ _ (exec (Stmt.For _ _ _ _ _) _) _ _ _)))); (fail_if_success (with_reducible show wpAny _ _ (exec (Stmt.If _ _ _ _) _) _ _ _)); ((first | walk1 | (dsimp only; walk1)))) | (first | ((with_reducible show Frag.In _ _ ∧ _); refine ⟨by k_in, ?_⟩; try dsimp only [List.nil_append, List.cons_append]) | ((with_reducible show KswPost _ _ _ _ _ _ _ _ _ _ _ _ _ _); dsimp only [KswPost]))))
  rotate_right
  · (repeat' (first | ((((fail_if_success k_end); (fail_if_success (with_reducible show wpAny _ _ (exec (Stmt.While _ _ _ _) _) _ _ _)); (fail_if_success (with_reducible show wpAny _ _ (exec (Stmt.For _ _ _ _ _) _) _ _ _)))); ((first | walk1 | (dsimp only; walk1)))) | (first | ((with_reducible show Frag.In _ _ ∧ _); refine ⟨by k_in, ?_⟩; try dsimp only [List.nil_append, List.cons_append]) | ((with_reducible show KswPost _ _ _ _ _ _ _ _ _ _ _ _ _ _); dsimp only [KswPost]))))
    try simp only [Int.toNat_natCast] at *
    exact okc _ led frs₁ _ _ _ (by k_asm) (TI.SameUp.refl _) (drop3 N4) hnd ⟨[], rfl, (fun _ h => nomatch h), .inl ⟨by unfold rat; rw [hdig none (by rw [rcA_ge (by (clear hjl; lia))])], rfl, rfl⟩⟩
  · simp only [Int.toNat_natCast] at *
    have hj : j < ks.length := by lia
    refine stCN (own := []) F4 N4 rfl hoc4 (fun _ h => nomatch h) neC (fun h5 o5 F5 N5 hoc5 => ?_)
    clear F4 N4
    try dsimp only [List.nil_append] at F5 N5 hoc5 ⊢
    (repeat' (first | ((((fail_if_success k_end); (fail_if_success (with_reducible show wpAny _ _ (exec (Stmt.While _ _ _ _) _) _ _ _)); (fail_if_success (with_reducible show wpAny _ _ (exec (Stmt.For _ _ _ _ _) _) _ _ _)))); ((first | walk1 | (dsimp only; walk1)))) | (first | ((with_reducible show Frag.In _ _ ∧ _); refine ⟨by k_in, ?_⟩; try dsimp only [List.nil_append, List.cons_append]) | ((with_reducible show KswPost _ _ _ _ _ _ _ _ _ _ _ _ _ _); dsimp only [KswPost]))))
    refine ksw_end (j + 1, _, o5) (by k_asm) (by k_asm) (fun _ h => h) hoc5 (by (((repeat' (first | exact List.forall_mem_nil _ | refine List.forall_mem_cons.mpr ⟨rfl, ?_⟩))))) (by ((intro z h2 h3; simp only [List.forall_mem_cons, List.not_mem_nil, false_implies, implies_true, and_true, ne_eq] at h2; simp only [List.contains_cons, List.contains_nil, Bool.or_false, Bool.or_eq_false_iff, beq_eq_false_iff_ne, ne_eq] at h3; simp [h2, h3, kstB]))) ⟨by (exact Nat.le_succ_of_le haj), by assumption, ?_⟩ (by show ks.length - (j + 1) < ks.length - j; lia)
    refine hdig _ ?_
    rw [rcA_lt hj, if_pos (by omega)]
    show _ = rcA _ (preSum (dg ks a) (j + 1 - a)) (128 ^ (j + 1 - a)) (j + 1 - a)
    rw [hsu, preSum, hdgj, Int.pow_succ, show ks.getD j 0 % 128 = ks.getD j 0 - 128 by lia]
  · simp only [Int.toNat_natCast] at *
    refine aim (fun Qo hQo => ?_)
    refine once (P := ∀ k, ¬ (a < j ∧ ks.getD j 0 = 0) → Qo .next { s with heap := h, toks := k }) (fun main => ?_) ?_
    · (repeat' (first | ((((fail_if_success k_end); (fail_if_success (with_reducible show wpAny _ _ (exec (Stmt.While _ _ _ _) _) _ _ _)); (fail_if_success (with_reducible show wpAny _ _ (exec (Stmt.For _ _ _ _ _) _) _ _ _)))); ((first | walk1 | (dsimp only; walk1)))) | (first | ((with_reducible show Frag.In _ _ ∧ _); refine ⟨by k_in, ?_⟩; try dsimp only [List.nil_append, List.cons_append]) | ((with_reducible show KswPost _ _ _ _ _ _ _ _ _ _ _ _ _ _); dsimp only [KswPost]))))
      all_goals try simp only [Int.toNat_natCast] at *
      · refine hQo _ _ ?_
        (repeat' (first | ((((fail_if_success k_end); (fail_if_success (with_reducible show wpAny _ _ (exec (Stmt.While _ _ _ _) _) _ _ _)); (fail_if_success (with_reducible show wpAny _ _ (exec (Stmt.For _ _ _ _ _) _) _ _ _)))); ((first | walk1 | (dsimp only; walk1)))) | (first | ((with_reducible show Frag.In _ _ ∧ _); refine ⟨by k_in, ?_⟩; try dsimp only [List.nil_append, List.cons_append]) | ((with_reducible show KswPost _ _ _ _ _ _ _ _ _ _ _ _ _ _); dsimp only [KswPost]))))
        exact okc _ led frs₁ _ _ _ (by k_asm) (TI.SameUp.refl _) (drop3 N4) hnd ⟨[], rfl, (fun _ h => nomatch h), .inl ⟨by unfold rat; rw [hdig none (by rw [rcA_lt (by omega), if_neg (by omega), if_pos (by omega)])], rfl, rfl⟩⟩
      · have hz : ¬ (a < j ∧ ks.getD j 0 = 0) := by omega
        exact main _ hz
      · have hz : ¬ (a < j ∧ ks.getD j 0 = 0) := by omega
        exact main _ hz
    intro tk9 hz
    refine hQo _ _ ?_
    (repeat' (first | ((((fail_if_success k_end); (fail_if_success (with_reducible show wpAny _ _ (exec (Stmt.While _ _ _ _) _) _ _ _)); (fail_if_success (with_reducible show wpAny _ _ (exec (Stmt.For _ _ _ _ _) _) _ _ _)))); ((first | walk1 | (dsimp only; walk1)))) | (first | ((with_reducible show Frag.In _ _ ∧ _); refine ⟨by k_in, ?_⟩; try dsimp only [List.nil_append, List.cons_append]) | ((with_reducible show KswPost _ _ _ _ _ _ _ _ _ _ _ _ _ _); dsimp only [KswPost]))))
    try simp only [Int.toNat_natCast] at *
    have hrc' : rc (ks.drop a) = some (preSum (dg ks a) (j + 1 - a), j + 1 - a) := hdig _ (by
      rw [rcA_lt (by omega), if_neg (by omega), if_neg (by (first | lia | (clear haj; omega) | omega)), hsu, preSum, hdgj, show ks.getD j 0 % 128 = ks.getD j 0 by (first | lia | omega)])
    have hsp := rc_spec hin hrc'
    rw [rat_at haj hrc'] at okc
    generalize hcnt : preSum (dg ks a) (j + 1 - a) = count at *
    have hj : j < ks.length := by (first | lia | omega)
    clear hdig hrc
    rename IsRange _ _ _ _ _ _ _ _ => HR
    rename Fr _ _ _ _ => F5
    rename News _ _ _ _ => N5
    try clear F4 N4
    have hrs : Builtin.Range.rangeSize (a : Int) ((j : Int) + 1) 1 = ((j + 1 - a : Nat) : Int) := by
      unfold Builtin.Range.rangeSize
      rw [if_pos (by decide)]
      split
      · rw [Int.ediv_one]; (first | (clear hgj hsu; omega) | (clear hsu hsp; lia) | omega)
      · (first | lia | omega)
    try dsimp only
    try dsimp only at F5 N5 HR
    refine LCg.CompSrc.range rfl F5 N5 HR (small_one (by lia) (by (first | lia | (clear haj; omega) | omega)) (by lia) (by (first | lia | (clear haj; omega) | omega))) hrs (by rw [sizeLine_eq]; (first | (clear hsu hrs; lia) | (clear hlen haj hsu hrs; omega) | omega)) fun g => compRest_fix (fun i ys => IntsAre ys ((List.range i).map (dg ks a))) .nil ?_ ?_
    · intro i ys v I oI C1 oC D m₂ hp tk hi hys q13 hC hx1 F6 N6 off ne E'
      obtain ⟨tv, rfl⟩ := q13
      clear F5 N5 HR
      (repeat' (first | ((((fail_if_success k_end); (fail_if_success (with_reducible show wpAny _ _ (exec (Stmt.While _ _ _ _) _) _ _ _)); (fail_if_success (with_reducible show wpAny _ _ (exec (Stmt.For _ _ _ _ _) _) _ _ _)))); ((first | walk1 | (dsimp only; walk1)))) | (first | ((with_reducible show Frag.In _ _ ∧ _); refine ⟨by k_in, ?_⟩; try dsimp only [List.nil_append, List.cons_append]) | ((with_reducible show KswPost _ _ _ _ _ _ _ _ _ _ _ _ _ _); dsimp only [KswPost]))))
      refine LCg.CompEnd.intro F6 N6 _ (fun p hp => hp) off trivial ⟨rfl, ?_⟩
      rw [List.range_succ, List.map_append]
      refine snocE hys ?_
      unfold dg
      rw [Int.fmod_eq_emod_of_nonneg _ (by decide), show ((a : Int) + (i : Int)).toNat = a + i by (first | exact (Int.toNat_natCast _) | omega), show ((a : Int) + (i : Int) - (a : Int)).toNat = i by (first | (simp +arith; done) | omega)]
    · rintro ys hys
      intro D hp tk F6 N6 off
      try clear F5 N5 HR
      have hcs : ((List.range (j + 1 - a)).map (dg ks a)).sum = count := by rw [preS_sum]; exact hcnt
      (repeat' (first | ((((fail_if_success k_end); (fail_if_success (with_reducible show wpAny _ _ (exec (Stmt.While _ _ _ _) _) _ _ _)); (fail_if_success (with_reducible show wpAny _ _ (exec (Stmt.For _ _ _ _ _) _) _ _ _)))); ((first | walk1 | (dsimp only; walk1)))) | (first | ((with_reducible show Frag.In _ _ ∧ _); refine ⟨by k_in, ?_⟩; try dsimp only [List.nil_append, List.cons_append]) | ((with_reducible show KswPost _ _ _ _ _ _ _ _ _ _ _ _ _ _); dsimp only [KswPost]))))
      · rename Fr _ _ _ _ => F7
        rename News _ _ _ _ => N7
        rename (_ : Int) < _ => hbig
        rw [hcs] at hbig
        exact okc _ led frs₁ _ _ _ F7 (TI.SameUp.refl _) (fun p hp => drop3 (fun p hp => N7 p (.tail _ hp)) p hp) hnd ⟨[], rfl, (fun _ h => nomatch h), .inl ⟨by rw [if_pos (by (first | assumption | omega))], rfl, rfl⟩⟩
      · rename KBw.bInts (KBy.picked _ _ _) = _ => hpk
        rename IsRange _ _ _ _ _ _ _ _ => HR
        rename Fr _ _ _ _ => F7
        rename News _ _ _ _ => N7
        rename ¬ (_ : Int) < (_ : Int) + _ => hbig
        rw [hcs] at hbig hpk F7 ⊢
        have hbig' : ¬ ((j + 5 : Nat) : Int) + count > ks.length := by (first | assumption | omega)
        rw [if_neg hbig'] at okc
        have hpk2 : KBy.picked b (some ((j : Int) + 5)) (some ((j : Int) + 5 + count)) = byteArr ((ks.drop (j + 5)).take count.toNat) := by
          rw [← byteArr_bInts (KBy.picked b (some ((j : Int) + 5)) (some ((j : Int) + 5 + count))), hpk]
          rw [clipAt_in (by (first | (clear hcs; lia) | (clear hlen hcs; lia) | omega)) (by (first | exact Int.not_lt.mp hbig | omega)), clipAt_in (by lia) (by (first | (clear hcs; lia) | omega)), show ((j : Int) + 5).toNat = j + 5 by (first | exact (Int.toNat_natCast _) | omega), show ((j : Int) + 5 + count).toNat - (j + 5) = count.toNat by (first | (clear hlen hsp hcs; lia) | (clear hlen hsp hcs; omega) | omega)]
        rw [hpk2] at F7 ⊢
        clear hpk hpk2
        have hoin : ∀ k ∈ (ks.drop (j + 5)).take count.toNat, 0 ≤ k ∧ k < 256 := fun k hk => hin k (List.mem_of_mem_drop (List.mem_of_mem_take hk))
        have hol : ((ks.drop (j + 5)).take count.toNat).length ≤ ks.length := by rw [List.length_take, List.length_drop]; (first | (clear hsp hcs; omega) | (clear hlen haj ha hsp hcs; omega) | omega)
        generalize hoct : (ks.drop (j + 5)).take count.toNat = oct at *
        have hob := bInts_byteArr hoin
        try dsimp only
        try dsimp only at F7 N7 HR
        refine LCg.CompSrc.range rfl F7 N7 HR (by decide) (show Builtin.Range.rangeSize 0 4 1 = ((4 : Nat) : Int) by decide) (Nat.le_of_ble_eq_true rfl) fun g => compRest_fix (fun i ys => IntsAre ys ((List.range i).map fun p => ks.getD (j + 1 + p) 0 * 256 ^ (3 - p))) .nil ?_ ?_
        · intro i ys v I oI C1 oC D m₂ hp tk hi hys q13 hC hx1 F6 N6 off ne E'
          obtain ⟨tv, rfl⟩ := q13
          have hlt : j + 1 + i < ks.length := by (first | (clear hcs; lia) | omega)
          clear F7 N7 HR
          clear hdgj hcnt hrc' hsp hrs hcs hbig hbig' hgj hsu
          (repeat' (first | ((((fail_if_success k_end); (fail_if_success (with_reducible show wpAny _ _ (exec (Stmt.While _ _ _ _) _) _ _ _)); (fail_if_success (with_reducible show wpAny _ _ (exec (Stmt.For _ _ _ _ _) _) _ _ _)))); (fail_if_success (with_reducible show wpAny _ _ (binaryOp Operator.Pow (Value.int _ _) (Value.int _ _)) _ _ _)); ((first | walk1 | (dsimp only; walk1)))) | (first | ((with_reducible show Frag.In _ _ ∧ _); refine ⟨by k_in, ?_⟩; try dsimp only [List.nil_append, List.cons_append]) | ((with_reducible show KswPost _ _ _ _ _ _ _ _ _ _ _ _ _ _); dsimp only [KswPost]))))
          refine pow_int_small (by (first | lia | omega)) (by (first | (clear hi; lia) | omega)) (by decide) ?_
          (repeat' (first | ((((fail_if_success k_end); (fail_if_success (with_reducible show wpAny _ _ (exec (Stmt.While _ _ _ _) _) _ _ _)); (fail_if_success (with_reducible show wpAny _ _ (exec (Stmt.For _ _ _ _ _) _) _ _ _)))); ((first | walk1 | (dsimp only; walk1)))) | (first | ((with_reducible show Frag.In _ _ ∧ _); refine ⟨by k_in, ?_⟩; try dsimp only [List.nil_append, List.cons_append]) | ((with_reducible show KswPost _ _ _ _ _ _ _ _ _ _ _ _ _ _); dsimp only [KswPost]))))
          refine LCg.CompEnd.intro F6 N6 _ (fun p hp => hp) off trivial ⟨rfl, ?_⟩
          rw [List.range_succ, List.map_append]
          refine snocE hys ?_
          exact s4_el ks j i hi
        · intro ys2 hys2 D2 hp2 tk2 F8 N8 off2
          clear F7 N7 HR
          (repeat' (first | ((((fail_if_success k_end); (fail_if_success (with_reducible show wpAny _ _ (exec (Stmt.While _ _ _ _) _) _ _ _)); (fail_if_success (with_reducible show wpAny _ _ (exec (Stmt.For _ _ _ _ _) _) _ _ _)))); ((first | walk1 | (dsimp only; walk1)))) | (first | ((with_reducible show Frag.In _ _ ∧ _); refine ⟨by k_in, ?_⟩; try dsimp only [List.nil_append, List.cons_append]) | ((with_reducible show KswPost _ _ _ _ _ _ _ _ _ _ _ _ _ _); dsimp only [KswPost]))))
          rename Fr _ _ _ _ => F9
          rename News _ _ _ _ => N9
          clear F8 N8
          have hs4 : ((List.range 4).map fun p => ks.getD (j + 1 + p) 0 * 256 ^ (3 - p)).sum = s4 ks (j + 1) := rfl
          rw [hs4]
          refine Con.useV (con_law_adler prog w _ _ oct hob (by (first | exact Nat.le_trans hol hlen | omega)) _) F9 N9 X T Fs (fun p hp => .tail _ (.tail _ (.tail _ (.tail _ (.tail _ (List.mem_append_right _ hp)))))) rfl rfl (by (first | exact ltd hd rfl | omega)) (by (first | exact ltu hu rfl | omega)) (fun t6 h' tk' F1 N1 => ?_)
          clear F9 N9
          try dsimp only [List.nil_append] at F1 N1 ⊢
          obtain ⟨na, hna, hna2⟩ := ad_nat oct
          rw [hna] at okc ⊢
          rw [Int.toNat_natCast] at okc
          have hiff := s4_iff hin (q := j + 1) (n := na) (by (first | (clear hcs; lia) | omega)) hna2
          (repeat' (first | ((((fail_if_success k_end); (fail_if_success (with_reducible show wpAny _ _ (exec (Stmt.While _ _ _ _) _) _ _ _)); (fail_if_success (with_reducible show wpAny _ _ (exec (Stmt.For _ _ _ _ _) _) _ _ _)))); ((first | walk1 | (dsimp only; walk1)))) | (first | ((with_reducible show Frag.In _ _ ∧ _); refine ⟨by k_in, ?_⟩; try dsimp only [List.nil_append, List.cons_append]) | ((with_reducible show KswPost _ _ _ _ _ _ _ _ _ _ _ _ _ _); dsimp only [KswPost]))))
          · rename (_ : Int) ≠ _ => hne
            rw [if_pos (fun z => hne (hiff.mpr z))] at okc
            exact okc _ led frs₁ _ _ _ F1 (TI.SameUp.refl _) (fun p hp => N1 p (.tail _ (.tail _ (.tail _ (.tail _ (.tail _ hp)))))) hnd ⟨[], rfl, (fun _ h => nomatch h), .inl ⟨rfl, rfl, rfl⟩⟩
          · have heq : s4 ks (j + 1) = (na : Int) := by omega
            rw [if_neg (fun z => z (hiff.mp heq))] at okc
            have N3 : News h₀ L' h' (led ++ frs₁) := fun p hp => N1 p (.tail _ (.tail _ (.tail _ (.tail _ (.tail _ hp)))))
            clear N1
            refine ConC.use (frs := frs₁) (con_law_row_of prog w _ _ oct hob (by (first | exact Nat.le_trans hol hlen | omega)) led) F1 N3 X T Fs hnd rfl rfl (by (first | exact ltd hd rfl | omega)) (by (first | exact ltu hu rfl | omega)) (fun r tl frs2 h' tk' F2 su2 N2 nd2 hr => ?_)
            clear F1 N3
            dsimp only at F2 N2 ⊢
            obtain ⟨htt, hr⟩ := hr
            rcases hr with ⟨hno, rfl, rfl⟩ | ⟨d, hso, hdv⟩
            · rw [hno] at okc
              (repeat' (first | ((((fail_if_success k_end); (fail_if_success (with_reducible show wpAny _ _ (exec (Stmt.While _ _ _ _) _) _ _ _)); (fail_if_success (with_reducible show wpAny _ _ (exec (Stmt.For _ _ _ _ _) _) _ _ _)))); ((first | walk1 | (dsimp only; walk1)))) | (first | ((with_reducible show Frag.In _ _ ∧ _); refine ⟨by k_in, ?_⟩; try dsimp only [List.nil_append, List.cons_append]) | ((with_reducible show KswPost _ _ _ _ _ _ _ _ _ _ _ _ _ _); dsimp only [KswPost]))))
              rename Fr _ _ _ _ => F7
              rename News _ _ _ _ => N7
              exact okc _ led frs2 _ _ _ F7 su2 N7 hnd ⟨[], rfl, (fun _ h => nomatch h), .inl ⟨rfl, rfl, rfl⟩⟩
            · rw [hso] at okc
              obtain ⟨la, rfl⟩ := hdv.ofRow (rrow_isRow hso)
              (repeat' (first | ((((fail_if_success k_end); (fail_if_success (with_reducible show wpAny _ _ (exec (Stmt.While _ _ _ _) _) _ _ _)); (fail_if_success (with_reducible show wpAny _ _ (exec (Stmt.For _ _ _ _ _) _) _ _ _)))); ((first | walk1 | (dsimp only; walk1)))) | (first | ((with_reducible show Frag.In _ _ ∧ _); refine ⟨by k_in, ?_⟩; try dsimp only [List.nil_append, List.cons_append]) | ((with_reducible show KswPost _ _ _ _ _ _ _ _ _ _ _ _ _ _); dsimp only [KswPost]))))
              rename Fr _ _ _ _ => F7
              rename News _ _ _ _ => N7
              rw [← List.append_assoc, show (j : Int) + 5 + count = ((j + 5 + count.toNat : Nat) : Int) by (first | (clear hcs; lia) | omega)] at N7
              refine okc _ (_ :: (tl ++ led)) frs2 _ _ _ F7 su2 N7 (fun q hq => ?_) ⟨_ :: tl, rfl, fun q hq => ?_, .inr ⟨d, j + 5 + count.toNat, .ref la, _, _, rfl, by (first | (clear hcs hbig; lia) | omega), rfl, .head _, DV.mono (fun q hq => .tail _ hq) hdv⟩⟩
              · rcases List.mem_cons.mp hq with rfl | hq
                · rfl
                · rcases List.mem_append.mp hq with hq | hq
                  · exact (htt q hq).2
                  · exact hnd q hq
              · rcases List.mem_cons.mp hq with rfl | hq
                · exact ⟨rfl, rfl⟩
                · exact htt q hq

end

section
def DueRet (ks : List Int) (tl : Led) (r : Value) : Prop :=
  ∃ l D E vs zs tla, tl = (l, tupO [.ref D, .ref E]) :: (E, lst zs) :: (D, lst vs) :: tla ∧ r = .ref l ∧ (∀ q ∈ tla, Tup q) ∧ DVs tla ((al ks).map (·.1)) vs ∧ IntsAre zs ((al ks).map fun p => (p.2 : Int))
theorem con_law_due (prog : Program) (w : World) (b : Array UInt8) (tb : Tok) (ks : List Int) (hks : KBw.bInts b = ks) (hlen : ks.length ≤ 9000) (led : Led) :
    ConG prog w 245 [.bytes b tb] 58 led (fun led' r => ∃ tl, led' = tl ++ led ∧ DueRet ks tl r) := by
  intro dp un gd env outer frs h₀ L m s p loose mean mg mb R hnd C ok
  have X := C.X
  have T := C.T
  have hd := C.hd
  have hu := C.hu
  (k_dflt (refine' enterG ?kD ?kC ?kO ?k6 ?k7 ?k9 ?kB ?kn ?c2 ?c3 ?c4 ?c5 ?_; (case kC => assumption); (case kO => assumption); (case kD => assumption); (case k6 => k_is); (case k7 => k_is); (case k9 => first | exact BindsTo.of_eq rfl | fail "defaults"); (case c5 => decide); (case kB => exact locs rfl); (case kn => first | decide | omega); (case c2 => exact rfl); (case c3 => exact rfl); (case c4 => exact rfl); k_whole))
  intro L' h₁ tk₁ frs₁ Qc Ec F N Fs Lt okc hE hE2
  have hin : ∀ k ∈ ks, 0 ≤ k ∧ k < 256 := hks ▸ fun k hk => KBw.ints_in hk
  (repeat' (first | ((((fail_if_success k_end); (fail_if_success (with_reducible show wpAny _ _ (exec (Stmt.While _ _ _ _) _) _ _ _)); (fail_if_success (with_reducible show wpAny _ _ (exec (Stmt.For _ _ _ _ _) _) _ _ _)))); ((first | walk1 | (dsimp only; walk1)))) | (first | ((with_reducible show Frag.In _ _ ∧ _); refine ⟨by k_in, ?_⟩; try dsimp only [List.nil_append, List.cons_append]) | ((with_reducible show KswPost _ _ _ _ _ _ _ _ _ _ _ _ _ _); dsimp only [KswPost]))))
  rename_i D _ l1 _ _ E _ l2 _ F1 N1
  have hDE : D ≠ E := Nat.ne_of_lt l2.1
  have N1 : News h₀ L' _ (((E, lst []) :: (D, lst []) :: led) ++ frs₁) := N1
  have hndD : ∀ q ∈ ((E, lst []) :: (D, lst []) :: led : Led), TI.notDict q = true := fun q hq => by
    rcases List.mem_cons.mp hq with rfl | hq
    · rfl
    · rcases List.mem_cons.mp hq with rfl | hq
      · rfl
      · exact hnd q hq
  refine ConG.use (frs := frs₁) (con_law_frame_at prog w b tb ks hks hlen 0 (Nat.zero_le _) _ ((E, lst []) :: (D, lst []) :: led)) F1 N1 X T Fs hndD rfl rfl (by (exact Nat.le_of_lt hd)) (by (exact ltu hu rfl)) (fun r ledx frs2 h' tk' F2 su2 N2 nd2 hr => ?_)
  obtain ⟨tl, rfl, hr⟩ := hr
  obtain ⟨htt, hfd⟩ := hr.found
  clear F1 N1 hr nd2
  dsimp only at F2 N2 ⊢
  have N3 : News h₀ L' h' ((E, lst []) :: (D, lst []) :: (tl ++ (led ++ frs2))) := fun p hp => N2 p (by
    rw [List.append_assoc]
    rcases List.mem_cons.mp hp with rfl | hp
    · exact List.mem_append_right _ (.head _)
    · rcases List.mem_cons.mp hp with rfl | hp
      · exact List.mem_append_right _ (.tail _ (.head _))
      · rcases List.mem_append.mp hp with hp | hp
        · exact List.mem_append_left _ hp
        · exact List.mem_append_right _ (.tail _ (.tail _ hp)))
  clear N2
  (repeat' (first | ((((fail_if_success k_end); (fail_if_success (with_reducible show wpAny _ _ (exec (Stmt.While _ _ _ _) _) _ _ _)); (fail_if_success (with_reducible show wpAny _ _ (exec (Stmt.For _ _ _ _ _) _) _ _ _)))); ((first | walk1 | (dsimp only; walk1)))) | (first | ((with_reducible show Frag.In _ _ ∧ _); refine ⟨by k_in, ?_⟩; try dsimp only [List.nil_append, List.cons_append]) | ((with_reducible show KswPost _ _ _ _ _ _ _ _ _ _ _ _ _ _); dsimp only [KswPost]))))
  rename Fr _ _ _ _ => F3
  rename News _ _ _ _ => N4
  have lDE : ∀ frs', TI.SameUp frs₁ frs' → ∀ p ∈ led ++ frs', p.1 ≠ D ∧ p.1 ≠ E := fun frs' su p hp => by
    have key : ∀ x ∈ led ++ frs₁, x.1 ≠ D ∧ x.1 ≠ E := fun x hx => ⟨Nat.ne_of_lt (l1 x hx), Nat.ne_of_lt (Nat.lt_trans (l1 x hx) l2.1)⟩
    rcases List.mem_append.mp hp with hp | hp
    · exact key p (List.mem_append_left _ hp)
    · obtain ⟨x, hx, e⟩ := TI.SameUp.fwd su p hp
      rw [e]
      exact key x (List.mem_append_right _ hx)
  refine ksw_while (σ := Led × Nat × List (Dat × Nat) × List Value × List Value × Led × Value × Nat)
    (fun c => (E, lst c.2.2.2.2.1) :: (D, lst c.2.2.2.1) :: (c.2.2.2.2.2.1 ++ (led ++ c.1)))
    (fun c => [("rows", .ref D), ("ends", .ref E), ("found", c.2.2.2.2.2.2.1)])
    (fun _ => True) []
    (fun c => TI.SameUp frs₁ c.1 ∧ c.2.1 ≤ ks.length ∧ ks.length - c.2.1 < c.2.2.2.2.2.2.2 ∧ al ks = c.2.2.1 ++ rr ks c.2.2.2.2.2.2.2 c.2.1 ∧ DVs c.2.2.2.2.2.1 (c.2.2.1.map (·.1)) c.2.2.2.1 ∧ IntsAre c.2.2.2.2.1 (c.2.2.1.map fun p => (p.2 : Int)) ∧ (∀ q ∈ c.2.2.2.2.2.1, Tup q)
      ∧ Found (rat ks c.2.1) ks.length c.2.2.2.2.2.1 c.2.2.2.2.2.2.1 ∧ c.2.2.1.length ≤ c.2.1)
    (fun c => ks.length - c.2.1) (frs2, 0, [], [], [], tl, r, ks.length + 1) F3 N4 trivial (by (((repeat' (first | exact List.forall_mem_nil _ | refine List.forall_mem_cons.mpr ⟨rfl, ?_⟩))))) ⟨su2, Nat.zero_le _, by dsimp only; (exact Nat.lt_succ_self _), rfl, .nil, .nil, htt, hfd, Nat.le_refl _⟩ ?_ hE
  refine all8 (fun frs3 e acc ys zs tla fv n => ?_)
  intro u h tk _ q5 F4 N5
  have su3 := q5.1
  have hel := q5.2.1
  have hn := q5.2.2.1
  have hal := q5.2.2.2.1
  have hys := q5.2.2.2.2.1
  have hzs := q5.2.2.2.2.2.1
  have htl := q5.2.2.2.2.2.2.1
  have hfo := q5.2.2.2.2.2.2.2.1
  have hac := q5.2.2.2.2.2.2.2.2
  clear q5
  dsimp only at su3 hel hn hal hys hzs htl hfo hac F4 N5 ⊢
  clear F3 N4 hfd htt
  have Fs3 := TI.Frs.up Fs su3
  obtain ⟨k, hk⟩ : ∃ k, n = k + 1 := ⟨n - 1, by lia⟩
  subst hk
  rcases hfo with ⟨hno, rfl⟩ | ⟨d, e2, v, l, t5, hso, he2, rfl, hl, hdv⟩
  · rw [rr, hno, List.append_nil] at hal
    (repeat' (first | ((((fail_if_success k_end); (fail_if_success (with_reducible show wpAny _ _ (exec (Stmt.While _ _ _ _) _) _ _ _)); (fail_if_success (with_reducible show wpAny _ _ (exec (Stmt.For _ _ _ _ _) _) _ _ _)))); ((first | walk1 | (dsimp only; walk1)))) | (first | ((with_reducible show Frag.In _ _ ∧ _); refine ⟨by k_in, ?_⟩; try dsimp only [List.nil_append, List.cons_append]) | ((with_reducible show KswPost _ _ _ _ _ _ _ _ _ _ _ _ _ _); dsimp only [KswPost]))))
    rename Fr _ _ _ _ => F6
    rename News _ _ _ _ => N6
    refine okc _ (_ :: (E, lst zs) :: (D, lst ys) :: (tla ++ led)) frs3 _ _ _ F6 su3 (by show News h₀ L' _ (_ :: (E, lst zs) :: (D, lst ys) :: ((tla ++ led) ++ frs3)); rw [List.append_assoc]; exact N6) (fun q hq => ?_) ⟨_ :: (E, lst zs) :: (D, lst ys) :: tla, rfl, _, D, E, ys, zs, tla, rfl, rfl, htl, by rw [hal]; exact hys, by rw [hal]; exact hzs⟩
    rcases List.mem_cons.mp hq with rfl | hq
    · rfl
    · rcases List.mem_cons.mp hq with rfl | hq
      · rfl
      · rcases List.mem_cons.mp hq with rfl | hq
        · rfl
        · rcases List.mem_append.mp hq with hq | hq
          · exact (htl q hq).2
          · exact hnd q hq
  · have hup := rat_up hin hso
    rw [rr, hso] at hal
    dsimp only at hal
    have N6 : News h₀ L' h ((l, tupO [v, .int ((e2 : Nat) : Int) t5]) :: (E, lst zs) :: (D, lst ys) :: (tla ++ (led ++ frs3))) := fun p hp => N5 p (by
      rcases List.mem_cons.mp hp with rfl | hp
      · exact .tail _ (.tail _ (List.mem_append_left _ hl))
      · exact hp)
    have neDE : ∀ p ∈ tla ++ (led ++ frs3), p.1 ≠ D ∧ p.1 ≠ E := fun p hp => by
      rcases List.mem_append.mp hp with hp | hp
      · exact ⟨News.apart N5 (p := p) (q := (D, lst ys)) (.tail _ (.tail _ (List.mem_append_left _ hp))) (.tail _ (.head _)) (by rw [(htl p hp).1]; show Value.type "tuple" ≠ Value.type "list"; decide),
          News.apart N5 (p := p) (q := (E, lst zs)) (.tail _ (.tail _ (List.mem_append_left _ hp))) (.head _) (by rw [(htl p hp).1]; show Value.type "tuple" ≠ Value.type "list"; decide)⟩
      · exact lDE frs3 su3 p hp
    have neD : ∀ p ∈ tla ++ (led ++ frs3), p.1 ≠ D := fun p hp => (neDE p hp).1
    have neE : ∀ p ∈ tla ++ (led ++ frs3), p.1 ≠ E := fun p hp => (neDE p hp).2
    have hyl := hys.len
    rw [List.length_map] at hyl
    have hzl := hzs.length
    rw [List.length_map] at hzl
    (repeat' (first | ((((fail_if_success k_end); (fail_if_success (with_reducible show wpAny _ _ (exec (Stmt.While _ _ _ _) _) _ _ _)); (fail_if_success (with_reducible show wpAny _ _ (exec (Stmt.For _ _ _ _ _) _) _ _ _)))); ((first | walk1 | (dsimp only; walk1)))) | (first | ((with_reducible show Frag.In _ _ ∧ _); refine ⟨by k_in, ?_⟩; try dsimp only [List.nil_append, List.cons_append]) | ((with_reducible show KswPost _ _ _ _ _ _ _ _ _ _ _ _ _ _); dsimp only [KswPost]))))
    have N7 : News h₀ L' h ((D, lst ys) :: (E, lst zs) :: (tla ++ (led ++ frs3))) := fun p hp => N5 p (by
      rcases List.mem_cons.mp hp with rfl | hp
      · exact .tail _ (.head _)
      · rcases List.mem_cons.mp hp with rfl | hp
        · exact .head _
        · exact .tail _ (.tail _ hp))
    have neD' : ∀ p ∈ (E, lst zs) :: (tla ++ (led ++ frs3)), p.1 ≠ D := fun p hp => by
      rcases List.mem_cons.mp hp with rfl | hp
      · exact Ne.symm hDE
      · exact neD p hp
    refine append_head (rest := (E, lst zs) :: (tla ++ (led ++ frs3))) F4 (fun p hp => N7 p hp) neD' (fun h9 F9 N9 => ?_) (by rw [List.size_toArray, hyl, sizeLine_eq]; (clear hyl hzl; lia))
    dsimp only at F9 N9 ⊢
    clear F4 N5 N6 N7
    rw [lst_snoc] at N9
    have N10 : News h₀ L' h9 ((l, tupO [v, .int ((e2 : Nat) : Int) t5]) :: (D, lst (ys ++ [v])) :: (E, lst zs) :: (tla ++ (led ++ frs3))) := fun p hp => N9 p (by
      rcases List.mem_cons.mp hp with rfl | hp
      · exact .tail _ (.tail _ (List.mem_append_left _ hl))
      · exact hp)
    (repeat' (first | ((((fail_if_success k_end); (fail_if_success (with_reducible show wpAny _ _ (exec (Stmt.While _ _ _ _) _) _ _ _)); (fail_if_success (with_reducible show wpAny _ _ (exec (Stmt.For _ _ _ _ _) _) _ _ _)))); ((first | walk1 | (dsimp only; walk1)))) | (first | ((with_reducible show Frag.In _ _ ∧ _); refine ⟨by k_in, ?_⟩; try dsimp only [List.nil_append, List.cons_append]) | ((with_reducible show KswPost _ _ _ _ _ _ _ _ _ _ _ _ _ _); dsimp only [KswPost]))))
    rename Fr _ _ _ _ => F8
    rename News _ _ _ _ => NX
    rw [show zs.length + 1 = (zs ++ [Value.int ((e2 : Nat) : Int) t5]).length by simp] at NX
    have N8 : News h₀ L' _ ((E, lst (zs ++ [Value.int ((e2 : Nat) : Int) t5])) :: (D, lst (ys ++ [v])) :: (tla ++ (led ++ frs3))) := fun p hp => NX p (by
      rcases List.mem_cons.mp hp with rfl | hp
      · exact .tail _ (.head _)
      · rcases List.mem_cons.mp hp with rfl | hp
        · exact .head _
        · exact .tail _ (.tail _ hp))
    clear NX
    try clear F9
    try clear N9 N10
    have N10 : News h₀ L' _ ((l, tupO [v, .int ((e2 : Nat) : Int) t5]) :: (E, lst (zs ++ [Value.int ((e2 : Nat) : Int) t5])) :: (D, lst (ys ++ [v])) :: (tla ++ (led ++ frs3))) := fun p hp => N8 p (by
      rcases List.mem_cons.mp hp with rfl | hp
      · exact .tail _ (.tail _ (List.mem_append_left _ hl))
      · exact hp)
    (repeat' (first | ((((fail_if_success k_end); (fail_if_success (with_reducible show wpAny _ _ (exec (Stmt.While _ _ _ _) _) _ _ _)); (fail_if_success (with_reducible show wpAny _ _ (exec (Stmt.For _ _ _ _ _) _) _ _ _)))); ((first | walk1 | (dsimp only; walk1)))) | (first | ((with_reducible show Frag.In _ _ ∧ _); refine ⟨by k_in, ?_⟩; try dsimp only [List.nil_append, List.cons_append]) | ((with_reducible show KswPost _ _ _ _ _ _ _ _ _ _ _ _ _ _); dsimp only [KswPost]))))
    have hnd2 : ∀ q ∈ ((E, lst (zs ++ [Value.int ((e2 : Nat) : Int) t5])) :: (D, lst (ys ++ [v])) :: (tla ++ led) : Led), TI.notDict q = true := fun q hq => by
      rcases List.mem_cons.mp hq with rfl | hq
      · rfl
      · rcases List.mem_cons.mp hq with rfl | hq
        · rfl
        · rcases List.mem_append.mp hq with hq | hq
          · exact (htl q hq).2
          · exact hnd q hq
    have N12 : News h₀ L' _ (((E, lst (zs ++ [Value.int ((e2 : Nat) : Int) t5])) :: (D, lst (ys ++ [v])) :: (tla ++ led)) ++ frs3) := fun p hp => N8 p (by
      rw [List.cons_append, List.cons_append, List.append_assoc] at hp
      exact hp)
    refine ConG.use (frs := frs3) (con_law_frame_at prog w b tb ks hks hlen e2 he2 _ _) F8 N12 X T Fs3 hnd2 rfl rfl (by (exact Nat.le_of_lt hd)) (by (exact ltu hu rfl)) (fun r2 ledx frs4 h' tk' F2 su4 N2 nd2 hr => ?_)
    obtain ⟨tl2, rfl, hr⟩ := hr
    obtain ⟨htt, hfd⟩ := hr.found
    clear F8 N8 N12 N10
    dsimp only at F2 N2 ⊢
    have N3 : News h₀ L' h' ((E, lst (zs ++ [Value.int ((e2 : Nat) : Int) t5])) :: (D, lst (ys ++ [v])) :: ((tl2 ++ tla) ++ (led ++ frs4))) := fun p hp => N2 p (by
      rw [List.append_assoc]
      rcases List.mem_cons.mp hp with rfl | hp
      · exact List.mem_append_right _ (List.mem_append_left _ (.head _))
      · rcases List.mem_cons.mp hp with rfl | hp
        · exact List.mem_append_right _ (List.mem_append_left _ (.tail _ (.head _)))
        · rcases List.mem_append.mp hp with hp | hp
          · rcases List.mem_append.mp hp with hp | hp
            · exact List.mem_append_left _ hp
            · exact List.mem_append_right _ (List.mem_append_left _ (.tail _ (.tail _ (List.mem_append_left _ hp))))
          · rcases List.mem_append.mp hp with hp | hp
            · exact List.mem_append_right _ (List.mem_append_left _ (.tail _ (.tail _ (List.mem_append_right _ hp))))
            · exact List.mem_append_right _ (List.mem_append_right _ hp))
    clear N2
    (repeat' (first | ((((fail_if_success k_end); (fail_if_success (with_reducible show wpAny _ _ (exec (Stmt.While _ _ _ _) _) _ _ _)); (fail_if_success (with_reducible show wpAny _ _ (exec (Stmt.For _ _ _ _ _) _) _ _ _)))); ((first | walk1 | (dsimp only; walk1)))) | (first | ((with_reducible show Frag.In _ _ ∧ _); refine ⟨by k_in, ?_⟩; try dsimp only [List.nil_append, List.cons_append]) | ((with_reducible show KswPost _ _ _ _ _ _ _ _ _ _ _ _ _ _); dsimp only [KswPost]))))
    refine ksw_end (frs4, e2, acc ++ [(d, e2)], ys ++ [v], zs ++ [Value.int ((e2 : Nat) : Int) t5], tl2 ++ tla, r2, k) (by k_asm) (by k_asm) (fun _ h => h) trivial (by (((repeat' (first | exact List.forall_mem_nil _ | refine List.forall_mem_cons.mpr ⟨rfl, ?_⟩))))) (by ((intro z h2 h3; simp only [List.forall_mem_cons, List.not_mem_nil, false_implies, implies_true, and_true, ne_eq] at h2; simp only [List.contains_cons, List.contains_nil, Bool.or_false, Bool.or_eq_false_iff, beq_eq_false_iff_ne, ne_eq] at h3; simp [h2, h3, kstB]))) ⟨su3.trans su4, he2, by dsimp only; (clear he2; lia), by rw [hal]; simp, ?_, ?_, fun q hq => ?_, hfd.mono fun q hq => List.mem_append_left _ hq, by dsimp only; rw [List.length_append, List.length_singleton]; (exact Nat.lt_of_le_of_lt hac hup.1)⟩ (by show ks.length - e2 < ks.length - e; (clear he2; lia))
    · dsimp only
      rw [List.map_append]
      exact (DVs.mono (fun q hq => List.mem_append_right _ hq) hys).snoc (DV.mono (fun q hq => List.mem_append_right _ hq) hdv)
    · dsimp only
      rw [List.map_append]
      exact IntsAre.snoc hzs _ _
    · rcases List.mem_append.mp hq with hq | hq
      · exact htt q hq
      · exact htl q hq

end

section
theorem nds_app (xs ys : List Dat) (N : Nat) (h1 : nds xs ≤ N) (h2 : nds ys ≤ N) : nds (xs ++ ys) ≤ N := by
  induction xs with
  | nil => exact h2
  | cons d ds ih =>
    rw [nds] at h1
    rw [List.cons_append, nds]
    have := ih (by lia)
    lia
theorem nds_one {d : Dat} {N : Nat} (h : nd d ≤ N) : nds [d] ≤ N := by
  have := nd_ge d
  rw [nds, nds]; lia
theorem rs_nd {g : Nat → Option (Dat × Nat)} {N : Nat} (hg : ∀ a d e, g a = some (d, e) → nd d ≤ N) : ∀ (n a : Nat) (acc ds : List Dat) (e : Nat), nds acc ≤ N → rs g n a acc = some (ds, e) → nds ds ≤ N
  | 0, a, acc, ds, e, h1, h => by rw [rs] at h; cases h; exact h1
  | n + 1, a, acc, ds, e, h1, h => by
    rw [rs] at h
    split at h
    · cases h
    · rename_i d e' hd
      exact rs_nd hg n _ _ ds e (nds_app _ _ N h1 (nds_one (hg _ _ _ hd))) h
theorem rvG_nd {ks : List Int} {row : Nat → Int → Option (Dat × Nat)} {N : Nat} (h8 : 8 ≤ N) (hr : ∀ a m d e, row a m = some (d, e) → nd d ≤ N) {a : Nat} {d : Dat} {e : Nat} (h : rvG ks row a = some (d, e)) : nd d ≤ N := by
  unfold rvG at h
  split at h
  · cases h
  split at h
  · split at h
    · cases h
    · split at h
      · cases h; rw [nd] <;> first | exact h8 | (intros; contradiction)
      · split at h
        · cases hr : rtext ks (a + 1 + _) _ with
          | none => rw [hr] at h; cases h
          | some p => rw [hr] at h; cases h; rw [nd] <;> first | exact h8 | (intros; contradiction)
        · split at h
          · exact hr _ _ _ _ h
          · split at h
            · cases h
            · cases h; rw [nd] <;> first | exact h8 | (intros; contradiction)
  · cases h
theorem rv_nd (ks : List Int) : ∀ (f a : Nat) (d : Dat) (e : Nat), rv ks f a = some (d, e) → nd d ≤ 9 + f
  | 0, a, d, e, h => rvG_nd (by (exact Nat.le_succ _)) (fun a m d e h => by cases h) h
  | f + 1, a, d, e, h => by
    refine rvG_nd (by (simp +arith)) (fun a m d e h => ?_) h
    unfold rsome at h
    dsimp only at h
    cases hr : rs (rv ks f) (turns m ks.length a) a [] with
    | none => rw [hr] at h; cases h
    | some p =>
      rw [hr] at h
      cases h
      have := rs_nd (N := 9 + f) (fun a d e => rv_nd ks f a d e) _ _ [] p.1 p.2 (by rw [nds]; (simp +arith)) hr
      rw [nd]; lia
theorem rrow_nd {ks : List Int} {d : Dat} (h : rrow ks = some d) : nd d ≤ 29 := by
  unfold rrow at h
  split at h
  · cases h
  · rename_i d' e hv
    split at h
    · cases h
    · split at h
      · cases h; exact rv_nd _ _ _ _ _ hv
      · cases h
theorem rat_nd {ks : List Int} {a : Nat} {d : Dat} {e : Nat} (h : rat ks a = some (d, e)) : nd d ≤ 29 := by
  unfold rat at h
  split at h
  · cases h
  · split at h
    · cases h
    · split at h
      · cases h
      · split at h
        · cases h
        · rename_i hr
          cases h
          exact rrow_nd hr
theorem rr_nd (ks : List Int) : ∀ (n a : Nat), nds ((rr ks n a).map (·.1)) ≤ 29
  | 0, a => by rw [rr, List.map_nil, nds]; (exact Nat.le_add_left _ _)
  | n + 1, a => by
    rw [rr]
    cases h : rat ks a with
    | none => dsimp only; rw [List.map_nil, nds]; (exact Nat.le_add_left _ _)
    | some p =>
      obtain ⟨d, e⟩ := p
      dsimp only
      rw [List.map_cons, nds]
      have h1 := rat_nd h
      have h2 := rr_nd ks n e
      dsimp only at h2 ⊢
      lia
/-- behind the last frame that is read none begins -/
theorem rr_end {ks : List Int} (hin : ∀ k ∈ ks, 0 ≤ k ∧ k < 256) : ∀ (n a : Nat), ks.length - a < n → rat ks (match (rr ks n a).getLast? with | none => a | some p => p.2) = none
  | 0, a, h => by lia
  | n + 1, a, h => by
    rw [rr]
    cases hr : rat ks a with
    | none => exact hr
    | some p =>
      obtain ⟨d, e⟩ := p
      dsimp only
      have hup := rat_up hin hr
      have ih := rr_end hin n e (by omega)
      cases hq : rr ks n e with
      | nil => rw [hq] at ih; exact ih
      | cons q r =>
        rw [hq] at ih
        rw [List.getLast?_cons_cons]
        exact ih
theorem al_end {ks : List Int} (hin : ∀ k ∈ ks, 0 ≤ k ∧ k < 256) : rat ks (lastEnd (al ks)) = none := rr_end hin (ks.length + 1) 0 (by (exact Nat.lt_succ_self _))
theorem rr_le {ks : List Int} (hin : ∀ k ∈ ks, 0 ≤ k ∧ k < 256) : ∀ (n a : Nat), ∀ p ∈ rr ks n a, p.2 ≤ ks.length
  | 0, a, p, hp => by rw [rr] at hp; cases hp
  | n + 1, a, p, hp => by
    rw [rr] at hp
    cases hr : rat ks a with
    | none => rw [hr] at hp; cases hp
    | some q =>
      obtain ⟨d, e⟩ := q
      rw [hr] at hp
      rcases List.mem_cons.mp hp with rfl | hp
      · exact (rat_up hin hr).2
      · exact rr_le hin n e p hp
theorem lastEnd_le {ks : List Int} (hin : ∀ k ∈ ks, 0 ≤ k ∧ k < 256) : lastEnd (al ks) ≤ ks.length := by
  unfold lastEnd
  cases h : (al ks).getLast? with
  | none => exact Nat.zero_le _
  | some p => exact rr_le hin _ _ p (List.mem_of_getLast? h)
theorem last_getD (acc : List (Dat × Nat)) (q : Dat × Nat) : ((acc.map fun p => (p.2 : Int)) ++ [q].map fun p => (p.2 : Int)).getD ((-1 : Int) + (((acc.map fun p => (p.2 : Int)) ++ [q].map fun p => (p.2 : Int)).length : Nat)).toNat 0 = (q.2 : Int) := by
  have e : ((-1 : Int) + (((acc.map fun p => (p.2 : Int)) ++ [q].map fun p => (p.2 : Int)).length : Nat)).toNat = acc.length := by
    rw [List.length_append, List.length_map, List.length_map, List.length_singleton]
    (simp +arith)
  rw [e, List.getD_eq_getElem?_getD, List.getElem?_append_right (by rw [List.length_map]; exact Nat.le_refl _), List.length_map, Nat.sub_self]
  rfl
theorem kst_fr {h₀ h : Heap} {L : Addr} {m : Nm} {ps : List (PySem.Str × Value)} (F : Fr h₀ L h m) (k : ∀ p ∈ ps, m p.1 = some p.2) : Fr h₀ L h (kstB m ps) := by
  have e : kstB m ps = m := funext fun z => kstB_eq k fun _ => rfl
  rwa [e]
theorem con_law_is_read (prog : Program) (w : World) (b : Array UInt8) (tb : Tok) (ks : List Int) (hks : KBw.bInts b = ks) (hlen : ks.length ≤ 9000) (led : Led) :
    ConG prog w 252 [.bytes b tb] 60 led (fun led' r => (∃ tl, led' = tl ++ led) ∧ r = .bool true) := by
  intro dp un gd env outer frs h₀ L m s p loose mean mg mb R hnd C ok
  have X := C.X
  have T := C.T
  have hd := C.hd
  have hu := C.hu
  (k_dflt (refine' enterG ?kD ?kC ?kO ?k6 ?k7 ?k9 ?kB ?kn ?c2 ?c3 ?c4 ?c5 ?_; (case kC => assumption); (case kO => assumption); (case kD => assumption); (case k6 => k_is); (case k7 => k_is); (case k9 => first | exact BindsTo.of_eq rfl | fail "defaults"); (case c5 => decide); (case kB => exact locs rfl); (case kn => first | decide | omega); (case c2 => exact rfl); (case c3 => exact rfl); (case c4 => exact rfl); k_whole))
  intro L' h₁ tk₁ frs₁ Qc Ec F N Fs Lt okc hE hE2
  have hin : ∀ k ∈ ks, 0 ≤ k ∧ k < 256 := hks ▸ fun k hk => KBw.ints_in hk
  (repeat' (first | ((((fail_if_success k_end); (fail_if_success (with_reducible show wpAny _ _ (exec (Stmt.While _ _ _ _) _) _ _ _)); (fail_if_success (with_reducible show wpAny _ _ (exec (Stmt.For _ _ _ _ _) _) _ _ _)))); ((first | walk1 | (dsimp only; walk1)))) | (first | ((with_reducible show Frag.In _ _ ∧ _); refine ⟨by k_in, ?_⟩; try dsimp only [List.nil_append, List.cons_append]) | ((with_reducible show KswPost _ _ _ _ _ _ _ _ _ _ _ _ _ _); dsimp only [KswPost]))))
  refine ConG.use (frs := frs₁) (con_law_due prog w b tb ks hks hlen led) F N X T Fs hnd rfl rfl (by (exact Nat.le_of_lt hd)) (by (exact ltu hu rfl)) (fun r ledx frs2 h' tk' F2 su2 N2 nd2 hr => ?_)
  refine hold (fun Ph hPh => ?_)
  obtain ⟨_, rfl, l, D, E, vs, zs, tla, rfl, rfl, htl, hvs, hzs⟩ := hr
  refine hPh ?_
  clear hPh
  clear F N
  dsimp only [List.cons_append] at F2 N2 ⊢
  have hnds := rr_nd ks (ks.length + 1) 0
  have hale := al_end hin
  have hlele := lastEnd_le hin
  (repeat' (first | ((((fail_if_success k_end); (fail_if_success (with_reducible show wpAny _ _ (exec (Stmt.While _ _ _ _) _) _ _ _)); (fail_if_success (with_reducible show wpAny _ _ (exec (Stmt.For _ _ _ _ _) _) _ _ _)))); (fail_if_success (with_reducible show wpAny _ _ (exec (Stmt.Assign _ (Expr.IfExp _ _ _ _) _) _) _ _ _)); ((first | walk1 | (dsimp only; walk1)))) | (first | ((with_reducible show Frag.In _ _ ∧ _); refine ⟨by k_in, ?_⟩; try dsimp only [List.nil_append, List.cons_append]) | ((with_reducible show KswPost _ _ _ _ _ _ _ _ _ _ _ _ _ _); dsimp only [KswPost]))))
  rename Fr _ _ _ _ => F3
  rename News _ _ _ _ => N3
  refine wpAny_mono (Q := fun f s' => f = .next ∧ ∃ (u : Nm) (h9 : Heap) (tk9 : Nat) (te : Tok), s' = { s with heap := h9, toks := tk9 } ∧ Fr h₀ L' h9 (kstB u [("data", .bytes b tb), ("rows", .ref D), ("ends", .ref E), ("end", .int ((lastEnd (al ks) : Nat) : Int) te)]) ∧ News h₀ L' h9 ((E, lst zs) :: (D, lst vs) :: (tla ++ led ++ frs2))) ?_ ?_ (fun _ _ x => x)
  · rcases List.eq_nil_or_concat (al ks) with hal | ⟨acc, q, hal⟩
    · rw [hal] at hzs
      cases hzs
      (repeat' (first | ((((fail_if_success k_end); (fail_if_success (with_reducible show wpAny _ _ (exec (Stmt.While _ _ _ _) _) _ _ _)); (fail_if_success (with_reducible show wpAny _ _ (exec (Stmt.For _ _ _ _ _) _) _ _ _)))); ((first | walk1 | (dsimp only; walk1)))) | (first | ((with_reducible show Frag.In _ _ ∧ _); refine ⟨by k_in, ?_⟩; try dsimp only [List.nil_append, List.cons_append]) | ((with_reducible show KswPost _ _ _ _ _ _ _ _ _ _ _ _ _ _); dsimp only [KswPost]))))
      all_goals first
        | (exfalso; rename decide _ = false => hz; revert hz; decide)
        | (rename Fr _ _ _ _ => F5; rename News _ _ _ _ => N5; exact ⟨trivial, _, _, _, _, rfl, kst_fr F5 (List.forall_mem_cons.mpr ⟨rfl, List.forall_mem_cons.mpr ⟨rfl, List.forall_mem_cons.mpr ⟨rfl, List.forall_mem_cons.mpr ⟨congrArg (fun z => some (Value.int z _)) (by rw [hal]; rfl), List.forall_mem_nil _⟩⟩⟩⟩), fun p hp => N5 p (.tail _ (.tail _ hp))⟩)
    · rw [List.concat_eq_append] at hal
      rw [hal, List.map_append] at hzs
      (repeat' (first | ((((fail_if_success k_end); (fail_if_success (with_reducible show wpAny _ _ (exec (Stmt.While _ _ _ _) _) _ _ _)); (fail_if_success (with_reducible show wpAny _ _ (exec (Stmt.For _ _ _ _ _) _) _ _ _)))); ((first | walk1 | (dsimp only; walk1)))) | (first | ((with_reducible show Frag.In _ _ ∧ _); refine ⟨by k_in, ?_⟩; try dsimp only [List.nil_append, List.cons_append]) | ((with_reducible show KswPost _ _ _ _ _ _ _ _ _ _ _ _ _ _); dsimp only [KswPost]))))
      · exfalso
        rename decide _ = true => hz
        simp at hz
      · rename Fr _ _ _ _ => F5
        rename News _ _ _ _ => N5
        exact ⟨trivial, _, _, _, _, rfl, kst_fr F5 (List.forall_mem_cons.mpr ⟨rfl, List.forall_mem_cons.mpr ⟨rfl, List.forall_mem_cons.mpr ⟨rfl, List.forall_mem_cons.mpr ⟨congrArg (fun z => some (Value.int z _)) (by rw [hal, lastEnd_snoc]; exact last_getD acc q), List.forall_mem_nil _⟩⟩⟩⟩), fun p hp => N5 p (.tail _ (.tail _ hp))⟩
  · intro f s' q2
    refine hold (fun Ph hPh => ?_)
    obtain ⟨rfl, u, h9, tk9, te, rfl, F4, N4⟩ := q2
    refine hPh ?_
    clear hPh
    clear F3 N3
    dsimp only
    (repeat' (first | ((((fail_if_success k_end); (fail_if_success (with_reducible show wpAny _ _ (exec (Stmt.While _ _ _ _) _) _ _ _)); (fail_if_success (with_reducible show wpAny _ _ (exec (Stmt.For _ _ _ _ _) _) _ _ _)))); ((first | walk1 | (dsimp only; walk1)))) | (first | ((with_reducible show Frag.In _ _ ∧ _); refine ⟨by k_in, ?_⟩; try dsimp only [List.nil_append, List.cons_append]) | ((with_reducible show KswPost _ _ _ _ _ _ _ _ _ _ _ _ _ _); dsimp only [KswPost]))))
    have Fs2 := TI.Frs.up Fs su2
    have hndE : ∀ q ∈ ((E, lst zs) :: (D, lst vs) :: (tla ++ led) : Led), TI.notDict q = true := fun q hq => nd2 q (.tail _ hq)
    refine ConC.use (frs := frs2) (con_read_rows prog w b tb ks hks hlen ((E, lst zs) :: (D, lst vs) :: (tla ++ led))) F4 N4 X T Fs2 hndE rfl rfl (by (exact ltd hd rfl)) (by (exact ltu hu rfl)) (fun r tl frs3 h' tk' F5 su3 N5 nd5 hr => ?_)
    refine hold (fun Ph hPh => ?_)
    obtain ⟨D2, l2, t2, vs2, tla2, rfl, rfl, htl2, hvs2⟩ := hr
    refine hPh ?_
    clear hPh
    clear F4 N4
    dsimp only [List.cons_append] at F5 N5 nd5 ⊢
    (repeat' (first | ((((fail_if_success k_end); (fail_if_success (with_reducible show wpAny _ _ (exec (Stmt.While _ _ _ _) _) _ _ _)); (fail_if_success (with_reducible show wpAny _ _ (exec (Stmt.For _ _ _ _ _) _) _ _ _)))); (fail_if_success (with_reducible show wpAny _ _ (compareOp _ (Value.ref _) (Value.ref _)) _ _ _)); ((first | walk1 | (dsimp only; walk1)))) | (first | ((with_reducible show Frag.In _ _ ∧ _); refine ⟨by k_in, ?_⟩; try dsimp only [List.nil_append, List.cons_append]) | ((with_reducible show KswPost _ _ _ _ _ _ _ _ _ _ _ _ _ _); dsimp only [KswPost]))))
    rename News _ _ _ _ => N6
    rename Fr _ _ _ _ => F6
    have units : (8 : Nat) = 8 := rfl
    refine ne_pairs_walk (led := _) (fun q hq => (N6 q hq).1) (ha := .tail _ (.head _)) (hb := .head _) (h1 := .tail _ (.tail _ (.head _))) (h2 := .tail _ (.tail _ (.tail _ (List.mem_append_right _ (.tail _ (.head _)))))) (x1 := DVs.mono (fun q hq => .tail _ (.tail _ (.tail _ (List.mem_append_left _ hq)))) hvs2) (x2 := DVs.mono (fun q hq => .tail _ (.tail _ (.tail _ (List.mem_append_right _ (.tail _ (.tail _ (by simp only [List.append_assoc]; exact List.mem_append_left _ hq)))))) ) hvs) (by show un + 3 + 2 + nds ((al ks).map (·.1)) < 9900; unfold al; lia) ?_
    (repeat' (first | ((((fail_if_success k_end); (fail_if_success (with_reducible show wpAny _ _ (exec (Stmt.While _ _ _ _) _) _ _ _)); (fail_if_success (with_reducible show wpAny _ _ (exec (Stmt.For _ _ _ _ _) _) _ _ _)))); ((first | walk1 | (dsimp only; walk1)))) | (first | ((with_reducible show Frag.In _ _ ∧ _); refine ⟨by k_in, ?_⟩; try dsimp only [List.nil_append, List.cons_append]) | ((with_reducible show KswPost _ _ _ _ _ _ _ _ _ _ _ _ _ _); dsimp only [KswPost]))))
    have N7 : News h₀ L' _ (((E, lst zs) :: led) ++ frs3) := fun p hp => N6 p (.tail _ (.tail _ (.tail _ (List.mem_append_right _ (by
      rcases List.mem_cons.mp hp with rfl | hp
      · exact .head _
      · rw [List.append_assoc]
        exact .tail _ (.tail _ (List.mem_append_right _ hp)))))))
    have hndE2 : ∀ q ∈ ((E, lst zs) :: led : Led), TI.notDict q = true := fun q hq => by
      rcases List.mem_cons.mp hq with rfl | hq
      · rfl
      · exact hnd q hq
    have Fs3 := TI.Frs.up Fs2 su3
    clear N6 units nd5 hvs2 htl2 hvs htl nd2 hndE
    refine ConC.use (frs := frs3) (con_frame_ends prog w b tb ks hks hlen ((E, lst zs) :: led)) F6 N7 X T Fs3 hndE2 rfl rfl (by (exact ltd hd rfl)) (by (exact ltu hu rfl)) (fun r tl frs4 h' tk' F5 su4 N5 nd5 hr => ?_)
    refine hold (fun Ph hPh => ?_)
    obtain ⟨D3, vs3, tla3, rfl, rfl, htl3, hvs3⟩ := hr
    refine hPh ?_
    clear hPh
    clear F6 N7
    dsimp only [List.cons_append] at F5 N5 nd5 ⊢
    (repeat' (first | ((((fail_if_success k_end); (fail_if_success (with_reducible show wpAny _ _ (exec (Stmt.While _ _ _ _) _) _ _ _)); (fail_if_success (with_reducible show wpAny _ _ (exec (Stmt.For _ _ _ _ _) _) _ _ _)))); (fail_if_success (with_reducible show wpAny _ _ (compareOp _ (Value.ref _) (Value.ref _)) _ _ _)); ((first | walk1 | (dsimp only; walk1)))) | (first | ((with_reducible show Frag.In _ _ ∧ _); refine ⟨by k_in, ?_⟩; try dsimp only [List.nil_append, List.cons_append]) | ((with_reducible show KswPost _ _ _ _ _ _ _ _ _ _ _ _ _ _); dsimp only [KswPost]))))
    refine ke_ne_ints (xs := vs3) (ys := zs) ⟨_, (N5 _ (.head _)).1, rfl, _, rfl⟩ ⟨_, (N5 _ (.tail _ (List.mem_append_right _ (.head _)))).1, rfl, _, rfl⟩ hvs3 hzs (by show un + 3 + 64 < 9900; lia) ?_
    rw [decide_eq_true rfl]
    (repeat' (first | ((((fail_if_success k_end); (fail_if_success (with_reducible show wpAny _ _ (exec (Stmt.While _ _ _ _) _) _ _ _)); (fail_if_success (with_reducible show wpAny _ _ (exec (Stmt.For _ _ _ _ _) _) _ _ _)))); ((first | walk1 | (dsimp only; walk1)))) | (first | ((with_reducible show Frag.In _ _ ∧ _); refine ⟨by k_in, ?_⟩; try dsimp only [List.nil_append, List.cons_append]) | ((with_reducible show KswPost _ _ _ _ _ _ _ _ _ _ _ _ _ _); dsimp only [KswPost]))))
    have N8 : News h₀ L' h' (led ++ frs4) := fun p hp => N5 p (.tail _ (List.mem_append_right _ (.tail _ hp)))
    have Fs4 := TI.Frs.up Fs3 su4
    clear N5 nd5 hvs3 htl3 hndE2 hzs
    refine ConC.use (frs := frs4) (con_is_torn prog w b tb ks hks hlen led) F5 N8 X T Fs4 hnd rfl rfl (by (exact ltd hd rfl)) (by (exact ltu hu rfl)) (fun r tl frs5 h' tk' F6 su5 N6 nd6 hr => ?_)
    subst hr
    have N8' : News h₀ L' h' (led ++ frs5) := fun p hp => N6 p (List.mem_append_right _ hp)
    have Fs5 := TI.Frs.up Fs4 su5
    clear F5 N8 N6 nd6
    dsimp only at F6 ⊢
    (repeat' (first | ((((fail_if_success k_end); (fail_if_success (with_reducible show wpAny _ _ (exec (Stmt.While _ _ _ _) _) _ _ _)); (fail_if_success (with_reducible show wpAny _ _ (exec (Stmt.For _ _ _ _ _) _) _ _ _)))); ((first | walk1 | (dsimp only; walk1)))) | (first | ((with_reducible show Frag.In _ _ ∧ _); refine ⟨by k_in, ?_⟩; try dsimp only [List.nil_append, List.cons_append]) | ((with_reducible show KswPost _ _ _ _ _ _ _ _ _ _ _ _ _ _); dsimp only [KswPost]))))
    · exfalso
      rename (_ : Bool) = true => hz
      revert hz
      by_cases hlt : lastEnd (al ks) < ks.length
      · rw [decide_eq_true hlt, decide_eq_true (by (exact Int.ofNat_lt.mpr hlt))]; decide
      · rw [decide_eq_false hlt, decide_eq_false (by (clear hlele; lia))]; decide
    · rename Fr _ _ _ _ => F7
      rename News _ _ _ _ => N7
      refine ConC.use (frs := frs5) (con_row_at prog w b tb ks hks hlen (lastEnd (al ks)) hlele _ led) F7 N7 X T Fs5 hnd rfl rfl (by (exact ltd hd rfl)) (by (exact ltu hu rfl)) (fun r tl frs6 h' tk' F8 su6 N8 nd8 hr => ?_)
      rcases hr.2 with ⟨_, rfl, rfl⟩ | ⟨d, e, v, l, t, h1, _⟩
      · clear F7 N7
        dsimp only [List.nil_append] at F8 N8 ⊢
        (repeat' (first | ((((fail_if_success k_end); (fail_if_success (with_reducible show wpAny _ _ (exec (Stmt.While _ _ _ _) _) _ _ _)); (fail_if_success (with_reducible show wpAny _ _ (exec (Stmt.For _ _ _ _ _) _) _ _ _)))); ((first | walk1 | (dsimp only; walk1)))) | (first | ((with_reducible show Frag.In _ _ ∧ _); refine ⟨by k_in, ?_⟩; try dsimp only [List.nil_append, List.cons_append]) | ((with_reducible show KswPost _ _ _ _ _ _ _ _ _ _ _ _ _ _); dsimp only [KswPost]))))
        exact okc _ led frs6 _ _ _ F8 (su2.trans (su3.trans (su4.trans (su5.trans su6)))) N8 hnd ⟨⟨[], rfl⟩, rfl⟩
      · rw [hale] at h1
        cases h1

end

section
abbrev bxo (n : Nat) (xs : List Value) : Obj := { cls := .type "list", data := .seq xs.toArray n }
def BoxIs (Cc : Addr) (o : Obj) (k : Int) : Prop := ∃ (n : Nat) (g st pl : Int) (t1 t2 t3 : Tok), 0 ≤ g ∧ 0 ≤ st ∧ st < 2147483647 ∧ 0 ≤ pl ∧ pl ≤ k ∧ o = bxo n [.ref Cc, .int g t1, .int st t2, .int pl t3]
theorem set_lst {prog : Program} {w : World} {A : Around} {E : Value → Shared → Prop} {s : Shared} {h₀ : Heap} {L D : Addr} {m : Nm} {rest : Led} {xs : List Value} {n : Nat} {k : Int} {t : Tok} {v : Value} {Q : Unit → Shared → Prop}
    (F : Fr h₀ L s.heap m) (N : News h₀ L s.heap ((D, bxo n xs) :: rest)) (ne : ∀ p ∈ rest, p.1 ≠ D) (h0 : 0 ≤ k) (hk : k < xs.length) (hs : xs.length ≤ 1000)
    (h : ∀ h', Fr h₀ L h' m → News h₀ L h' ((D, bxo n (xs.set k.toNat v)) :: rest) → Q () { s with heap := h' }) : wpAny (model prog w) A (setItem (.ref D) (.int k t) v) Q E s := by
  have z := N (D, bxo n xs) (.head _)
  refine ki_setAt (n := n) z.1 h0 (by lia) (by rw [List.size_toArray]; exact hk) (h _ (F.change (Heap.SameBut.update ..) z.2.1 z.2.2) ?_)
  refine ki_turn (pre := []) _ N (fun _ h => nomatch h) ne (by simp) ?_
  rw [List.size_toArray, List.size_toArray, List.length_set, if_pos (by simp)]
theorem con_draw (prog : Program) (w : World) (B Cc : Addr) (o : Obj) (cells : List Value) (ns : List Int) (hc : IntsAre cells ns) (hn : ns.length ≤ 48) (k : Int) (hk : k ≤ 1000) (hb : BoxIs Cc o k) (limit : Int) (hlim : 0 < limit) (hlim2 : limit ≤ 100000) (tli : Tok) (led : Led)
    (hBC : Cc ≠ B) (hne : ∀ p ∈ led, p.1 ≠ B)
    {dp un : Nat} {gd : Option (List Code)} {env : Env} {outer : List Env} {frs : Led} {h₀ : Heap} {L : Addr} {m : Nm} {s : Shared}
    {p : Program} {loose : List PySem.Str} {mean : ExcName → Option Value} {mg mb : Nm} {R : Result → Shared → Prop}
    (C : Cal w dp un env outer frs h₀ L m ((B, o) :: (Cc, lst cells) :: led) 1 s p loose mean mg mb)
    (ok : ∀ o' x tx h' tk', Fr h₀ L h' m → News h₀ L h' ((B, o') :: (Cc, lst cells) :: led) → BoxIs Cc o' (k + 1) → 0 ≤ x → x < limit → R (.ok (.ret (.int x tx))) { s with heap := h', toks := tk' }) :
    codeAny (model prog w) (top dp un gd (env :: outer)) (.call (.ref 204) ⟨[.ref B, .int limit tli], []⟩) R s := by
  refine hold (fun Ph hPh => ?_)
  obtain ⟨n, g, st, pl, t1, t2, t3, hg, hst0, hst, hpl, hplk, rfl⟩ := hb
  refine hPh ?_
  clear hPh
  have X := C.X
  have T := C.T
  have hd := C.hd
  have hu := C.hu
  (k_dflt (refine' enterU ?kC ?k6 ?k7 ?k9 ?kB ?kn ?c2 ?c3 ?c4 ?c5 ?_; (case kC => assumption); (case k6 => k_is); (case k7 => k_is); (case k9 => first | exact BindsTo.of_eq rfl | fail "defaults"); (case c5 => decide); (case kB => exact locs rfl); (case kn => first | decide | omega); (case c2 => exact rfl); (case c3 => exact rfl); (case c4 => exact rfl); k_whole))
  intro L' h₁ tk₁ oL frs₁ Qc Ec F N Fs Fi Lt neL okc hE
  have hneL : ∀ (o' : Obj), ∀ p ∈ (B, o') :: (Cc, lst cells) :: led, p.1 ≠ L := fun o' p hp => by
    rcases List.mem_cons.mp hp with rfl | hp
    · have h := neL _ (.head _); exact h
    · exact neL p (.tail _ hp)
  have hneB' : ∀ p ∈ (Cc, lst cells) :: (L, oL) :: led, p.1 ≠ B := fun p hp => by
    rcases List.mem_cons.mp hp with rfl | hp
    · exact hBC
    · rcases List.mem_cons.mp hp with rfl | hp
      · exact Ne.symm (neL _ (.head _))
      · exact hne p hp
  replace N : News h₀ L' h₁ ((B, bxo n [.ref Cc, .int g t1, .int st t2, .int pl t3]) :: (Cc, lst cells) :: (L, oL) :: led) := fun p hp => N p (by
    rcases List.mem_cons.mp hp with rfl | hp
    · exact .tail _ (.head _)
    · rcases List.mem_cons.mp hp with rfl | hp
      · exact .tail _ (.tail _ (.head _))
      · rcases List.mem_cons.mp hp with rfl | hp
        · exact .head _
        · exact .tail _ (.tail _ (.tail _ hp)))
  have swap : ∀ {hh : Heap} {o' : Obj}, News h₀ L' hh ((B, o') :: (Cc, lst cells) :: (L, oL) :: led) → News h₀ L' hh ((L, oL) :: (B, o') :: (Cc, lst cells) :: led) := fun N p hp => N p (by
    rcases List.mem_cons.mp hp with rfl | hp
    · exact .tail _ (.tail _ (.head _))
    · rcases List.mem_cons.mp hp with rfl | hp
      · exact .head _
      · rcases List.mem_cons.mp hp with rfl | hp
        · exact .tail _ (.head _)
        · exact .tail _ (.tail _ (.tail _ hp)))
  have hcl := hc.length
  (repeat' (first | ((((fail_if_success k_end); (fail_if_success (with_reducible show wpAny _ _ (exec (Stmt.While _ _ _ _) _) _ _ _)); (fail_if_success (with_reducible show wpAny _ _ (exec (Stmt.For _ _ _ _ _) _) _ _ _)))); ((first | walk1 | (dsimp only; walk1)))) | (first | ((with_reducible show Frag.In _ _ ∧ _); refine ⟨by k_in, ?_⟩; try dsimp only [List.nil_append, List.cons_append]) | ((with_reducible show KswPost _ _ _ _ _ _ _ _ _ _ _ _ _ _); dsimp only [KswPost]))))
  rename Fr _ _ _ _ => F1
  rename News _ _ _ _ => N1
  refine set_lst F1 (fun p hp => N1 p hp) hneB' (by decide) (by show (3 : Int) < 4; decide) (by show 4 ≤ 1000; decide) fun h2 F2 N2 => ?_
  clear F1 N1
  dsimp only at F2 N2 ⊢
  replace N2 : News h₀ L' h2 ((B, bxo n [.ref Cc, .int g t1, .int st t2, .int (pl + 1) _]) :: (Cc, lst cells) :: (L, oL) :: led) := N2
  (repeat' (first | ((((fail_if_success k_end); (fail_if_success (with_reducible show wpAny _ _ (exec (Stmt.While _ _ _ _) _) _ _ _)); (fail_if_success (with_reducible show wpAny _ _ (exec (Stmt.For _ _ _ _ _) _) _ _ _)))); ((first | walk1 | (dsimp only; walk1)))) | (first | ((with_reducible show Frag.In _ _ ∧ _); refine ⟨by k_in, ?_⟩; try dsimp only [List.nil_append, List.cons_append]) | ((with_reducible show KswPost _ _ _ _ _ _ _ _ _ _ _ _ _ _); dsimp only [KswPost]))))
  · rename Fr _ _ _ _ => F1
    rename News _ _ _ _ => N1
    refine set_lst F1 (fun p hp => N1 p hp) hneB' (by decide) (by show (1 : Int) < 4; decide) (by show 4 ≤ 1000; decide) fun h2 F2 N2 => ?_
    clear F1 N1
    dsimp only at F2 N2 ⊢
    replace N2 : News h₀ L' h2 ((B, bxo n [.ref Cc, .int (g.fdiv limit) _, .int st t2, .int (pl + 1) _]) :: (Cc, lst cells) :: (L, oL) :: led) := N2
    (repeat' (first | ((((fail_if_success k_end); (fail_if_success (with_reducible show wpAny _ _ (exec (Stmt.While _ _ _ _) _) _ _ _)); (fail_if_success (with_reducible show wpAny _ _ (exec (Stmt.For _ _ _ _ _) _) _ _ _)))); ((first | walk1 | (dsimp only; walk1)))) | (first | ((with_reducible show Frag.In _ _ ∧ _); refine ⟨by k_in, ?_⟩; try dsimp only [List.nil_append, List.cons_append]) | ((with_reducible show KswPost _ _ _ _ _ _ _ _ _ _ _ _ _ _); dsimp only [KswPost]))))
    rename Fr _ _ _ _ => F1
    rename News _ _ _ _ => N1
    refine okc _ _ _ _ _ F1 (swap N1) (hneL _) fun Fx Nx => ok _ _ _ _ _ Fx Nx ⟨n, g.fdiv limit, st, pl + 1, _, _, _, ?_, hst0, hst, by (exact ipl hpl rfl), by lia, rfl⟩ ?_ ?_
    · rw [Int.fdiv_eq_ediv_of_nonneg _ (by (exact Int.le_of_lt hlim))]; exact Int.ediv_nonneg hg (by (exact Int.le_of_lt hlim))
    · rw [Int.fmod_eq_emod_of_nonneg _ (by (exact Int.le_of_lt hlim))]; exact Int.emod_nonneg _ (by omega)
    · rw [Int.fmod_eq_emod_of_nonneg _ (by (exact Int.le_of_lt hlim))]; exact Int.emod_lt_of_pos _ (by omega)
  · refine set_lst F2 (fun p hp => N2 p hp) hneB' (by decide) (by show (2 : Int) < 4; decide) (by show 4 ≤ 1000; decide) fun h2 F2 N2 => ?_
    dsimp only at F2 N2 ⊢
    have hs2 : 0 ≤ (st * 16807 + pl * pl + 29).fmod 2147483647 ∧ (st * 16807 + pl * pl + 29).fmod 2147483647 < 2147483647 := by
      rw [Int.fmod_eq_emod_of_nonneg _ (by decide)]
      exact ⟨Int.emod_nonneg _ (by decide), Int.emod_lt_of_pos _ (by decide)⟩
    replace N2 : News h₀ L' h2 ((B, bxo n [.ref Cc, .int g t1, .int ((st * 16807 + pl * pl + 29).fmod 2147483647) _, .int (pl + 1) _]) :: (Cc, lst cells) :: (L, oL) :: led) := N2
    generalize (st * 16807 + pl * pl + 29).fmod 2147483647 = st2 at *
    have hq3 : (st2.fdiv 3).natAbs < 2 ^ 64 := by
      rw [Int.fdiv_eq_ediv_of_nonneg _ (by decide)]
      omega
    have fin : ∀ (h' : Heap) (z : Int) (tz : Tok) (tk' : Nat) (m' : Nm) (ta tb : Tok), Fr h₀ L' h' m' → News h₀ L' h' ((B, bxo n [.ref Cc, .int g t1, .int st2 ta, .int (pl + 1) tb]) :: (Cc, lst cells) :: (L, oL) :: led) → Qc (.ret (.int (z.fmod limit) tz)) { s with heap := h', toks := tk' } := fun h' z tz tk' m' ta tb F9 N9 => by
      refine okc _ _ _ _ _ F9 (swap N9) (hneL _) fun Fx Nx => ok _ _ _ _ _ Fx Nx ⟨n, g, st2, pl + 1, _, _, _, hg, hs2.1, hs2.2, by (exact ipl hpl rfl), by lia, rfl⟩ ?_ ?_
      · rw [Int.fmod_eq_emod_of_nonneg _ (by (exact Int.le_of_lt hlim))]; exact Int.emod_nonneg _ (by (clear hlim2; lia))
      · rw [Int.fmod_eq_emod_of_nonneg _ (by (exact Int.le_of_lt hlim))]; exact Int.emod_lt_of_pos _ (by omega)
    (repeat' (first | ((((fail_if_success k_end); (fail_if_success (with_reducible show wpAny _ _ (exec (Stmt.While _ _ _ _) _) _ _ _)); (fail_if_success (with_reducible show wpAny _ _ (exec (Stmt.For _ _ _ _ _) _) _ _ _)))); (fail_if_success (with_reducible show wpAny _ _ (binaryOp Operator.Pow (Value.int _ _) (Value.int _ _)) _ _ _)); ((first | walk1 | (dsimp only; walk1)))) | (first | ((with_reducible show Frag.In _ _ ∧ _); refine ⟨by k_in, ?_⟩; try dsimp only [List.nil_append, List.cons_append]) | ((with_reducible show KswPost _ _ _ _ _ _ _ _ _ _ _ _ _ _); dsimp only [KswPost]))))
    · dsimp only
      exact fin _ _ _ _ _ _ _ F2 N2
    · refine pow_int_small (by decide) (by decide) hq3 ?_
      (repeat' (first | ((((fail_if_success k_end); (fail_if_success (with_reducible show wpAny _ _ (exec (Stmt.While _ _ _ _) _) _ _ _)); (fail_if_success (with_reducible show wpAny _ _ (exec (Stmt.For _ _ _ _ _) _) _ _ _)))); ((first | walk1 | (dsimp only; walk1)))) | (first | ((with_reducible show Frag.In _ _ ∧ _); refine ⟨by k_in, ?_⟩; try dsimp only [List.nil_append, List.cons_append]) | ((with_reducible show KswPost _ _ _ _ _ _ _ _ _ _ _ _ _ _); dsimp only [KswPost]))))
      dsimp only
      exact fin _ _ _ _ _ _ _ F2 N2

theorem draw_use {prog : Program} {w : World} {B Cc : Addr} {o : Obj} {cells : List Value} {ns : List Int} (hc : IntsAre cells ns) (hn : ns.length ≤ 48) {k : Int} (hk : k ≤ 1000) (hb : BoxIs Cc o k) {limit : Int} (hlim : 0 < limit) (hlim2 : limit ≤ 100000) {tli : Tok} {led : Led}
    (hBC : Cc ≠ B) (hne : ∀ p ∈ led, p.1 ≠ B)
    {dp un : Nat} {gd : Option (List Code)} {env : Env} {outer : List Env} {frs : Led} {h₀ : Heap} {L : Addr} {m : Nm} {s : Shared}
    {p : Program} {loose : List PySem.Str} {mean : ExcName → Option Value} {mg mb : Nm} {Q E : Value → Shared → Prop}
    (F : Fr h₀ L s.heap m) (N : News h₀ L s.heap ((B, o) :: (Cc, lst cells) :: led)) (X : (TopL.heap_1 w.params).In h₀) (T : Top p loose mean mg mb h₀) (Fs : TI.Frs outer frs) (Fi : ∀ p ∈ frs, p ∈ ((B, o) :: (Cc, lst cells) :: led : Led))
    (hf : env.frame = some L) (hke : env.scope.kind = .function) (hd : dp + 1 < 1000) (hu : un + 8 < 9900)
    (ok : ∀ o' x tx h' tk', Fr h₀ L h' m → News h₀ L h' ((B, o') :: (Cc, lst cells) :: led) → BoxIs Cc o' (k + 1) → 0 ≤ x → x < limit → Q (.int x tx) { s with heap := h', toks := tk' }) :
    wpAny (model prog w) (top dp un gd (env :: outer)) (call (.ref 204) [.ref B, .int limit tli]) Q E s :=
  wpAny_call (con_draw prog w B Cc o cells ns hc hn k hk hb limit hlim hlim2 tli led hBC hne ⟨F, X, N, T, Fs, Fi, hf, hke, hd, by omega⟩ ok)

end

section
def BoxPost (led : Led) (led' : Led) (r : Value) : Prop :=
  ∃ B Cc o cells ms, led' = (B, o) :: (Cc, lst cells) :: led ∧ BoxIs Cc o 0 ∧ r = .ref B ∧ IntsAre cells ms ∧ ms.length ≤ 48 ∧ Cc ≠ B ∧ ∀ p ∈ led, p.1 ≠ B ∧ p.1 ≠ Cc
theorem intsAt : ∀ {vs : List Value} {ns : List Int}, IntsAre vs ns → ∀ {i : Nat} {v : Value}, vs[i]? = some v → ∃ k t, v = .int k t ∧ ns[i]? = some k
  | _, _, .nil, i, v, h => by simp at h
  | _, _, .cons n t r, 0, v, h => ⟨n, t, by simpa using h.symm, rfl⟩
  | _, _, .cons n t r, i + 1, v, h => by simpa using intsAt r (i := i) (v := v) (by simpa using h)
theorem off1_mem {D : Addr} : ∀ {l : Led}, LCg.Off1 D l → ∀ p ∈ l, p.1 ≠ D
  | [], _, _, h => nomatch h
  | _ :: _, x, p, h => by
    rcases List.mem_cons.mp h with rfl | h
    · exact x.1
    · exact off1_mem x.2 p h
theorem con_box (prog : Program) (w : World) (S : Addr) (vs : List Value) (ns : List Int) (hI : IntsAre vs ns) (hvl : vs.length ≤ 63) (led : Led)
    {dp un : Nat} {gd : Option (List Code)} {env : Env} {outer : List Env} {frs : Led} {h₀ : Heap} {L : Addr} {m : Nm} {s : Shared}
    {p : Program} {loose : List PySem.Str} {mean : ExcName → Option Value} {mg mb : Nm} {R : Result → Shared → Prop}
    (hS : h₀.IsList S vs.toArray)
    (hnd : ∀ q ∈ led, TI.notDict q = true)
    (C : Cal w dp un env outer frs h₀ L m (led ++ frs) 2 s p loose mean mg mb)
    (ok : ∀ r led' frs' h' tk', Fr h₀ L h' m → TI.SameUp frs frs' → News h₀ L h' (led' ++ frs') → (∀ q ∈ led', TI.notDict q = true) → BoxPost led led' r → R (.ok (.ret r)) { s with heap := h', toks := tk' }) :
    codeAny (model prog w) (top dp un gd (env :: outer)) (.call (.ref 197) ⟨[.ref S], []⟩) R s := by
  have X := C.X
  have T := C.T
  have hd := C.hd
  have hu := C.hu
  (k_dflt (refine' enterG ?kD ?kC ?kO ?k6 ?k7 ?k9 ?kB ?kn ?c2 ?c3 ?c4 ?c5 ?_; (case kC => assumption); (case kO => assumption); (case kD => assumption); (case k6 => k_is); (case k7 => k_is); (case k9 => first | exact BindsTo.of_eq rfl | fail "defaults"); (case c5 => decide); (case kB => exact locs rfl); (case kn => first | decide | omega); (case c2 => exact rfl); (case c3 => exact rfl); (case c4 => exact rfl); k_whole))
  intro L' h₁ tk₁ frs₁ Qc Ec F N Fs Lt okc hE hE2
  (repeat' (first | ((((fail_if_success k_end); (fail_if_success (with_reducible show wpAny _ _ (exec (Stmt.While _ _ _ _) _) _ _ _)); (fail_if_success (with_reducible show wpAny _ _ (exec (Stmt.For _ _ _ _ _) _) _ _ _)))); (fail_if_success (with_reducible show wpAny _ _ (exec (Stmt.Assign _ (Expr.ListComp _ _ _ _) _) _) _ _ _)); ((first | walk1 | (dsimp only; walk1)))) | (first | ((with_reducible show Frag.In _ _ ∧ _); refine ⟨by k_in, ?_⟩; try dsimp only [List.nil_append, List.cons_append]) | ((with_reducible show KswPost _ _ _ _ _ _ _ _ _ _ _ _ _ _); dsimp only [KswPost]))))
  ((k_dflt (refine LCg.Assign_ListComp_U (F₀ := by k_asm) (by rfl) (by with_unfolding_all rfl) (by with_unfolding_all rfl) (by decide) (by rfl) (by decide) (by rfl) (by rfl) (by rfl) ?_)))
  (repeat' (first | ((((fail_if_success k_end); (fail_if_success (with_reducible show wpAny _ _ (exec (Stmt.While _ _ _ _) _) _ _ _)); (fail_if_success (with_reducible show wpAny _ _ (exec (Stmt.For _ _ _ _ _) _) _ _ _)))); ((first | walk1 | (dsimp only; walk1)))) | (first | ((with_reducible show Frag.In _ _ ∧ _); refine ⟨by k_in, ?_⟩; try dsimp only [List.nil_append, List.cons_append]) | ((with_reducible show KswPost _ _ _ _ _ _ _ _ _ _ _ _ _ _); dsimp only [KswPost]))))
  rename Fr _ _ _ _ => F1
  rename News _ _ _ _ => N1
  rename IntsAre _ (List.take 48 ns) => hms
  have hml : (List.take 48 ns).length ≤ 48 := by rw [List.length_take]; lia
  generalize List.take 48 ns = ms at *
  have hmw := hms.length
  refine LCg.CompSrc.ledger rfl F1 N1 (.head _) (by rw [List.size_toArray, hmw, sizeLine_eq]; (exact leb hml rfl)) fun g => compRest_fix (fun i ys => IntsAre ys (ms.take i)) .nil ?_ ?_
  · rintro i ys v I oI C1 oC D m₂ hp tk hi hys hP hC hx1 F6 N6 off ne E'
    refine hold (fun Ph hPh => ?_)
    obtain ⟨k, tv, rfl, hk⟩ := intsAt hms (i := i) (v := v) (by simpa using hP)
    refine hPh ?_
    clear hPh
    clear F1 N1
    (repeat' (first | ((((fail_if_success k_end); (fail_if_success (with_reducible show wpAny _ _ (exec (Stmt.While _ _ _ _) _) _ _ _)); (fail_if_success (with_reducible show wpAny _ _ (exec (Stmt.For _ _ _ _ _) _) _ _ _)))); ((first | walk1 | (dsimp only; walk1)))) | (first | ((with_reducible show Frag.In _ _ ∧ _); refine ⟨by k_in, ?_⟩; try dsimp only [List.nil_append, List.cons_append]) | ((with_reducible show KswPost _ _ _ _ _ _ _ _ _ _ _ _ _ _); dsimp only [KswPost]))))
    refine LCg.CompEnd.intro F6 N6 _ (fun p hp => hp) off (.inr ⟨_, .head _, rfl, _, rfl⟩) ⟨rfl, ?_⟩
    rw [List.take_add_one, hk]
    exact IntsAre.snoc hys _ _
  · intro ys hys D hp tk F6 N6 off
    clear F1 N1
    rw [List.size_toArray, hmw, List.take_length] at hys
    (repeat' (first | ((((fail_if_success k_end); (fail_if_success (with_reducible show wpAny _ _ (exec (Stmt.While _ _ _ _) _) _ _ _)); (fail_if_success (with_reducible show wpAny _ _ (exec (Stmt.For _ _ _ _ _) _) _ _ _)))); (fail_if_success (with_reducible show wpAny _ _ (exec (Stmt.If _ _ _ _) _) _ _ _)); ((first | walk1 | (dsimp only; walk1)))) | (first | ((with_reducible show Frag.In _ _ ∧ _); refine ⟨by k_in, ?_⟩; try dsimp only [List.nil_append, List.cons_append]) | ((with_reducible show KswPost _ _ _ _ _ _ _ _ _ _ _ _ _ _); dsimp only [KswPost]))))
    rename Fr _ _ _ _ => F3
    rename News _ _ _ _ => N3
    refine wpAny_mono (Q := fun f s' => f = .next ∧ ∃ (u : Nm) (h9 : Heap) (tk9 : Nat) (gr : Int) (tg : Tok), s' = { s with heap := h9, toks := tk9 } ∧ Fr h₀ L' h9 (kstB u [("cells", .ref D), ("great", .int gr tg)]) ∧ 0 ≤ gr ∧ News h₀ L' h9 ((D, lst ys) :: (led ++ frs₁))) ?_ ?_ (fun _ _ x => x)
    · (repeat' (first | ((((fail_if_success k_end); (fail_if_success (with_reducible show wpAny _ _ (exec (Stmt.While _ _ _ _) _) _ _ _)); (fail_if_success (with_reducible show wpAny _ _ (exec (Stmt.For _ _ _ _ _) _) _ _ _)))); ((first | walk1 | (dsimp only; walk1)))) | (first | ((with_reducible show Frag.In _ _ ∧ _); refine ⟨by k_in, ?_⟩; try dsimp only [List.nil_append, List.cons_append]) | ((with_reducible show KswPost _ _ _ _ _ _ _ _ _ _ _ _ _ _); dsimp only [KswPost]))))
      all_goals
        rename Fr _ _ _ _ => F5
        rename News _ _ _ _ => N5
        refine ⟨(by first | exact rfl | trivial), _, _, _, _, _, rfl, kst_fr F5 (List.forall_mem_cons.mpr ⟨rfl, List.forall_mem_cons.mpr ⟨rfl, List.forall_mem_nil _⟩⟩), ?_, fun p hp => N5 p (by
          rcases List.mem_cons.mp hp with rfl | hp
          · exact .head _
          · exact .tail _ (.tail _ hp))⟩
        first
          | exact Int.le_refl _
          | exact Int.fmod_nonneg_of_pos _ (Int.pow_pos (by decide))
    · intro f s' q2
      refine hold (fun Ph hPh => ?_)
      obtain ⟨rfl, u, h9, tk9, gr, tg, rfl, F4, hgr, N4⟩ := q2
      refine hPh ?_
      clear hPh
      clear F3 N3
      dsimp only
      (repeat' (first | ((((fail_if_success k_end); (fail_if_success (with_reducible show wpAny _ _ (exec (Stmt.While _ _ _ _) _) _ _ _)); (fail_if_success (with_reducible show wpAny _ _ (exec (Stmt.For _ _ _ _ _) _) _ _ _)))); ((first | walk1 | (dsimp only; walk1)))) | (first | ((with_reducible show Frag.In _ _ ∧ _); refine ⟨by k_in, ?_⟩; try dsimp only [List.nil_append, List.cons_append]) | ((with_reducible show KswPost _ _ _ _ _ _ _ _ _ _ _ _ _ _); dsimp only [KswPost]))))
      refine wpAny_For ?_
      (repeat' (first | ((((fail_if_success k_end); (fail_if_success (with_reducible show wpAny _ _ (exec (Stmt.While _ _ _ _) _) _ _ _)); (fail_if_success (with_reducible show wpAny _ _ (exec (Stmt.For _ _ _ _ _) _) _ _ _)))); (fail_if_success (with_reducible show wpAny _ _ (pyIter _) _ _ _)); ((first | walk1 | (dsimp only; walk1)))) | (first | ((with_reducible show Frag.In _ _ ∧ _); refine ⟨by k_in, ?_⟩; try dsimp only [List.nil_append, List.cons_append]) | ((with_reducible show KswPost _ _ _ _ _ _ _ _ _ _ _ _ _ _); dsimp only [KswPost]))))
      rename Fr _ _ _ _ => F5
      rename News _ _ _ _ => N5
      have hlD : Heap.IsList _ D ys.toArray := ⟨_, (N5 _ (.head _)).1, rfl, _, rfl⟩
      refine wpAny_pyIter_list hlD ?_
      have F6 := F5.push { cls := .type "list_iterator", data := .fields #[.ref D, .int 0 0] }
      have N6 := News.ext N5 (h' := _) fun b' ob e => Heap.get?_push_of_some { cls := .type "list_iterator", data := .fields #[.ref D, .int 0 0] } e
      have lt3 : ∀ p ∈ ((D, lst ys) :: (led ++ frs₁) : Led), p.1 < _ := fun p hp => Heap.lt_size (N5 p hp).1
      have hI0 : h₀.get? _ = none := next_is_new F5
      have hLI := F5.ns.lt
      have hDL : D ≠ L' := (N5 _ (.head _)).2.1
      have hDI := lt3 _ (.head _)
      refine codeA_for (σ := Int × Tok) (Walks.list rfl _ D (Nat.ne_of_lt hDI) ys.toArray) (fun i c => 0 ≤ c.1 ∧ c.1 < 2147483647) (fun _ => (D, lst ys) :: (led ++ frs₁)) (fun c => [("state", .int c.1 c.2)]) ["cell"] ((1, _) : Int × Tok) hE
        rfl rfl rfl (fun q => ?_) (fun b hb => by rw [List.mem_singleton.mp hb]; exact hI0) (fun i c _ p hp q => Nat.ne_of_lt (lt3 p hp) (List.mem_singleton.mp q))
        ⟨⟨_, Heap.get?_push_size _ rfl, rfl, rfl⟩, hlD.push _⟩ F6 N6 (by (((repeat' (first | exact List.forall_mem_nil _ | refine List.forall_mem_cons.mpr ⟨rfl, ?_⟩))))) ⟨by show (0 : Int) ≤ 1; decide, by show (1 : Int) < 2147483647; decide⟩ ?_ ?_
      · rcases List.mem_cons.mp q with q | q
        · exact Nat.ne_of_lt hLI q
        · exact hDL (List.mem_singleton.mp q).symm
      · intro i
        refine all2 (fun st t1 => ?_)
        intro v u h tk own hlt hv q9 hown _ _ F7 N7
        have hs0 := q9.1
        have hs1 := q9.2
        clear q9
        refine hold (fun Ph hPh => ?_)
        obtain ⟨k, tv, rfl, hk⟩ := intsAt hys (i := i) (v := v) (by simpa using hv)
        refine hPh ?_
        clear hPh
        dsimp only at hs0 hs1 F7 N7 ⊢
        clear F5 N5 F6 N6
        (repeat' (first | ((((fail_if_success k_end); (fail_if_success (with_reducible show wpAny _ _ (exec (Stmt.While _ _ _ _) _) _ _ _)); (fail_if_success (with_reducible show wpAny _ _ (exec (Stmt.For _ _ _ _ _) _) _ _ _)))); ((first | walk1 | (dsimp only; walk1)))) | (first | ((with_reducible show Frag.In _ _ ∧ _); refine ⟨by k_in, ?_⟩; try dsimp only [List.nil_append, List.cons_append]) | ((with_reducible show KswPost _ _ _ _ _ _ _ _ _ _ _ _ _ _); dsimp only [KswPost]))))
        refine for_end ((st * 48271 + k.fmod 2147483647 + 853).fmod 2147483647, _) (by k_asm) (by k_asm) (fun p hp => List.mem_append_left _ hp) (fun p hp => List.mem_append_right _ hp) (by (((repeat' (first | exact List.forall_mem_nil _ | refine List.forall_mem_cons.mpr ⟨rfl, ?_⟩))))) (by ((intro z h2 h3; simp only [List.forall_mem_cons, List.not_mem_nil, false_implies, implies_true, and_true, ne_eq] at h2; simp only [List.contains_cons, List.contains_nil, Bool.or_false, Bool.or_eq_false_iff, beq_eq_false_iff_ne, ne_eq] at h3; simp [h2, h3, kstB]))) ?_
        dsimp only
        rw [Int.fmod_eq_emod_of_nonneg _ (by decide)]
        exact ⟨Int.emod_nonneg _ (by decide), Int.emod_lt_of_pos _ (by decide)⟩
      · refine all2 (fun st t1 => ?_)
        intro u h tk q4 F7 N7
        have hs0 := q4.1
        have hs1 := q4.2
        clear q4
        dsimp only at hs0 hs1 F7 N7 ⊢
        clear F5 N5 F6 N6
        (repeat' (first | ((((fail_if_success k_end); (fail_if_success (with_reducible show wpAny _ _ (exec (Stmt.While _ _ _ _) _) _ _ _)); (fail_if_success (with_reducible show wpAny _ _ (exec (Stmt.For _ _ _ _ _) _) _ _ _)))); ((first | walk1 | (dsimp only; walk1)))) | (first | ((with_reducible show Frag.In _ _ ∧ _); refine ⟨by k_in, ?_⟩; try dsimp only [List.nil_append, List.cons_append]) | ((with_reducible show KswPost _ _ _ _ _ _ _ _ _ _ _ _ _ _); dsimp only [KswPost]))))
        rename _ ∧ AllLt _ _ => hlt
        rename Fr _ _ _ _ => F8
        rename News _ _ _ _ => N8
        refine okc _ (_ :: (D, lst ys) :: led) frs₁ _ _ _ F8 (TI.SameUp.refl _) N8 (fun q hq => ?_) ⟨_, D, _, ys, ms, rfl, ⟨0, gr, st, 0, _, _, _, hgr, hs0, hs1, Int.le_refl _, Int.le_refl _, rfl⟩, rfl, hys, hml, Nat.ne_of_lt hlt.1, fun p hp => ⟨Nat.ne_of_lt (kst_ltOf hlt.2 p (List.mem_append_left _ hp)), off1_mem off.2 p (List.mem_append_left _ hp)⟩⟩
        rcases List.mem_cons.mp hq with rfl | hq
        · rfl
        · rcases List.mem_cons.mp hq with rfl | hq
          · rfl
          · exact hnd q hq

end

section
theorem co_len2 {n : Nat} (h : n < 16384) : (co n).length ≤ 2 := by
  by_cases hn : n > 127
  · rw [co_gt hn, co_le (by (clear hn; lia))]; exact Nat.le_refl _
  · rw [co_le (by (exact Nat.not_lt.mp hn))]; exact Nat.le_succ _
theorem co_len1 {n : Nat} (h : n ≤ 127) : (co n).length = 1 := by rw [co_le h]; rfl
theorem vo_text_len {x : PySem.Str} (h : ∀ c ∈ x.cps.toList, c ≤ 120) (hs : x.cps.size ≤ 100) : (vo (.text x)).length = 2 + x.cps.size := by
  rw [vo, List.length_cons, List.length_append, co_len1 (by (exact leb hs rfl)), flat_len h, Array.length_toList]
  (exact Nat.add_right_comm _ _ _)
theorem vo_int_len {n : Int} (h : -4000 ≤ n ∧ n ≤ 4000) : (vo (.int n)).length ≤ 3 := by
  rw [vo, List.length_cons]
  have : (folded n).toNat < 16384 := by unfold folded; split <;> (first | lia | omega)
  have := co_len2 this
  (exact Nat.succ_le_succ this)
theorem vo_oct_len {os : List Int} (h : os.length ≤ 127) : (vo (.octets os)).length = 2 + os.length := by
  rw [vo, List.length_cons, List.length_append, co_len1 h]
  (exact Nat.add_right_comm _ _ _)
theorem good_two {x : PySem.Str} {d : Dat} (hx : ∀ c ∈ x.cps.toList, c ≤ 120) (hs : x.cps.size ≤ 10) (hf : fit d) (hn : nd d ≤ 9) (hl : (vo d).length ≤ 150) : GoodRow (.row [.text x, d]) := by
  refine ⟨rfl, ?_, ?_, ?_⟩
  · rw [fit]; refine ⟨by show 2 ≤ 100; decide, ?_⟩
    rw [fits]; refine ⟨by rw [fit]; exact ⟨hx, by (exact leb hs rfl)⟩, ?_⟩
    rw [fits]; exact ⟨hf, by rw [fits]; trivial⟩
  · have e : nd (.text x) = 8 := by rw [nd] <;> (intros; contradiction)
    rw [nd, nds, nds, nds, e]; lia
  · rw [vo, vos, vos, vos, List.length_cons, List.length_append, List.length_append, List.length_append, vo_text_len hx (by (exact leb hs rfl)), co_len1 (by show 2 ≤ 127; decide)]
    simp only [List.length_nil]
    lia
theorem good_a {x : PySem.Str} {n : Int} (hx : ∀ c ∈ x.cps.toList, c ≤ 120) (hs : x.cps.size ≤ 10) (hn : -500 ≤ n ∧ n ≤ 500) : GoodRow (.row [.text x, .int n]) := by
  refine good_two hx hs (by rw [fit]; lia) (by rw [nd] <;> first | decide | (intros; contradiction)) ?_
  have := vo_int_len (n := n) (by omega)
  (exact leb this rfl)
theorem good_d {x : PySem.Str} {os : List Int} (hx : ∀ c ∈ x.cps.toList, c ≤ 120) (hs : x.cps.size ≤ 10) (ho : ∀ k ∈ os, 0 ≤ k ∧ k < 256) (hl : os.length ≤ 127) : GoodRow (.row [.text x, .octets os]) := by
  refine good_two hx hs (by rw [fit]; exact ⟨ho, by (exact leb hl rfl)⟩) (by rw [nd] <;> first | decide | (intros; contradiction)) ?_
  have := vo_oct_len hl
  lia
theorem good_bc {x y : PySem.Str} {n : Int} (hx : ∀ c ∈ x.cps.toList, c ≤ 120) (hs : x.cps.size ≤ 10) (hy : ∀ c ∈ y.cps.toList, c ≤ 120) (hys : y.cps.size ≤ 10) (hn : -500 ≤ n ∧ n ≤ 500) : GoodRow (.row [.text x, .text y, .row [.int n, .row []]]) := by
  have e1 : ∀ z : PySem.Str, nd (.text z) = 8 := fun z => by rw [nd] <;> (intros; contradiction)
  have e2 : nd (.int n) = 8 := by rw [nd] <;> (intros; contradiction)
  have hi := vo_int_len (n := n) (by lia)
  refine ⟨rfl, ?_, ?_, ?_⟩
  · simp only [fit, fits, List.length_cons, List.length_nil, and_true]
    refine ⟨by decide, ⟨hx, by (exact leb hs rfl)⟩, ⟨hy, by (exact leb hys rfl)⟩, by decide, by omega, by decide⟩
  · simp only [nd, nds, e1, e2]; decide
  · simp only [vo, vos, List.length_cons, List.length_append, List.length_nil] at hi ⊢
    have a1 := vo_text_len hx (by (exact leb hs rfl))
    have a2 := vo_text_len hy (by (exact leb hys rfl))
    simp only [vo, List.length_cons, List.length_append] at a1 a2
    have c1 : (co 3).length = 1 := co_len1 (by decide)
    have c2 : (co 2).length = 1 := co_len1 (by decide)
    have c0 : (co 0).length = 1 := co_len1 (by decide)
    simp only [Nat.zero_add, Nat.reduceAdd] at *
    lia
theorem rep_bytes (n : Nat) (x : Int) : (List.replicate n [x.toNat.toUInt8]).flatten.toArray = byteArr (List.replicate n x) := by
  unfold byteArr
  rw [List.map_replicate]
  congr 1
  induction n with
  | zero => rfl
  | succ n ih => rw [List.replicate_succ, List.flatten_cons, ih]; rfl
theorem BoxIs.mono {Cc : Addr} {o : Obj} {k k' : Int} (h : BoxIs Cc o k) (hk : k ≤ k') : BoxIs Cc o k' := by
  obtain ⟨n, g, st, pl, t1, t2, t3, a, b, c, d, e, f⟩ := h
  exact ⟨n, g, st, pl, t1, t2, t3, a, b, c, d, by (exact Int.le_trans e hk), f⟩
theorem con_law_row (prog : Program) (w : World) (B Cc : Addr) (o : Obj) (cells : List Value) (ns : List Int) (hc : IntsAre cells ns) (hn : ns.length ≤ 48) (k : Int) (hk : k ≤ 900) (hb : BoxIs Cc o k) (turn : Int) (tt : Tok) (led : Led)
    (hBC : Cc ≠ B) (hne : ∀ p ∈ led, p.1 ≠ B)
    {dp un : Nat} {gd : Option (List Code)} {env : Env} {outer : List Env} {frs : Led} {h₀ : Heap} {L : Addr} {m : Nm} {s : Shared}
    {p : Program} {loose : List PySem.Str} {mean : ExcName → Option Value} {mg mb : Nm} {R : Result → Shared → Prop}
    (C : Cal w dp un env outer frs h₀ L m ((B, o) :: (Cc, lst cells) :: led) 3 s p loose mean mg mb)
    (ok : ∀ r o' tl d h' tk', Fr h₀ L h' m → News h₀ L h' (tl ++ ((B, o') :: (Cc, lst cells) :: led)) → BoxIs Cc o' (k + 10) → (∀ q ∈ tl, Tup q) → (∀ q ∈ tl, B < q.1 ∧ Cc < q.1 ∧ ∀ p ∈ led, p.1 < q.1) → DV tl d r → GoodRow d → R (.ok (.ret r)) { s with heap := h', toks := tk' }) :
    codeAny (model prog w) (top dp un gd (env :: outer)) (.call (.ref 209) ⟨[.ref B, .int turn tt], []⟩) R s := by
  have X := C.X
  have T := C.T
  have hd := C.hd
  have hu := C.hu
  (k_dflt (refine' enterUX ?kC ?k6 ?k7 ?k9 ?kB ?c5 ?kn ?c2 ?c3 ?c4 ?_; (case kC => assumption); (case k6 => k_is); (case k7 => k_is); (case k9 => first | exact BindsTo.of_eq rfl | fail "defaults"); (case c5 => decide); (case kB => rfl); (case kn => first | decide | omega); (case c2 => exact rfl); (case c3 => exact rfl); (case c4 => exact rfl); k_whole))
  intro L' h₁ tk₁ cs oL frs₁ Qc Ec F N Y Fs Fi Lt neL hL9 okc hE
  have hY := CellsAre.one Y
  obtain ⟨oc, hEq, hoc⟩ := hY
  subst hEq
  clear Y
  dsimp only [List.cons_append, List.nil_append] at N
  have hBL : B ≠ L := neL (B, o) (.head _)
  have hneB : ∀ p ∈ ((L' + 1, oc) :: (L, oL) :: led : Led), p.1 ≠ B := fun p hp => by
    rcases List.mem_cons.mp hp with rfl | hp
    · exact Nat.ne_of_gt (Nat.lt_succ_of_lt (Lt (B, o) (.tail _ (.head _))))
    · rcases List.mem_cons.mp hp with rfl | hp
      · exact Ne.symm hBL
      · exact hne p hp
  replace N : News h₀ L' h₁ ((B, o) :: (Cc, lst cells) :: (L' + 1, oc) :: (L, oL) :: led) := fun p hp => N p (by
    rcases List.mem_cons.mp hp with rfl | hp
    · exact .tail _ (.tail _ (.head _))
    · rcases List.mem_cons.mp hp with rfl | hp
      · exact .tail _ (.tail _ (.tail _ (.head _)))
      · rcases List.mem_cons.mp hp with rfl | hp
        · exact .head _
        · rcases List.mem_cons.mp hp with rfl | hp
          · exact .tail _ (.head _)
          · exact .tail _ (.tail _ (.tail _ (.tail _ hp))))
  -- the frames, met in the ledger, whatever the box holds
  have frM : ∀ q ∈ frs₁, TI.notDict q = false := fun q hq => by
    obtain ⟨es, ep, hdc⟩ := TI.Frs.dict Fs q hq
    simp [TI.notDict, hdc]
  refine hold (fun Ph hPh => ?_)
  obtain ⟨n0, g0, st0, pl0, a1, a2, a3, -, -, -, -, -, ho0⟩ := id hb
  refine hPh ?_
  clear hPh
  have FiB : ∀ (o' : Obj), ∀ q ∈ frs₁, q ∈ ((B, o') :: (Cc, lst cells) :: (L' + 1, oc) :: (L, oL) :: led : Led) := fun o' q hq => by
    have hf := frM q hq
    rcases List.mem_cons.mp (Fi q hq) with rfl | h
    · exact .tail _ (.tail _ (.tail _ (.head _)))
    · rcases List.mem_cons.mp h with rfl | h
      · rw [ho0] at hf; cases hf
      · rcases List.mem_cons.mp h with rfl | h
        · exact .tail _ (.head _)
        · exact .tail _ (.tail _ (.tail _ (.tail _ h)))
  have fin : ∀ (o' : Obj) (tl : Led) (d : Dat) (r : Value) (k' : Int) (h' : Heap) (tk' : Nat) (m' : Nm), Fr h₀ L' h' m' → News h₀ L' h' (tl ++ ((B, o') :: (Cc, lst cells) :: (L' + 1, oc) :: (L, oL) :: led)) → BoxIs Cc o' k' → k' ≤ k + 10 →
      (∀ q ∈ tl, Tup q) → (∀ q ∈ tl, B < q.1 ∧ Cc < q.1 ∧ ∀ p ∈ led, p.1 < q.1) → DV tl d r → GoodRow d → Qc (.ret r) { s with heap := h', toks := tk' } := fun o' tl d r k' h' tk' m' F9 N9 hb9 hk9 ht9 hl9 hd9 hg9 => by
    refine okc r (tl ++ ((B, o') :: (Cc, lst cells) :: led)) h' m' tk' F9 (fun p hp => N9 p ?_) (fun p hp => ?_) fun Fx Nx => ok r o' tl d h' tk' Fx Nx (hb9.mono hk9) ht9 hl9 hd9 hg9
    · rcases List.mem_cons.mp hp with rfl | hp
      · exact List.mem_append_right _ (.tail _ (.tail _ (.tail _ (.head _))))
      · rcases List.mem_append.mp hp with hp | hp
        · exact List.mem_append_left _ hp
        · rcases List.mem_cons.mp hp with rfl | hp
          · exact List.mem_append_right _ (.head _)
          · rcases List.mem_cons.mp hp with rfl | hp
            · exact List.mem_append_right _ (.tail _ (.head _))
            · exact List.mem_append_right _ (.tail _ (.tail _ (.tail _ (.tail _ hp))))
    · rcases List.mem_append.mp hp with hp | hp
      · intro e
        have h1 := (N9 p (List.mem_append_left _ hp)).1
        have h2 := (N9 (L, oL) (List.mem_append_right _ (.tail _ (.tail _ (.tail _ (.head _)))))).1
        rw [e, h2] at h1
        have ht := (ht9 p hp).2
        obtain ⟨es, ep, hL9⟩ := hL9
        exact TI.notDict_ne ht (by rw [← Option.some.inj h1]; exact hL9)
      · rcases List.mem_cons.mp hp with rfl | hp
        · exact hBL
        · exact neL p (.tail _ hp)
  (repeat' (first | ((((fail_if_success k_end); (fail_if_success (with_reducible show wpAny _ _ (exec (Stmt.While _ _ _ _) _) _ _ _)); (fail_if_success (with_reducible show wpAny _ _ (exec (Stmt.For _ _ _ _ _) _) _ _ _)))); ((first | walk1 | (dsimp only; walk1)))) | (first | ((with_reducible show Frag.In _ _ ∧ _); refine ⟨by k_in, ?_⟩; try dsimp only [List.nil_append, List.cons_append]) | ((with_reducible show KswPost _ _ _ _ _ _ _ _ _ _ _ _ _ _); dsimp only [KswPost]))))
  refine draw_use hc hn (k := k) (by (exact ile hk rfl)) hb (limit := 4) (by decide) (by decide) (led := (L' + 1, oc) :: (L, oL) :: led) hBC hneB F N X T Fs (FiB _) rfl rfl (by (exact Nat.le_of_lt hd)) (by lia) (fun o2 way tw h' tk' F2 N2 hb2 hw0 hw1 => ?_)
  clear F N
  dsimp only at F2 N2 ⊢
  (repeat' (first | ((((fail_if_success k_end); (fail_if_success (with_reducible show wpAny _ _ (exec (Stmt.While _ _ _ _) _) _ _ _)); (fail_if_success (with_reducible show wpAny _ _ (exec (Stmt.For _ _ _ _ _) _) _ _ _)))); ((first | walk1 | (dsimp only; walk1)))) | (first | ((with_reducible show Frag.In _ _ ∧ _); refine ⟨by k_in, ?_⟩; try dsimp only [List.nil_append, List.cons_append]) | ((with_reducible show KswPost _ _ _ _ _ _ _ _ _ _ _ _ _ _); dsimp only [KswPost]))))
  · rename Fr _ _ _ _ => Fa
    rename News _ _ _ _ => Na
    refine draw_use hc hn (k := k + 1) (by (exact ilf hk rfl)) hb2 (limit := 1000) (by decide) (by decide) (led := (L' + 1, oc) :: (L, oL) :: led) hBC hneB Fa Na X T Fs (FiB _) rfl rfl (by (exact Nat.le_of_lt hd)) (by lia) (fun o3 x tx h' tk' F3 N3 hb3 hx0 hx1 => ?_)
    clear Fa Na
    dsimp only at F3 N3 ⊢
    (repeat' (first | ((((fail_if_success k_end); (fail_if_success (with_reducible show wpAny _ _ (exec (Stmt.While _ _ _ _) _) _ _ _)); (fail_if_success (with_reducible show wpAny _ _ (exec (Stmt.For _ _ _ _ _) _) _ _ _)))); ((first | walk1 | (dsimp only; walk1)))) | (first | ((with_reducible show Frag.In _ _ ∧ _); refine ⟨by k_in, ?_⟩; try dsimp only [List.nil_append, List.cons_append]) | ((with_reducible show KswPost _ _ _ _ _ _ _ _ _ _ _ _ _ _); dsimp only [KswPost]))))
    rename Fr _ _ _ _ => Fb
    rename News _ _ _ _ => Nb
    rename B < _ ∧ Cc < _ ∧ _ => hz
    exact fin o3 [_] _ _ _ _ _ _ Fb Nb hb3 (by (simp +arith)) (fun q hq => by rw [List.mem_singleton.mp hq]; exact ⟨rfl, rfl⟩) (fun q hq => by rw [List.mem_singleton.mp hq]; exact ⟨hz.1, hz.2.1, fun p hp => kst_ltOf hz.2.2.2.2 p hp⟩) (.row (.head _) (.cons (.text _ _) (.cons (.int _ _) .nil))) (good_a (by decide) (by decide) (by lia))
  · rename Fr _ _ _ _ => Fa
    rename News _ _ _ _ => Na
    refine draw_use hc hn (k := k + 1) (by (exact ilf hk rfl)) hb2 (limit := 5) (by decide) (by decide) (led := (L' + 1, oc) :: (L, oL) :: led) hBC hneB Fa Na X T Fs (FiB _) rfl rfl (by (exact Nat.le_of_lt hd)) (by omega) (fun o3 x tx h' tk' F3 N3 hb3 hx0 hx1 => ?_)
    clear Fa Na
    dsimp only at F3 N3 ⊢
    (repeat' (first | ((((fail_if_success k_end); (fail_if_success (with_reducible show wpAny _ _ (exec (Stmt.While _ _ _ _) _) _ _ _)); (fail_if_success (with_reducible show wpAny _ _ (exec (Stmt.For _ _ _ _ _) _) _ _ _)))); ((first | walk1 | (dsimp only; walk1)))) | (first | ((with_reducible show Frag.In _ _ ∧ _); refine ⟨by k_in, ?_⟩; try dsimp only [List.nil_append, List.cons_append]) | ((with_reducible show KswPost _ _ _ _ _ _ _ _ _ _ _ _ _ _); dsimp only [KswPost]))))
    rename Fr _ _ _ _ => Fb
    rename News _ _ _ _ => Nb
    refine fin o3 [_, _, _] _ _ _ _ _ _ Fb Nb hb3 (by (simp +arith)) (fun q hq => ?_) (fun q hq => ?_) (.row (.head _) (.cons (.text _ _) (.cons (.text _ _) (.cons (.row (.tail _ (.head _)) (.cons (.int _ _) (.cons (.row (.tail _ (.tail _ (.head _))) .nil) .nil))) .nil)))) (good_bc (by decide) (by decide) (by decide) (by decide) (by lia))
    · simp only [List.mem_cons, List.not_mem_nil, or_false] at hq
      rcases hq with rfl | rfl | rfl <;> exact ⟨rfl, rfl⟩
    · rename B < _ ∧ Cc < _ ∧ _ => z1
      rename _ < _ ∧ B < _ ∧ _ => z2
      rename _ < _ ∧ _ < _ ∧ B < _ ∧ _ => z3
      simp only [List.mem_cons, List.not_mem_nil, or_false] at hq
      rcases hq with rfl | rfl | rfl
      · exact ⟨z3.2.2.1, z3.2.2.2.1, fun p hp => kst_ltOf z3.2.2.2.2.2.2 p hp⟩
      · exact ⟨z2.2.1, z2.2.2.1, fun p hp => kst_ltOf z2.2.2.2.2.2 p hp⟩
      · exact ⟨z1.1, z1.2.1, fun p hp => kst_ltOf z1.2.2.2.2 p hp⟩
  rotate_right
  · rename Fr _ _ _ _ => Fa
    rename News _ _ _ _ => Na
    refine draw_use hc hn (k := k + 1) (by (exact ilf hk rfl)) hb2 (limit := 256) (by decide) (by decide) (led := (L' + 1, oc) :: (L, oL) :: led) hBC hneB Fa Na X T Fs (FiB _) rfl rfl (by (exact Nat.le_of_lt hd)) (by lia) (fun o3 x tx h' tk' F3 N3 hb3 hx0 hx1 => ?_)
    clear Fa Na
    dsimp only at F3 N3 ⊢
    (repeat' (first | ((((fail_if_success k_end); (fail_if_success (with_reducible show wpAny _ _ (exec (Stmt.While _ _ _ _) _) _ _ _)); (fail_if_success (with_reducible show wpAny _ _ (exec (Stmt.For _ _ _ _ _) _) _ _ _)))); ((first | walk1 | (dsimp only; walk1)))) | (first | ((with_reducible show Frag.In _ _ ∧ _); refine ⟨by k_in, ?_⟩; try dsimp only [List.nil_append, List.cons_append]) | ((with_reducible show KswPost _ _ _ _ _ _ _ _ _ _ _ _ _ _); dsimp only [KswPost]))))
    rename Fr _ _ _ _ => Fa
    rename News _ _ _ _ => Na
    have Nc : News h₀ L' _ ((B, o3) :: (Cc, lst cells) :: (L' + 1, oc) :: (L, oL) :: led) := fun p hp => Na p (.tail _ hp)
    refine draw_use hc hn (k := k + 1 + 1) (by lia) hb3 (limit := 8) (by decide) (by decide) (led := (L' + 1, oc) :: (L, oL) :: led) hBC hneB Fa Nc X T Fs (FiB _) rfl rfl (by (exact Nat.le_of_lt hd)) (by lia) (fun o4 y ty h' tk' F4 N4 hb4 hy0 hy1 => ?_)
    try clear Fa Na Nc
    dsimp only at F4 N4 ⊢
    (repeat' (first | ((((fail_if_success k_end); (fail_if_success (with_reducible show wpAny _ _ (exec (Stmt.While _ _ _ _) _) _ _ _)); (fail_if_success (with_reducible show wpAny _ _ (exec (Stmt.For _ _ _ _ _) _) _ _ _)))); ((first | walk1 | (dsimp only; walk1)))) | (first | ((with_reducible show Frag.In _ _ ∧ _); refine ⟨by k_in, ?_⟩; try dsimp only [List.nil_append, List.cons_append]) | ((with_reducible show KswPost _ _ _ _ _ _ _ _ _ _ _ _ _ _); dsimp only [KswPost]))))
    rename Fr _ _ _ _ => Fb
    rename News _ _ _ _ => Nb
    rename B < _ ∧ Cc < _ ∧ _ => hz
    refine fin o4 [_] (.row [.text _, .octets (List.replicate (116 + y).toNat x)]) _ _ _ _ _ Fb Nb hb4 (by (simp +arith)) (fun q hq => by rw [List.mem_singleton.mp hq]; exact ⟨rfl, rfl⟩) (fun q hq => by rw [List.mem_singleton.mp hq]; exact ⟨hz.1, hz.2.1, fun p hp => kst_ltOf hz.2.2.2.2 p hp⟩) (.row (.head _) (.cons (.text _ _) (.cons ?_ .nil))) (good_d (by decide) (by decide) (fun z hz => by rw [List.eq_of_mem_replicate hz]; (exact ⟨hx0, hx1⟩)) (by rw [List.length_replicate]; lia))
    rw [rep_bytes]
    exact .octets _ _
  all_goals
    rename Fr _ _ _ _ => Fa
    rename News _ _ _ _ => Na
    refine draw_use hc hn (k := k + 1) (by (first | exact ilf hk rfl | omega)) hb2 (limit := 5) (by decide) (by decide) (led := (L' + 1, oc) :: (L, oL) :: led) hBC hneB Fa Na X T Fs (FiB _) rfl rfl (by (first | exact Nat.le_of_lt hd | omega)) (by omega) (fun o3 cnt tx h' tk' F3 N3 hb3 hx0 hx1 => ?_)
    clear Fa Na
    dsimp only at F3 N3 ⊢
    (repeat' (first | ((((fail_if_success k_end); (fail_if_success (with_reducible show wpAny _ _ (exec (Stmt.While _ _ _ _) _) _ _ _)); (fail_if_success (with_reducible show wpAny _ _ (exec (Stmt.For _ _ _ _ _) _) _ _ _)))); ((first | walk1 | (dsimp only; walk1)))) | (first | ((with_reducible show Frag.In _ _ ∧ _); refine ⟨by k_in, ?_⟩; try dsimp only [List.nil_append, List.cons_append]) | ((with_reducible show KswPost _ _ _ _ _ _ _ _ _ _ _ _ _ _); dsimp only [KswPost]))))
    rename IsRange _ _ _ _ _ _ _ _ => HR
    rename Fr _ _ _ _ => Fa
    rename News _ _ _ _ => Na
    try dsimp only
    try dsimp only at Fa Na HR
    have hrs : Builtin.Range.rangeSize 0 cnt 1 = ((cnt.toNat : Nat) : Int) := by
      unfold Builtin.Range.rangeSize
      rw [if_pos (by decide)]
      split
      · rw [Int.ediv_one]; (first | (clear hx0 hx1; lia) | omega)
      · (first | (clear hx0; lia) | omega)
    refine LCg.CompSrc.range rfl Fa Na HR (small_one (by (first | (simp +arith; done) | omega)) (by (first | (simp +arith; done) | omega)) (by (first | exact ige hx0 rfl | omega)) (by (first | exact ilt hx1 rfl | omega))) hrs (by rw [sizeLine_eq]; (first | (clear hx0; lia) | omega)) fun g => compRest_inv (fun i ys news => ∃ o', news = ((B, o') :: (Cc, lst cells) :: (L' + 1, oc) :: (L, oL) :: led : Led) ∧ BoxIs Cc o' (k + 2 + i) ∧ ∃ zs, IntsAre ys zs ∧ zs.length = i ∧ ∀ z ∈ zs, 0 ≤ z ∧ z < 256) ⟨o3, rfl, hb3.mono (by (first | (simp +arith; done) | omega)), [], .nil, rfl, fun _ h => nomatch h⟩ ?_ ?_
    · intro i ys news v I oI C1 oC D m₂ hp tk hi q13 q14 hC hx1 F6 N6 off ne E'
      refine hold (fun Ph hPh => ?_)
      obtain ⟨o4, rfl, hb4, zs, hys, hzl, hzs⟩ := q13
      obtain ⟨tv, rfl⟩ := q14
      refine hPh ?_
      clear hPh
      clear Fa Na HR
      (repeat' (first | ((((fail_if_success k_end); (fail_if_success (with_reducible show wpAny _ _ (exec (Stmt.While _ _ _ _) _) _ _ _)); (fail_if_success (with_reducible show wpAny _ _ (exec (Stmt.For _ _ _ _ _) _) _ _ _)))); ((first | walk1 | (dsimp only; walk1)))) | (first | ((with_reducible show Frag.In _ _ ∧ _); refine ⟨by k_in, ?_⟩; try dsimp only [List.nil_append, List.cons_append]) | ((with_reducible show KswPost _ _ _ _ _ _ _ _ _ _ _ _ _ _); dsimp only [KswPost]))))
      have off3 := LCg.Off3.mem off
      have hneB4 : ∀ p ∈ ((I, oI) :: (C1, oC) :: (D, LCg.lst ys) :: (L' + 1, oc) :: (L, oL) :: led : Led), p.1 ≠ B := fun p hp => by
        have hB3 := off3 (B, o4) (.head _)
        rcases List.mem_cons.mp hp with rfl | hp
        · exact Ne.symm hB3.1
        · rcases List.mem_cons.mp hp with rfl | hp
          · exact Ne.symm hB3.2.1
          · rcases List.mem_cons.mp hp with rfl | hp
            · exact Ne.symm hB3.2.2
            · exact hneB p hp
      have N7 : News h₀ L' hp ((B, o4) :: (Cc, lst cells) :: (I, oI) :: (C1, oC) :: (D, LCg.lst ys) :: (L' + 1, oc) :: (L, oL) :: led) := fun p hp => N6 p (by
        rcases List.mem_cons.mp hp with rfl | hp
        · exact .tail _ (.tail _ (.tail _ (.head _)))
        · rcases List.mem_cons.mp hp with rfl | hp
          · exact .tail _ (.tail _ (.tail _ (.tail _ (.head _))))
          · rcases List.mem_cons.mp hp with rfl | hp
            · exact .head _
            · rcases List.mem_cons.mp hp with rfl | hp
              · exact .tail _ (.head _)
              · rcases List.mem_cons.mp hp with rfl | hp
                · exact .tail _ (.tail _ (.head _))
                · exact .tail _ (.tail _ (.tail _ (.tail _ (.tail _ hp)))))
      refine draw_use hc hn (k := k + 2 + i) (by (first | (clear hx0 hzl ne; lia) | omega)) hb4 (limit := 256) (by decide) (by decide) (led := (I, oI) :: (C1, oC) :: (D, LCg.lst ys) :: (L' + 1, oc) :: (L, oL) :: led) hBC hneB4 F6 N7 X T Fs (fun q hq => by
        rcases List.mem_cons.mp (FiB o4 q hq) with h | h
        · exact h ▸ .head _
        · rcases List.mem_cons.mp h with h | h
          · exact h ▸ .tail _ (.head _)
          · exact .tail _ (.tail _ (.tail _ (.tail _ (.tail _ h))))) rfl rfl (by (first | exact Nat.le_of_lt hd | omega)) (by (first | lia | omega)) (fun o5 z tz h' tk' F8 N8 hb5 hz0 hz1 => ?_)
      refine LCg.CompEnd.intro F8 N8 ((B, o5) :: (Cc, lst cells) :: (L' + 1, oc) :: (L, oL) :: led) (fun p hp => ?_) ⟨off.1, off.2⟩ trivial ⟨o5, rfl, hb5.mono (by (first | (simp +arith; done) | omega)), zs ++ [z], IntsAre.snoc hys _ _, by simp [hzl], fun y hy => ?_⟩
      · rcases List.mem_cons.mp hp with rfl | hp
        · exact .tail _ (.tail _ (.head _))
        · rcases List.mem_cons.mp hp with rfl | hp
          · exact .tail _ (.tail _ (.tail _ (.head _)))
          · rcases List.mem_cons.mp hp with rfl | hp
            · exact .tail _ (.tail _ (.tail _ (.tail _ (.head _))))
            · rcases List.mem_cons.mp hp with rfl | hp
              · exact .head _
              · rcases List.mem_cons.mp hp with rfl | hp
                · exact .tail _ (.head _)
                · exact .tail _ (.tail _ (.tail _ (.tail _ (.tail _ hp))))
      · rcases List.mem_append.mp hy with hy | hy
        · exact hzs y hy
        · rw [List.mem_singleton.mp hy]; exact ⟨hz0, hz1⟩
    · intro ys news q2
      refine hold (fun Ph hPh => ?_)
      obtain ⟨o4, rfl, hb4, zs, hys, hzl, hzs⟩ := q2
      refine hPh ?_
      clear hPh
      intro D hp tk F6 N6 off
      clear Fa Na HR
      (repeat' (first | ((((fail_if_success k_end); (fail_if_success (with_reducible show wpAny _ _ (exec (Stmt.While _ _ _ _) _) _ _ _)); (fail_if_success (with_reducible show wpAny _ _ (exec (Stmt.For _ _ _ _ _) _) _ _ _)))); ((first | walk1 | (dsimp only; walk1)))) | (first | ((with_reducible show Frag.In _ _ ∧ _); refine ⟨by k_in, ?_⟩; try dsimp only [List.nil_append, List.cons_append]) | ((with_reducible show KswPost _ _ _ _ _ _ _ _ _ _ _ _ _ _); dsimp only [KswPost]))))
      rename Fr _ _ _ _ => Fb
      rename News _ _ _ _ => Nb
      rename _ < _ ∧ B < _ ∧ Cc < _ ∧ _ => hz0
      have hz := hz0.2
      exact fin o4 [_] _ _ _ _ _ _ Fb (fun p hp => Nb p (by
        rcases List.mem_cons.mp hp with rfl | hp
        · exact .head _
        · exact .tail _ (.tail _ hp))) hb4 (by (first | (clear hx0 hzl; lia) | omega)) (fun q hq => by rw [List.mem_singleton.mp hq]; exact ⟨rfl, rfl⟩) (fun q hq => by rw [List.mem_singleton.mp hq]; exact ⟨hz.1, hz.2.1, fun p hp => kst_ltOf hz.2.2.2.2 p hp⟩) (.row (.head _) (.cons (.text _ _) (.cons (.octets zs _) .nil))) (good_d (by decide) (by decide) hzs (by (first | (clear hx0; lia) | omega)))

end

section
/-- the entries of a ledger at the places `is`, then those from place k on -/
def sel (led : Led) : List Nat → Nat → Led
  | [], k => led.drop k
  | i :: is, k => match led.drop i with
    | [] => sel led is k
    | a :: _ => a :: sel led is k
theorem sel_mem {led : Led} {k : Nat} {p : Addr × Obj} : ∀ is, p ∈ sel led is k → p ∈ led
  | [], h => List.mem_of_mem_drop h
  | i :: is, h => by
    rw [sel] at h
    cases e : led.drop i with
    | nil => rw [e] at h; exact sel_mem is h
    | cons a l =>
      rw [e] at h
      rcases List.mem_cons.mp h with rfl | h
      · exact List.mem_of_mem_drop (i := i) (e ▸ .head _)
      · exact sel_mem is h
theorem News.sel {h₀ h : Heap} {L : Addr} {led led' : Led} (N : News h₀ L h led) (is : List Nat) (k : Nat) (e : led' = Mine.sel led is k) : News h₀ L h led' :=
  fun p hp => N p (sel_mem is (e ▸ hp))
/-- a middle piece laid at the end -/
theorem News.mid {h₀ h : Heap} {L : Addr} {led' : Led} (pre x mid tl : Led) (N : News h₀ L h (pre ++ (x ++ (mid ++ tl)))) (e : led' = pre ++ (mid ++ (x ++ tl))) : News h₀ L h led' := fun p hp => N p (by
  subst e
  rcases List.mem_append.mp hp with hp | hp
  · exact List.mem_append_left _ hp
  · rcases List.mem_append.mp hp with hp | hp
    · exact List.mem_append_right _ (List.mem_append_right _ (List.mem_append_left _ hp))
    · rcases List.mem_append.mp hp with hp | hp
      · exact List.mem_append_right _ (List.mem_append_left _ hp)
      · exact List.mem_append_right _ (List.mem_append_right _ (List.mem_append_right _ hp)))
/-- a middle piece left out -/
theorem News.cut {h₀ h : Heap} {L : Addr} {led' : Led} (pre x tl : Led) (N : News h₀ L h (pre ++ (x ++ tl))) (e : led' = pre ++ tl) : News h₀ L h led' := fun p hp => N p (by
  subst e
  rcases List.mem_append.mp hp with hp | hp
  · exact List.mem_append_left _ hp
  · exact List.mem_append_right _ (List.mem_append_right _ hp))
theorem all_cons {P : Addr × Obj → Prop} {a : Addr × Obj} {l : Led} (h : P a) (t : ∀ p ∈ l, P p) : ∀ p ∈ a :: l, P p := List.forall_mem_cons.mpr ⟨h, t⟩
theorem ne_cons {B a : Addr} {o : Obj} {l : Led} (h : a ≠ B) (t : ∀ p ∈ l, p.1 ≠ B) : ∀ p ∈ (a, o) :: l, p.1 ≠ B := List.forall_mem_cons.mpr ⟨h, t⟩
theorem nd_cons {a : Addr × Obj} {l : Led} (h : TI.notDict a = true) (t : ∀ p ∈ l, TI.notDict p = true) : ∀ p ∈ a :: l, TI.notDict p = true := List.forall_mem_cons.mpr ⟨h, t⟩
theorem DVs.inL {led x y : Led} {ds : List Dat} {vs : List Value} (k : Nat) (h : DVs x ds vs) (e : led.drop k = x ++ y) : DVs led ds vs := h.mono fun q hq => List.mem_of_mem_drop (i := k) (e ▸ List.mem_append_left _ hq)
theorem DVs.inR {led x y : Led} {ds : List Dat} {vs : List Value} (k : Nat) (h : DVs y ds vs) (e : led.drop k = x ++ y) : DVs led ds vs := h.mono fun q hq => List.mem_of_mem_drop (i := k) (e ▸ List.mem_append_right _ hq)
section
variable {prog : Program} {w : World} {dp un : Nat} {gd : Option (List Code)} {s : Shared} {R : Flow → Shared → Prop}
theorem enterLaw {name qual : PySem.Str} {params : Arguments} {body : List Stmt} {scope : Scope} {dV kV doc pm cdv ct oc : Value} {an od : Option Addr} {osl : Array (Option Value)} {f : Addr} {args : Args} {binds : List (PySem.Str × Value)}
    (hdp : dp < 1000) (hlim : s.heap.NoLimit)
    (X : (TopL.heap_1 w.params).In s.heap)
    (ho : (TopL.heap_1 w.params).lookup f = some ⟨oc, od, .func (fnOf name qual params body scope dV kV doc pm an cdv ct), osl⟩) (hcd : codeIn (TopL.heap_1 w.params) cdv qual = true)
    (hbind : BindsTo s (fnOf name qual params body scope dV kV doc pm an cdv ct) args binds)
    (hkind : (binds.all fun y => scope.names.lookup y.1 == some .local || scope.names.lookup y.1 == some .cell) = true)
    (hnd : ((cellsFrom 0 scope.names []).map (·.1)).Nodup)
    (hco : scope.isCoroutine = false) (hgen : scope.isGenerator = false) (hk : scope.kind = .function)
    (h : ∀ L' h₁ tk₁ cells, L' = s.heap.objs.size → Fr s.heap L' h₁ (bindL (envOfC qual scope L' f cdv).kindOf binds fun _ => none) → News s.heap L' h₁ cells → CellsAre (bindC (envOfC qual scope L' f cdv).kindOf binds fun _ => none) (cellsFrom (L' + 1) scope.names []) cells →
      wpC (model prog w) (top (dp + 1) (un + 3) gd [envOfC qual scope L' f cdv]) (execs body (envOfC qual scope L' f cdv)) (fun fl s' => R (.ret (match fl with | .ret v => v | _ => .none)) s') { s with heap := h₁, toks := tk₁ }) :
    codeC (model prog w) (top dp un gd []) (.call (.ref f) args) R s := by
  refine codeC_call_function (fd := fnOf name qual params body scope dV kV doc pm an cdv ct) (body := body) hdp (X _ _ ho) rfl hco hgen rfl (codeRec_of X hcd) (hbind _ _ _ _ ?_)
  refine wpAny_newFunctionEnv_cells hk (kindsX hkind _) fun env' he s' x => ?_
  subst he
  refine ⟨hlim.keeps x.toInCall.keep, codeC_func ?_⟩
  obtain ⟨h₁, tk, rfl, _⟩ := x.done
  have hk₁ := x.toInCall.keep
  obtain ⟨cells, NC, Y⟩ := Cl.news (h₀ := s.heap) (Nat.le_refl _) fun n c hm => ⟨x.cell n c (lookup_of_mem_nodup (cellsFrom_names scope.names 0 (s.heap.objs.size + 1) [] [] rfl ▸ hnd) hm), x.above n c hm⟩
  exact h _ _ _ cells rfl ⟨x.toInCall.ns, fun b o e => hk₁ b o e, Nat.le_refl _⟩ NC Y
end
section
variable {M : Model} {A : Around} {s : Shared} {env : Env}
theorem wpC_isTrue_or {x : Expr} {rest : List Expr} {pos whole : _} {Q : Bool → Shared → Prop}
    (h : wpC M A (isTrue x env (eval x env)) (fun c s' => if c = true then Q true s' else wpC M A (isTrue (.BoolOp .Or rest pos) env whole) Q s') s) : wpC M A (isTrue (.BoolOp .Or (x :: rest) pos) env whole) Q s := by
  show wpC M A (do
    match BoolOp.Or, ← isTrue x env (eval x env) with
    | .And, false => pure false
    | .Or, true => pure true
    | _, _ => allTrue .Or rest env) Q s
  refine wpC_bind (wpC_mono h fun c s' h' => ?_)
  cases c with
  | false => exact h'
  | true => exact wpC_pure h'
end
section
variable {prog : Program} {w : World} {A : Around} {h₀ : Heap} {L : Addr} {m : Nm} {env : Env} {s : Shared}
theorem compRestT_fix {ct elt : Expr} {x : PySem.Str} {scope : Scope} {cl : List (PySem.Str × Addr)} {S : Led → Prop} {P : Nat → Value → Prop} {Fin : List Value → Led → Prop} {n : Nat} {news : Led}
    (J : Nat → List Value → Prop) (h0 : J 0 [])
    (turn : ∀ i ys v I oI C oC D m₂ h tk, i < n → J i ys → P i v → LCg.NsObj oC m₂ → m₂ x = some v → Fr h₀ L h m → News h₀ L h ((I, oI) :: (C, oC) :: (D, LCg.lst ys) :: news) → LCg.Off3 I C D news → ((@Ne Nat I C) ∧ (@Ne Nat I D) ∧ (@Ne Nat C D)) → ∀ E',
      wpAny (model prog w) A (isTrue ct (compEnvC scope cl C env) (eval ct (compEnvC scope cl C env))) (fun ok s' => if ok = true then
        wpAny (model prog w) A (eval elt (compEnvC scope cl C env)) (LCg.CompEnd h₀ L m { s with heap := h, toks := tk } I oI C oC D (LCg.lst ys) S (fun y news' => news' = news ∧ J (i + 1) (ys ++ [y]))) E' s'
        else LCg.CompEnd h₀ L m { s with heap := h, toks := tk } I oI C oC D (LCg.lst ys) S (fun _ news' => news' = news ∧ J (i + 1) ys) Value.none s') E' { s with heap := h, toks := tk })
    (fin : ∀ ys, J n ys → Fin ys news) : LCt.CompRestT prog w A h₀ L m env ct elt x scope cl s S P Fin n 0 [] news := by
  have : ∀ k i ys, i + k = n → J i ys → LCt.CompRestT prog w A h₀ L m env ct elt x scope cl s S P Fin k i ys news := by
    intro k
    induction k with
    | zero => intro i ys hi hJ; obtain rfl : i = n := hi; exact fin _ hJ
    | succ k ih =>
      intro i ys hi hJ
      refine LCt.CompRestT.succ fun v I oI C oC D m₂ h tk E' hP hC hx F N off ne => ?_
      refine wpAny_mono (turn i ys v I oI C oC D m₂ h tk (by lia) hJ hP hC hx F N off ne E') (fun ok s' q => ?_) fun _ _ x => x
      cases ok with
      | true =>
        simp only [if_true] at q ⊢
        refine wpAny_mono q (fun y s₂ q => ?_) fun _ _ x => x
        obtain ⟨h', tk', news', e, F', N', o', S', e2, J'⟩ := q
        subst e2
        exact ⟨h', tk', _, e, F', N', o', S', ih _ _ (by lia) J'⟩
      | false =>
        simp only [Bool.false_eq_true, if_false] at q ⊢
        obtain ⟨h', tk', news', e, F', N', o', S', e2, J'⟩ := q
        subst e2
        exact ⟨h', tk', _, e, F', N', o', S', ih _ _ (by omega) J'⟩
  exact this n 0 [] (by (exact Nat.zero_add _)) h0
end
theorem rr_len (ks : List Int) : ∀ (n a : Nat), (rr ks n a).length ≤ n
  | 0, a => by rw [rr, List.length_nil]; exact Nat.le_refl _
  | n + 1, a => by
    rw [rr]
    cases h : rat ks a with
    | none => dsimp only; rw [List.length_nil]; exact Nat.zero_le _
    | some p =>
      obtain ⟨d, e⟩ := p
      dsimp only
      rw [List.length_cons]
      exact Nat.succ_le_succ (rr_len ks n e)
theorem DVs.take {led : Led} : ∀ {ds : List Dat} {vs : List Value}, DVs led ds vs → ∀ k, DVs led (ds.take k) (vs.take k)
  | _, _, _, 0 => .nil
  | _, _, .nil, _ + 1 => .nil
  | _, _, .cons a r, k + 1 => .cons a (DVs.take r k)
theorem ends_snoc (xs : List Dat) (x : Dat) : ends (xs ++ [x]) = ends xs ++ [((frs (xs ++ [x])).length : Int)] := by
  unfold ends
  rw [pairs_app, List.map_append, Nat.zero_add, frs_app]
  simp [pairs, frs]
section
variable {prog : Program} {w : World} {dp un : Nat} {gd : Option (List Code)} {env : Env} {h₀ : Heap} {L : Addr} {m : Nm} {s : Shared}
  {p : Program} {loose : List PySem.Str} {mean : ExcName → Option Value} {mg mb : Nm} {Q E : Value → Shared → Prop}
/-- the calls of the law's own frame, with no frame outside it -/
theorem rows0 {b : Array UInt8} {tb : Tok} {ks : List Int} (hks : KBw.bInts b = ks) (hlen : ks.length ≤ 9000) {led : Led} {n : Nat} {dx : List Dat} (hn : lastEnd (al ks) = n) (hdx : (al ks).map (·.1) = dx)
    (F : Fr h₀ L s.heap m) (N : News h₀ L s.heap led) (X : (TopL.heap_1 w.params).In h₀) (T : Top p loose mean mg mb h₀) (hnd : ∀ q ∈ led, TI.notDict q = true)
    (hf : env.frame = some L) (hk : env.scope.kind = .function) (hdp : dp + 55 < 1000) (hu : un + 8 * 55 < 9900)
    (ok : ∀ D l t vs tla h' tk', Fr h₀ L h' m → News h₀ L h' ((l, tupO [.ref D, .int ((n : Nat) : Int) t]) :: (D, lst vs) :: (tla ++ led)) → DVs tla dx vs → Q (.ref l) { s with heap := h', toks := tk' }) :
    wpAny (model prog w) (top dp un gd [env]) (call (.ref 178) [.bytes b tb]) Q E s := by
  refine ConC.use (frs := []) (con_read_rows prog w b tb ks hks hlen led) F (by rw [List.append_nil]; exact N) X T trivial hnd hf hk hdp hu (fun r tlx frs' h' tk' F' su N' _ hr => ?_)
  obtain rfl : frs' = [] := by cases frs' with | nil => rfl | cons _ _ => exact su.elim
  obtain ⟨D, l, t, vs, tla, rfl, rfl, -, hv⟩ := hr
  subst hn
  subst hdx
  rw [List.append_nil] at N'
  exact ok D l t vs tla h' tk' F' N' hv
theorem ends0 {b : Array UInt8} {tb : Tok} {ks : List Int} (hks : KBw.bInts b = ks) (hlen : ks.length ≤ 9000) {led : Led} {es : List Int} (he : (al ks).map (fun p => (p.2 : Int)) = es)
    (F : Fr h₀ L s.heap m) (N : News h₀ L s.heap led) (X : (TopL.heap_1 w.params).In h₀) (T : Top p loose mean mg mb h₀) (hnd : ∀ q ∈ led, TI.notDict q = true)
    (hf : env.frame = some L) (hk : env.scope.kind = .function) (hdp : dp + 55 < 1000) (hu : un + 8 * 55 < 9900)
    (ok : ∀ D vs h' tk', Fr h₀ L h' m → News h₀ L h' ((D, lst vs) :: led) → IntsAre vs es → Q (.ref D) { s with heap := h', toks := tk' }) :
    wpAny (model prog w) (top dp un gd [env]) (call (.ref 185) [.bytes b tb]) Q E s := by
  refine ConC.use (frs := []) (con_frame_ends prog w b tb ks hks hlen led) F (by rw [List.append_nil]; exact N) X T trivial hnd hf hk hdp hu (fun r tlx frs' h' tk' F' su N' _ hr => ?_)
  obtain rfl : frs' = [] := by cases frs' with | nil => rfl | cons _ _ => exact su.elim
  obtain ⟨D, vs, tla, rfl, rfl, -, hv⟩ := hr
  subst he
  rw [List.append_nil] at N'
  exact ok D vs h' tk' F' (News.cut [_] tla led N' rfl) hv
theorem isread0 {b : Array UInt8} {tb : Tok} {ks : List Int} (hks : KBw.bInts b = ks) (hlen : ks.length ≤ 9000) {led : Led}
    (F : Fr h₀ L s.heap m) (N : News h₀ L s.heap led) (X : (TopL.heap_1 w.params).In h₀) (T : Top p loose mean mg mb h₀) (hnd : ∀ q ∈ led, TI.notDict q = true)
    (hf : env.frame = some L) (hk : env.scope.kind = .function) (hdp : dp + 60 < 1000) (hu : un + 8 * 60 < 9900)
    (ok : ∀ h' tk', Fr h₀ L h' m → News h₀ L h' led → Q (.bool true) { s with heap := h', toks := tk' }) :
    wpAny (model prog w) (top dp un gd [env]) (call (.ref 252) [.bytes b tb]) Q E s := by
  refine ConG.use (frs := []) (con_law_is_read prog w b tb ks hks hlen led) F (by rw [List.append_nil]; exact N) X T trivial hnd hf hk hdp hu (fun r ledx frs' h' tk' F' su N' _ hr => ?_)
  obtain ⟨⟨tlx, rfl⟩, rfl⟩ := hr
  exact ok h' tk' F' fun p hp => N' p (List.mem_append_left _ (List.mem_append_right _ hp))
end
theorem con_law (prog : Program) (w : World) (S : Addr) (vs : List Value) (ns : List Int) (hI : IntsAre vs ns) (hvl : ns.length ≤ 63)
    {dp un : Nat} {gd : Option (List Code)} {s : Shared} {p : Program} {loose : List PySem.Str} {mean : ExcName → Option Value} {mg mb : Nm}
    (X : (TopL.heap_1 w.params).In s.heap) (T : Top p loose mean mg mb s.heap) (hS : s.heap.IsList S vs.toArray) (hd : dp + 70 < 1000) (hu : un + 8 * 70 < 9900) :
    codeC (model prog w) (top dp un gd []) (.call (.ref 257) ⟨[.ref S], []⟩) (fun fl s' => fl = .ret (.bool true) ∧ ∃ h' tk' m, s' = { s with heap := h', toks := tk' } ∧ Fr s.heap s.heap.objs.size h' m) s := by
  k_dflt (refine' enterLaw ?d1 (Top.nolimit T) X ?k6 ?k7 ?k9 ?kB ?c5 ?c2 ?c3 ?c4 ?_; (case d1 => (exact ltz hd)); (case k6 => k_is); (case k7 => k_is); (case k9 => first | exact BindsTo.of_eq rfl | fail "defaults"); (case c5 => decide); (case kB => rfl); (case c2 => exact rfl); (case c3 => exact rfl); (case c4 => exact rfl); k_whole)
  intro L' h₁ tk₁ cells hL' F N Y
  generalize hh₀ : s.heap = h₀ at *
  have hY := CellsAre.two Y
  refine hold (fun Ph hPh => ?_)
  obtain ⟨ocP, ocB, hEq, hocP, hocB⟩ := hY
  refine hPh ?_
  clear hPh
  subst hEq
  clear Y
  have hvl2 : vs.length ≤ 63 := by rw [hI.length]; exact hvl
  try ((with_reducible refine Aim.use (by assumption) ?_); (try dsimp only))
  refine wpC_execs_cons (wpC_of_any ?_)
  (repeat' (first | ((((fail_if_success k_end); (fail_if_success (with_reducible show wpAny _ _ (exec (Stmt.While _ _ _ _) _) _ _ _)); (fail_if_success (with_reducible show wpAny _ _ (exec (Stmt.For _ _ _ _ _) _) _ _ _)))); ((first | (((with_reducible show wpAny _ _ (exec _ _) _ _ _); (fail_if_success (refine aimed (by assumption) ?_)); refine aim (fun Qo hQo => ?_))) | walk1 | (dsimp only; walk1)))) | (first | (with_reducible refine Aim.use (by assumption) ?_) | (first | ((with_reducible show Frag.In _ _ ∧ _); refine ⟨by k_in, ?_⟩; try dsimp only [List.nil_append, List.cons_append]) | ((with_reducible show KswPost _ _ _ _ _ _ _ _ _ _ _ _ _ _); dsimp only [KswPost])))))
  have hndP : TI.notDict (L' + 1 + 1, ocP) = true := by simp [TI.notDict, hocP]
  have hndB : TI.notDict (L' + 1, ocB) = true := by simp [TI.notDict, hocB]
  refine wpAny_call (con_box prog w S vs ns hI hvl2 [(L' + 1 + 1, ocP), (L' + 1, ocB)] (frs := []) hS (nd_cons hndP (nd_cons hndB (fun _ h => nomatch h))) ⟨F, X, N, T, trivial, (fun _ h => nomatch h), rfl, rfl, by (exact ltd hd rfl), by (exact ltu hu rfl)⟩ (fun r led' frs' h' tk' F2 su2 N2 nd2 hp => ?_))
  refine hold (fun Ph hPh => ?_)
  obtain ⟨B, Cc, ob0, cells, ms, rfl, hb0, rfl, hms, hml, hCB, hap⟩ := hp
  refine hPh ?_
  clear hPh
  obtain rfl : frs' = [] := by cases frs' with | nil => rfl | cons _ _ => exact su2.elim
  clear F N su2
  have apP := hap (L' + 1 + 1, ocP) (.head _)
  have apB := hap (L' + 1, ocB) (.tail _ (.head _))
  have N3 : News h₀ L' h' ((L' + 1, ocB) :: (B, ob0) :: (Cc, lst cells) :: (L' + 1 + 1, ocP) :: []) := News.sel N2 [3, 0, 1, 2] 4 rfl
  refine stCN (own := []) F2 N3 rfl hocB (fun _ h => nomatch h) (ne_cons (Ne.symm apB.1) (ne_cons (Ne.symm apB.2) (ne_cons (Nat.ne_of_gt (Nat.lt_succ_self _)) (fun _ h => nomatch h)))) (fun h2 oB F3 N4 hoB => ?_)
  clear F2 N2 N3 hocB hndB
  try dsimp only [List.nil_append] at F3 N4 ⊢
  have hndB : TI.notDict (L' + 1, oB) = true := by simp [TI.notDict, hoB]
  try ((with_reducible refine Aim.use (by assumption) ?_); (try dsimp only))
  refine wpC_execs_cons (wpC_of_any ?_)
  ((k_dflt (refine LCg.Assign_ListComp_U (F₀ := by k_asm) (by rfl) (by with_unfolding_all rfl) (by with_unfolding_all rfl) (by decide) (by rfl) (by decide) (by rfl) (by rfl) (by rfl) ?_)))
  (repeat' (first | ((((fail_if_success k_end); (fail_if_success (with_reducible show wpAny _ _ (exec (Stmt.While _ _ _ _) _) _ _ _)); (fail_if_success (with_reducible show wpAny _ _ (exec (Stmt.For _ _ _ _ _) _) _ _ _)))); ((first | (((with_reducible show wpAny _ _ (exec _ _) _ _ _); (fail_if_success (refine aimed (by assumption) ?_)); refine aim (fun Qo hQo => ?_))) | walk1 | (dsimp only; walk1)))) | (first | (with_reducible refine Aim.use (by assumption) ?_) | (first | ((with_reducible show Frag.In _ _ ∧ _); refine ⟨by k_in, ?_⟩; try dsimp only [List.nil_append, List.cons_append]) | ((with_reducible show KswPost _ _ _ _ _ _ _ _ _ _ _ _ _ _); dsimp only [KswPost])))))
  have hneB : ∀ p ∈ ([(L' + 1, oB), (L' + 1 + 1, ocP)] : Led), p.1 ≠ B := ne_cons apB.1 (ne_cons apP.1 (fun _ h => nomatch h))
  have N5 : News h₀ L' h2 ((B, ob0) :: (Cc, lst cells) :: [(L' + 1, oB), (L' + 1 + 1, ocP)]) := News.sel N4 [1, 2, 0, 3] 4 rfl
  clear N4
  refine draw_use hms hml (k := 0) (by (exact n0 _)) hb0 (limit := 4) (by decide) (by decide) hCB hneB F3 N5 X T trivial (frs := []) (fun _ h => nomatch h) rfl rfl (by (exact ltd hd rfl)) (by lia) (fun o1 cnt tc h' tk' F4 N4 hb1 hc0 hc1 => ?_)
  clear F3 N5 hb0
  dsimp only at F4 N4 ⊢
  (repeat' (first | ((((fail_if_success k_end); (fail_if_success (with_reducible show wpAny _ _ (exec (Stmt.While _ _ _ _) _) _ _ _)); (fail_if_success (with_reducible show wpAny _ _ (exec (Stmt.For _ _ _ _ _) _) _ _ _)))); ((first | (((with_reducible show wpAny _ _ (exec _ _) _ _ _); (fail_if_success (refine aimed (by assumption) ?_)); refine aim (fun Qo hQo => ?_))) | walk1 | (dsimp only; walk1)))) | (first | (with_reducible refine Aim.use (by assumption) ?_) | (first | ((with_reducible show Frag.In _ _ ∧ _); refine ⟨by k_in, ?_⟩; try dsimp only [List.nil_append, List.cons_append]) | ((with_reducible show KswPost _ _ _ _ _ _ _ _ _ _ _ _ _ _); dsimp only [KswPost])))))
  rename IsRange _ _ _ _ _ _ _ _ => HR
  rename Fr _ _ _ _ => Fa
  rename News _ _ _ _ => Na
  try dsimp only
  try dsimp only at Fa Na HR
  have hrs : Builtin.Range.rangeSize 0 (1 + cnt) 1 = (((1 + cnt).toNat : Nat) : Int) := by
    unfold Builtin.Range.rangeSize
    rw [if_pos (by decide)]
    split
    · rw [Int.ediv_one]; (clear hc1; lia)
    · (clear hc1; omega)
  refine LCg.CompSrc.range rfl Fa Na HR (small_one (by (exact n0 _)) (by (exact n0 _)) (by (clear hc1; lia)) (by (clear hc0; lia))) hrs (by rw [sizeLine_eq]; lia) fun g => compRest_inv
    (fun i ys news => ∃ o' tl ds, news = ((B, o') :: (Cc, lst cells) :: (L' + 1, oB) :: (L' + 1 + 1, ocP) :: tl : Led) ∧ BoxIs Cc o' (1 + 10 * i) ∧ (∀ q ∈ tl, Tup q) ∧ (∀ q ∈ tl, B < q.1 ∧ Cc < q.1 ∧ L' + 1 + 1 < q.1) ∧ DVs tl ds ys ∧ ds.length = i ∧ ∀ d ∈ ds, GoodRow d)
    ⟨o1, [], [], rfl, hb1.mono (by (exact n0 _)), (fun _ h => nomatch h), (fun _ h => nomatch h), .nil, rfl, fun _ h => nomatch h⟩ ?_ ?_
  · intro i ys news v I oI C1 oC D m₂ hp tk hi q13 q14 hC hx1 F6 N6 off ne E'
    refine hold (fun Ph hPh => ?_)
    obtain ⟨o4, tl, ds, rfl, hb4, htl, hlt, hys, hdl, hgd⟩ := q13
    obtain ⟨tv, rfl⟩ := q14
    refine hPh ?_
    clear hPh
    clear Fa Na HR
    (repeat' (first | ((((fail_if_success k_end); (fail_if_success (with_reducible show wpAny _ _ (exec (Stmt.While _ _ _ _) _) _ _ _)); (fail_if_success (with_reducible show wpAny _ _ (exec (Stmt.For _ _ _ _ _) _) _ _ _)))); ((first | (((with_reducible show wpAny _ _ (exec _ _) _ _ _); (fail_if_success (refine aimed (by assumption) ?_)); refine aim (fun Qo hQo => ?_))) | walk1 | (dsimp only; walk1)))) | (first | (with_reducible refine Aim.use (by assumption) ?_) | (first | ((with_reducible show Frag.In _ _ ∧ _); refine ⟨by k_in, ?_⟩; try dsimp only [List.nil_append, List.cons_append]) | ((with_reducible show KswPost _ _ _ _ _ _ _ _ _ _ _ _ _ _); dsimp only [KswPost])))))
    have off3 := LCg.Off3.mem off
    have hB3 := off3 (B, o4) (.head _)
    have hneB4 : ∀ p ∈ ((I, oI) :: (C1, oC) :: (D, LCg.lst ys) :: (L' + 1, oB) :: (L' + 1 + 1, ocP) :: tl : Led), p.1 ≠ B := ne_cons (Ne.symm hB3.1) (ne_cons (Ne.symm hB3.2.1) (ne_cons (Ne.symm hB3.2.2) (ne_cons apB.1 (ne_cons apP.1 (fun p hp => Nat.ne_of_gt (hlt p hp).1)))))
    have N7 : News h₀ L' hp ((B, o4) :: (Cc, lst cells) :: (I, oI) :: (C1, oC) :: (D, LCg.lst ys) :: (L' + 1, oB) :: (L' + 1 + 1, ocP) :: tl) := News.sel N6 [3, 4, 0, 1, 2, 5, 6] 7 rfl
    refine wpAny_call (con_law_row prog w B Cc o4 cells ms hms hml (1 + 10 * i) (by (clear hdl ne; lia)) hb4 (0 + (i : Int)) tv ((I, oI) :: (C1, oC) :: (D, LCg.lst ys) :: (L' + 1, oB) :: (L' + 1 + 1, ocP) :: tl) hCB hneB4 (frs := []) ⟨F6, X, N7, T, trivial, (fun _ h => nomatch h), rfl, rfl, by (exact ltd hd rfl), by (exact ltu hu rfl)⟩ (fun r o5 tl2 d h' tk' F8 N8 hb5 ht2 hl2 hdv hg2 => ?_))
    refine LCg.CompEnd.intro F8 N8 ((B, o5) :: (Cc, lst cells) :: (L' + 1, oB) :: (L' + 1 + 1, ocP) :: (tl2 ++ tl)) (fun p hp => ?_) (LCg.Off3.of fun p hp => ?_) trivial ⟨o5, tl2 ++ tl, ds ++ [d], rfl, hb5.mono (by (simp +arith)), fun q hq => ?_, fun q hq => ?_, (DVs.mono (fun q hq => List.mem_append_right _ hq) hys).snoc (DV.mono (fun q hq => List.mem_append_left _ hq) hdv), by simp [hdl], fun x hx => ?_⟩
    · simp only [List.mem_cons, List.mem_append] at hp ⊢
      rcases hp with rfl | rfl | rfl | rfl | rfl | rfl | rfl | hp | hp <;> simp [*]
    · simp only [List.mem_cons, List.mem_append] at hp
      rcases hp with rfl | rfl | rfl | rfl | hp | hp
      · exact hB3
      · exact off3 _ (.tail _ (.head _))
      · exact off3 _ (.tail _ (.tail _ (.head _)))
      · exact off3 _ (.tail _ (.tail _ (.tail _ (.head _))))
      · have h := (hl2 p hp).2.2
        exact ⟨Nat.ne_of_gt (h _ (.head _)), Nat.ne_of_gt (h _ (.tail _ (.head _))), Nat.ne_of_gt (h _ (.tail _ (.tail _ (.head _))))⟩
      · exact off3 p (.tail _ (.tail _ (.tail _ (.tail _ hp))))
    · rcases List.mem_append.mp hq with hq | hq
      · exact ht2 q hq
      · exact htl q hq
    · rcases List.mem_append.mp hq with hq | hq
      · have h := hl2 q hq
        exact ⟨h.1, h.2.1, h.2.2 _ (.tail _ (.tail _ (.tail _ (.tail _ (.head _)))))⟩
      · exact hlt q hq
    · rcases List.mem_append.mp hx with hx | hx
      · exact hgd x hx
      · rw [List.mem_singleton.mp hx]; exact hg2
  · intro ys news q2
    refine hold (fun Ph hPh => ?_)
    obtain ⟨o4, tl, ds, rfl, hb4, htl, hlt, hys, hdl, hgd⟩ := q2
    refine hPh ?_
    clear hPh
    intro DR hp tk F6 N6 off
    clear Fa Na HR
    dsimp only
    try ((with_reducible refine Aim.use (by assumption) ?_); (try dsimp only))
    refine wpC_execs_cons (wpC_of_any ?_)
    (repeat' (first | ((((fail_if_success k_end); (fail_if_success (with_reducible show wpAny _ _ (exec (Stmt.While _ _ _ _) _) _ _ _)); (fail_if_success (with_reducible show wpAny _ _ (exec (Stmt.For _ _ _ _ _) _) _ _ _)))); ((first | (((with_reducible show wpAny _ _ (exec _ _) _ _ _); (fail_if_success (refine aimed (by assumption) ?_)); refine aim (fun Qo hQo => ?_))) | walk1 | (dsimp only; walk1)))) | (first | (with_reducible refine Aim.use (by assumption) ?_) | (first | ((with_reducible show Frag.In _ _ ∧ _); refine ⟨by k_in, ?_⟩; try dsimp only [List.nil_append, List.cons_append]) | ((with_reducible show KswPost _ _ _ _ _ _ _ _ _ _ _ _ _ _); dsimp only [KswPost])))))
    dsimp only
    try ((with_reducible refine Aim.use (by assumption) ?_); (try dsimp only))
    refine wpC_execs_cons (wpC_of_any ?_)
    (repeat' (first | ((((fail_if_success k_end); (fail_if_success (with_reducible show wpAny _ _ (exec (Stmt.While _ _ _ _) _) _ _ _)); (fail_if_success (with_reducible show wpAny _ _ (exec (Stmt.For _ _ _ _ _) _) _ _ _)))); ((first | (((with_reducible show wpAny _ _ (exec _ _) _ _ _); (fail_if_success (refine aimed (by assumption) ?_)); refine aim (fun Qo hQo => ?_))) | walk1 | (dsimp only; walk1)))) | (first | (with_reducible refine Aim.use (by assumption) ?_) | (first | ((with_reducible show Frag.In _ _ ∧ _); refine ⟨by k_in, ?_⟩; try dsimp only [List.nil_append, List.cons_append]) | ((with_reducible show KswPost _ _ _ _ _ _ _ _ _ _ _ _ _ _); dsimp only [KswPost])))))
    dsimp only
    rename Fr _ _ _ _ => F7
    rename News _ _ _ _ => N7
    rename _ < _ ∧ _ < _ ∧ _ < _ ∧ _ < _ ∧ _ < _ ∧ AllLt _ tl => hz
    rename_i DE _ _
    have hz : DR < DE ∧ B < DE ∧ Cc < DE ∧ L' + 1 < DE ∧ L' + 1 + 1 < DE ∧ AllLt DE tl := hz
    have offD := off1_mem off
    try ((with_reducible refine Aim.use (by assumption) ?_); (try dsimp only))
    refine wpC_execs_cons (wpC_For ?_)
    (repeat' (first | ((((fail_if_success k_end); (fail_if_success (with_reducible show wpAny _ _ (exec (Stmt.While _ _ _ _) _) _ _ _)); (fail_if_success (with_reducible show wpAny _ _ (exec (Stmt.For _ _ _ _ _) _) _ _ _)))); ((first | (((with_reducible show wpAny _ _ (exec _ _) _ _ _); (fail_if_success (refine aimed (by assumption) ?_)); refine aim (fun Qo hQo => ?_))) | walk1 | (dsimp only; walk1)))) | (first | (with_reducible refine Aim.use (by assumption) ?_) | (first | ((with_reducible show Frag.In _ _ ∧ _); refine ⟨by k_in, ?_⟩; try dsimp only [List.nil_append, List.cons_append]) | ((with_reducible show KswPost _ _ _ _ _ _ _ _ _ _ _ _ _ _); dsimp only [KswPost])))))
    rename Fr _ _ _ _ => F5
    rename News _ _ _ _ => N5
    have hlD : Heap.IsList _ DR ys.toArray := ⟨_, (N5 _ (.tail _ (.head _))).1, rfl, _, rfl⟩
    refine wpAny_pyIter_list hlD ?_
    have F8 := F5.push { cls := .type "list_iterator", data := .fields #[.ref DR, .int 0 0] }
    have N8 := News.ext N5 (h' := _) fun b' ob e => Heap.get?_push_of_some { cls := .type "list_iterator", data := .fields #[.ref DR, .int 0 0] } e
    have lt3 : ∀ p ∈ (_ : Led), p.1 < _ := fun p hp => Heap.lt_size (N5 p hp).1
    have hI0 : h₀.get? _ = none := next_is_new F5
    have hLI := F5.ns.lt
    have hDL : DR ≠ L' := (N5 _ (.tail _ (.head _))).2.1
    have hDI := lt3 _ (.tail _ (.head _))
    have hysl := hys.len
    have hdI := lt3 _ (.head _)
    refine codeC_for (σ := Nat × List Value × Nat × Tok) (Walks.list rfl _ DR (Nat.ne_of_lt hDI) ys.toArray)
      (fun i c => c.1 = i ∧ IntsAre c.2.1 (0 :: ends (ds.take i)))
      (fun c => (DE, bxo c.2.2.1 c.2.1) :: (DR, LCg.lst ys) :: (B, o4) :: (Cc, lst cells) :: (L' + 1, oB) :: (L' + 1 + 1, ocP) :: tl)
      (fun c => [("rows", .ref DR), ("ends", .ref DE), ("data", .bytes (byteArr (frs (ds.take c.1))) c.2.2.2)]) ["row", "frame"] ((0, _, _, _) : Nat × List Value × Nat × Tok)
      rfl rfl rfl (fun q => ?_) (fun b hb => by rw [List.mem_singleton.mp hb]; exact hI0) (fun i c hJ p hp q => ?_)
      ⟨⟨_, Heap.get?_push_size _ rfl, rfl, rfl⟩, hlD.push _⟩ F8 N8 (by (((repeat' (first | exact List.forall_mem_nil _ | refine List.forall_mem_cons.mpr ⟨rfl, ?_⟩))))) ⟨rfl, .cons 0 _ .nil⟩ ?_ ?_
    · rcases List.mem_cons.mp q with q | q
      · exact Nat.ne_of_lt hLI q
      · exact hDL (List.mem_singleton.mp q).symm
    · rcases List.mem_cons.mp hp with rfl | hp
      · exact Nat.ne_of_lt hdI (List.mem_singleton.mp q)
      · exact Nat.ne_of_lt (lt3 p (.tail _ hp)) (List.mem_singleton.mp q)
    · intro i
      refine all4 (fun i' zs nE td => ?_)
      intro v u h tk own hlt hv q9 hown F9 N9
      have hi' := q9.1
      have hzs := q9.2
      clear q9
      dsimp only at hi' hzs F9 N9 ⊢
      subst hi'
      obtain ⟨d, hdi, hdv⟩ := hys.at (i := i') (v := v) (by simpa using hv)
      have hmem : d ∈ ds := List.mem_of_getElem? hdi
      have hg := hgd d hmem
      clear F5 N5 F8 N8
      try ((with_reducible refine Aim.use (by assumption) ?_); (try dsimp only))
      refine wpC_execs_cons (wpC_Assign ?_)
      ((refine wpC_Call ?_; (repeat' (first | ((((fail_if_success k_end); (fail_if_success (with_reducible show wpAny _ _ (exec (Stmt.While _ _ _ _) _) _ _ _)); (fail_if_success (with_reducible show wpAny _ _ (exec (Stmt.For _ _ _ _ _) _) _ _ _)))); ((first | (((with_reducible show wpAny _ _ (exec _ _) _ _ _); (fail_if_success (refine aimed (by assumption) ?_)); refine aim (fun Qo hQo => ?_))) | walk1 | (dsimp only; walk1)))) | (first | (with_reducible refine Aim.use (by assumption) ?_) | (first | ((with_reducible show Frag.In _ _ ∧ _); refine ⟨by k_in, ?_⟩; try dsimp only [List.nil_append, List.cons_append]) | ((with_reducible show KswPost _ _ _ _ _ _ _ _ _ _ _ _ _ _); dsimp only [KswPost]))))); ((k_dflt (refine' wpC_callWith_K ?kX ?kI ?_; (case kX => assumption); (case kI => k_is); k_whole))); refine wpC_of_any ?_; (repeat' (first | ((((fail_if_success k_end); (fail_if_success (with_reducible show wpAny _ _ (exec (Stmt.While _ _ _ _) _) _ _ _)); (fail_if_success (with_reducible show wpAny _ _ (exec (Stmt.For _ _ _ _ _) _) _ _ _)))); ((first | (((with_reducible show wpAny _ _ (exec _ _) _ _ _); (fail_if_success (refine aimed (by assumption) ?_)); refine aim (fun Qo hQo => ?_))) | walk1 | (dsimp only; walk1)))) | (first | (with_reducible refine Aim.use (by assumption) ?_) | (first | ((with_reducible show Frag.In _ _ ∧ _); refine ⟨by k_in, ?_⟩; try dsimp only [List.nil_append, List.cons_append]) | ((with_reducible show KswPost _ _ _ _ _ _ _ _ _ _ _ _ _ _); dsimp only [KswPost])))))))
      replace F9 : Fr h₀ L' h _ := F9
      replace N9 : News h₀ L' h (own ++ ((DE, bxo nE zs) :: (DR, LCg.lst ys) :: (B, o4) :: (Cc, lst cells) :: (L' + 1, oB) :: (L' + 1 + 1, ocP) :: tl)) := N9
      have hdv1 : DV (own ++ ((DE, bxo nE zs) :: (DR, LCg.lst ys) :: (B, o4) :: (Cc, lst cells) :: (L' + 1, oB) :: (L' + 1 + 1, ocP) :: tl)) d v := DV.mono (fun q hq => List.mem_append_right _ (.tail _ (.tail _ (.tail _ (.tail _ (.tail _ (.tail _ hq))))))) hdv
      have hgl : (vo d).length ≤ 9000 := Nat.le_trans hg.2.2.2 (by decide)
      have hgn : nd d ≤ 12 := hg.2.2.1
      have hfl : (fr d).length ≤ 500 := by
        have h1 := co_len (vo d).length
        have h2 := hg.2.2.2
        rw [fr_len]; (clear hgl; lia)
      have hfin : ∀ k ∈ fr d, 0 ≤ k ∧ k < 256 := fun k hk => frs_in (ds := [d]) (fun x hx => by rw [List.mem_singleton.mp hx]; exact hg) k (by unfold frs; simpa using hk)
      have hfks := bInts_byteArr hfin
      refine ConS.useV (con_law_frame prog w d v _ hdv1 hg.1 hg.2.1 hgl (by (exact leb hgn rfl))) F9 N9 X T trivial (frs := []) (fun _ h => nomatch h) rfl rfl (by lia) (by lia) (fun t1 h' tk' F10 N10 => ?_)
      clear F9 N9
      try dsimp only [List.nil_append] at F10 N10 ⊢
      (repeat' (first | ((((fail_if_success k_end); (fail_if_success (with_reducible show wpAny _ _ (exec (Stmt.While _ _ _ _) _) _ _ _)); (fail_if_success (with_reducible show wpAny _ _ (exec (Stmt.For _ _ _ _ _) _) _ _ _)))); ((first | (((with_reducible show wpAny _ _ (exec _ _) _ _ _); (fail_if_success (refine aimed (by assumption) ?_)); refine aim (fun Qo hQo => ?_))) | walk1 | (dsimp only; walk1)))) | (first | (with_reducible refine Aim.use (by assumption) ?_) | (first | ((with_reducible show Frag.In _ _ ∧ _); refine ⟨by k_in, ?_⟩; try dsimp only [List.nil_append, List.cons_append]) | ((with_reducible show KswPost _ _ _ _ _ _ _ _ _ _ _ _ _ _); dsimp only [KswPost])))))
      dsimp only
      rename Fr _ _ _ _ => F11
      rename News _ _ _ _ => N11
      try clear F10
      try clear N10
      try ((with_reducible refine Aim.use (by assumption) ?_); (try dsimp only))
      refine wpC_execs_cons (wpC_If (wpC_isTrue_or (wpC_isTrue_Compare ?_)))
      ((refine wpC_Call ?_; (repeat' (first | ((((fail_if_success k_end); (fail_if_success (with_reducible show wpAny _ _ (exec (Stmt.While _ _ _ _) _) _ _ _)); (fail_if_success (with_reducible show wpAny _ _ (exec (Stmt.For _ _ _ _ _) _) _ _ _)))); ((first | (((with_reducible show wpAny _ _ (exec _ _) _ _ _); (fail_if_success (refine aimed (by assumption) ?_)); refine aim (fun Qo hQo => ?_))) | walk1 | (dsimp only; walk1)))) | (first | (with_reducible refine Aim.use (by assumption) ?_) | (first | ((with_reducible show Frag.In _ _ ∧ _); refine ⟨by k_in, ?_⟩; try dsimp only [List.nil_append, List.cons_append]) | ((with_reducible show KswPost _ _ _ _ _ _ _ _ _ _ _ _ _ _); dsimp only [KswPost]))))); ((k_dflt (refine' wpC_callWith_K ?kX ?kI ?_; (case kX => assumption); (case kI => k_is); k_whole))); refine wpC_of_any ?_; (repeat' (first | ((((fail_if_success k_end); (fail_if_success (with_reducible show wpAny _ _ (exec (Stmt.While _ _ _ _) _) _ _ _)); (fail_if_success (with_reducible show wpAny _ _ (exec (Stmt.For _ _ _ _ _) _) _ _ _)))); ((first | (((with_reducible show wpAny _ _ (exec _ _) _ _ _); (fail_if_success (refine aimed (by assumption) ?_)); refine aim (fun Qo hQo => ?_))) | walk1 | (dsimp only; walk1)))) | (first | (with_reducible refine Aim.use (by assumption) ?_) | (first | ((with_reducible show Frag.In _ _ ∧ _); refine ⟨by k_in, ?_⟩; try dsimp only [List.nil_append, List.cons_append]) | ((with_reducible show KswPost _ _ _ _ _ _ _ _ _ _ _ _ _ _); dsimp only [KswPost])))))))
      refine ConS.useV (con_framed prog w d v _ hdv1 hg.1 hg.2.1 hgl (by (exact leb hgn rfl))) F11 N11 X T trivial (frs := []) (fun _ h => nomatch h) rfl rfl (by lia) (by lia) (fun t2 h' tk' F10 N10 => ?_)
      clear F11 N11
      try dsimp only [List.nil_append] at F10 N10 ⊢
      refine wpC_of_any ?_
      (repeat' (first | ((((fail_if_success k_end); (fail_if_success (with_reducible show wpAny _ _ (exec (Stmt.While _ _ _ _) _) _ _ _)); (fail_if_success (with_reducible show wpAny _ _ (exec (Stmt.For _ _ _ _ _) _) _ _ _)))); ((first | (((with_reducible show wpAny _ _ (exec _ _) _ _ _); (fail_if_success (refine aimed (by assumption) ?_)); refine aim (fun Qo hQo => ?_))) | walk1 | (dsimp only; walk1)))) | (first | (with_reducible refine Aim.use (by assumption) ?_) | (first | ((with_reducible show Frag.In _ _ ∧ _); refine ⟨by k_in, ?_⟩; try dsimp only [List.nil_append, List.cons_append]) | ((with_reducible show KswPost _ _ _ _ _ _ _ _ _ _ _ _ _ _); dsimp only [KswPost])))))
      refine wpC_of_any (ne_bytes ?_)
      rw [show ((byteArr (fr d)).toList != (byteArr (fr d)).toList) = false by simp]
      (repeat' (first | ((((fail_if_success k_end); (fail_if_success (with_reducible show wpAny _ _ (exec (Stmt.While _ _ _ _) _) _ _ _)); (fail_if_success (with_reducible show wpAny _ _ (exec (Stmt.For _ _ _ _ _) _) _ _ _)))); ((first | (((with_reducible show wpAny _ _ (exec _ _) _ _ _); (fail_if_success (refine aimed (by assumption) ?_)); refine aim (fun Qo hQo => ?_))) | walk1 | (dsimp only; walk1)))) | (first | (with_reducible refine Aim.use (by assumption) ?_) | (first | ((with_reducible show Frag.In _ _ ∧ _); refine ⟨by k_in, ?_⟩; try dsimp only [List.nil_append, List.cons_append]) | ((with_reducible show KswPost _ _ _ _ _ _ _ _ _ _ _ _ _ _); dsimp only [KswPost])))))
      try simp only [Bool.false_eq_true, if_false]
      refine wpC_of_any ?_
      (repeat' (first | ((((fail_if_success k_end); (fail_if_success (with_reducible show wpAny _ _ (exec (Stmt.While _ _ _ _) _) _ _ _)); (fail_if_success (with_reducible show wpAny _ _ (exec (Stmt.For _ _ _ _ _) _) _ _ _)))); ((first | (((with_reducible show wpAny _ _ (exec _ _) _ _ _); (fail_if_success (refine aimed (by assumption) ?_)); refine aim (fun Qo hQo => ?_))) | walk1 | (dsimp only; walk1)))) | (first | (with_reducible refine Aim.use (by assumption) ?_) | (first | ((with_reducible show Frag.In _ _ ∧ _); refine ⟨by k_in, ?_⟩; try dsimp only [List.nil_append, List.cons_append]) | ((with_reducible show KswPost _ _ _ _ _ _ _ _ _ _ _ _ _ _); dsimp only [KswPost])))))
      refine Con.useV (con_adler prog w _ _ (fr d) hfks _) F10 N10 X T trivial (frs := []) (fun _ h => nomatch h) rfl rfl (by (exact ltd hd rfl)) (by (exact ltu hu rfl)) (fun t3 h' tk' F11 N11 => ?_)
      clear F10 N10
      try dsimp only [List.nil_append] at F11 N11 ⊢
      (repeat' (first | ((((fail_if_success k_end); (fail_if_success (with_reducible show wpAny _ _ (exec (Stmt.While _ _ _ _) _) _ _ _)); (fail_if_success (with_reducible show wpAny _ _ (exec (Stmt.For _ _ _ _ _) _) _ _ _)))); ((first | (((with_reducible show wpAny _ _ (exec _ _) _ _ _); (fail_if_success (refine aimed (by assumption) ?_)); refine aim (fun Qo hQo => ?_))) | walk1 | (dsimp only; walk1)))) | (first | (with_reducible refine Aim.use (by assumption) ?_) | (first | ((with_reducible show Frag.In _ _ ∧ _); refine ⟨by k_in, ?_⟩; try dsimp only [List.nil_append, List.cons_append]) | ((with_reducible show KswPost _ _ _ _ _ _ _ _ _ _ _ _ _ _); dsimp only [KswPost])))))
      refine Con.useV (con_law_adler prog w _ _ (fr d) hfks (by (exact leb hfl rfl)) _) F11 N11 X T trivial (frs := []) (fun _ h => nomatch h) rfl rfl (by (exact ltd hd rfl)) (by (exact ltu hu rfl)) (fun t4 h' tk' F12 N12 => ?_)
      clear F11 N11
      try dsimp only [List.nil_append] at F12 N12 ⊢
      (repeat' (first | ((((fail_if_success k_end); (fail_if_success (with_reducible show wpAny _ _ (exec (Stmt.While _ _ _ _) _) _ _ _)); (fail_if_success (with_reducible show wpAny _ _ (exec (Stmt.For _ _ _ _ _) _) _ _ _)))); ((first | (((with_reducible show wpAny _ _ (exec _ _) _ _ _); (fail_if_success (refine aimed (by assumption) ?_)); refine aim (fun Qo hQo => ?_))) | walk1 | (dsimp only; walk1)))) | (first | (with_reducible refine Aim.use (by assumption) ?_) | (first | ((with_reducible show Frag.In _ _ ∧ _); refine ⟨by k_in, ?_⟩; try dsimp only [List.nil_append, List.cons_append]) | ((with_reducible show KswPost _ _ _ _ _ _ _ _ _ _ _ _ _ _); dsimp only [KswPost])))))
      · exact absurd rfl (by assumption)
      try ((with_reducible refine Aim.use (by assumption) ?_); (try dsimp only))
      refine wpC_execs_nil ?_
      dsimp only
      have hown2 : ∀ p ∈ own ++ ((DR, LCg.lst ys) :: (B, o4) :: (Cc, lst cells) :: (L' + 1, oB) :: (L' + 1 + 1, ocP) :: tl), p.1 ≠ DE := fun p hp => by
        rcases List.mem_append.mp hp with hp | hp
        · rcases List.mem_cons.mp (hown p hp) with e | e
          · rw [e]; exact Nat.ne_of_gt hdI
          · rw [List.mem_singleton.mp e]; exact Nat.ne_of_lt hz.1
        · exact (ne_cons (Nat.ne_of_lt hz.1) (ne_cons (Nat.ne_of_lt hz.2.1) (ne_cons (Nat.ne_of_lt hz.2.2.1) (ne_cons (Nat.ne_of_lt hz.2.2.2.1) (ne_cons (Nat.ne_of_lt hz.2.2.2.2.1) (fun p hp => Nat.ne_of_lt (kst_ltOf hz.2.2.2.2.2 p hp))))))) p hp
      have N13 : News h₀ L' h' ((DE, bxo nE zs) :: (own ++ ((DR, LCg.lst ys) :: (B, o4) :: (Cc, lst cells) :: (L' + 1, oB) :: (L' + 1 + 1, ocP) :: tl))) := fun p hp => N12 p (by
        rcases List.mem_cons.mp hp with rfl | hp
        · exact List.mem_append_right _ (.head _)
        · rcases List.mem_append.mp hp with hp | hp
          · exact List.mem_append_left _ hp
          · exact List.mem_append_right _ (.tail _ hp))
      clear N12
      have htk : frs (ds.take (i' + 1)) = frs (ds.take i') ++ fr d := by
        rw [List.take_add_one, hdi, frs_app]
        congr 1
        simp [frs]
      have hsh := frs_short (ds := ds.take (i' + 1)) (fun x hx => hgd x (List.mem_of_mem_take hx))
      have hin2 := frs_in (ds := ds.take (i' + 1)) (fun x hx => hgd x (List.mem_of_mem_take hx))
      have hks2 := bInts_byteArr hin2
      have hsl : (ds.take (i' + 1)).length ≤ 4 := by rw [List.length_take]; (clear hysl; lia)
      have hbl : (frs (ds.take i')).length + (fr d).length ≤ 2000 := by
        rw [htk, List.length_append] at hsh
        lia
      try ((with_reducible refine Aim.use (by assumption) ?_); (try dsimp only))
      refine wpC_execs_cons (wpC_of_any ?_)
      (repeat' (first | ((((fail_if_success k_end); (fail_if_success (with_reducible show wpAny _ _ (exec (Stmt.While _ _ _ _) _) _ _ _)); (fail_if_success (with_reducible show wpAny _ _ (exec (Stmt.For _ _ _ _ _) _) _ _ _)))); (fail_if_success (with_reducible show wpAny _ _ (binaryOp Operator.Add (Value.bytes _ _) (Value.bytes _ _)) _ _ _)); ((first | (((with_reducible show wpAny _ _ (exec _ _) _ _ _); (fail_if_success (refine aimed (by assumption) ?_)); refine aim (fun Qo hQo => ?_))) | walk1 | (dsimp only; walk1)))) | (first | (with_reducible refine Aim.use (by assumption) ?_) | (first | ((with_reducible show Frag.In _ _ ∧ _); refine ⟨by k_in, ?_⟩; try dsimp only [List.nil_append, List.cons_append]) | ((with_reducible show KswPost _ _ _ _ _ _ _ _ _ _ _ _ _ _); dsimp only [KswPost])))))
      refine KBy.add_bytes (by rw [byteArr_size, byteArr_size]; (exact leb hbl rfl)) fun t5 k5 => ?_
      rw [← byteArr_append, ← htk]
      (repeat' (first | ((((fail_if_success k_end); (fail_if_success (with_reducible show wpAny _ _ (exec (Stmt.While _ _ _ _) _) _ _ _)); (fail_if_success (with_reducible show wpAny _ _ (exec (Stmt.For _ _ _ _ _) _) _ _ _)))); ((first | (((with_reducible show wpAny _ _ (exec _ _) _ _ _); (fail_if_success (refine aimed (by assumption) ?_)); refine aim (fun Qo hQo => ?_))) | walk1 | (dsimp only; walk1)))) | (first | (with_reducible refine Aim.use (by assumption) ?_) | (first | ((with_reducible show Frag.In _ _ ∧ _); refine ⟨by k_in, ?_⟩; try dsimp only [List.nil_append, List.cons_append]) | ((with_reducible show KswPost _ _ _ _ _ _ _ _ _ _ _ _ _ _); dsimp only [KswPost])))))
      dsimp only
      try ((with_reducible refine Aim.use (by assumption) ?_); (try dsimp only))
      refine wpC_execs_cons (wpC_of_any ?_)
      (repeat' (first | ((((fail_if_success k_end); (fail_if_success (with_reducible show wpAny _ _ (exec (Stmt.While _ _ _ _) _) _ _ _)); (fail_if_success (with_reducible show wpAny _ _ (exec (Stmt.For _ _ _ _ _) _) _ _ _)))); ((first | (((with_reducible show wpAny _ _ (exec _ _) _ _ _); (fail_if_success (refine aimed (by assumption) ?_)); refine aim (fun Qo hQo => ?_))) | walk1 | (dsimp only; walk1)))) | (first | (with_reducible refine Aim.use (by assumption) ?_) | (first | ((with_reducible show Frag.In _ _ ∧ _); refine ⟨by k_in, ?_⟩; try dsimp only [List.nil_append, List.cons_append]) | ((with_reducible show KswPost _ _ _ _ _ _ _ _ _ _ _ _ _ _); dsimp only [KswPost])))))
      rename Fr _ _ _ _ => F14
      rename News _ _ _ _ => N14
      have hzl := hzs.length
      rw [List.length_cons, ends_len, List.length_take] at hzl
      refine append_head (rest := own ++ ((DR, LCg.lst ys) :: (B, o4) :: (Cc, lst cells) :: (L' + 1, oB) :: (L' + 1 + 1, ocP) :: tl)) F14 (fun p hp => N14 p hp) hown2 (fun h9 F15 N15 => ?_) (by rw [List.size_toArray, sizeLine_eq]; (clear hysl; lia))
      dsimp only at F15 N15 ⊢
      rw [List.push_toArray] at N15
      obtain ⟨tz, N16⟩ : ∃ tz, News h₀ L' h9 ((DE, bxo (nE + 1) (zs ++ [.int ((frs (ds.take (i' + 1))).length : Int) tz])) :: (own ++ ((DR, LCg.lst ys) :: (B, o4) :: (Cc, lst cells) :: (L' + 1, oB) :: (L' + 1 + 1, ocP) :: tl))) := ⟨_, N15⟩
      have htk2 : ds.take (i' + 1) = ds.take i' ++ [d] := by rw [List.take_add_one, hdi]; rfl
      try ((with_reducible refine Aim.use (by assumption) ?_); (try dsimp only))
      refine wpC_execs_nil ⟨rfl, for_end (i' + 1, zs ++ [.int ((frs (ds.take (i' + 1))).length : Int) tz], nE + 1, _) F15 N16 (fun p hp => .tail _ (List.mem_append_left _ hp)) (fun p hp => ?_) (by (((repeat' (first | exact List.forall_mem_nil _ | refine List.forall_mem_cons.mpr ⟨rfl, ?_⟩))))) (by ((intro z h2 h3; simp only [List.forall_mem_cons, List.not_mem_nil, false_implies, implies_true, and_true, ne_eq] at h2; simp only [List.contains_cons, List.contains_nil, Bool.or_false, Bool.or_eq_false_iff, beq_eq_false_iff_ne, ne_eq] at h3; simp [h2, h3, kstB]))) ⟨rfl, ?_⟩⟩
      · rcases List.mem_cons.mp hp with rfl | hp
        · exact .head _
        · exact .tail _ (List.mem_append_right _ hp)
      · dsimp only
        rw [htk2, ends_snoc, ← List.cons_append]
        exact IntsAre.snoc hzs _ _
    · refine all4 (fun i' zs nE td => ?_)
      intro u h tk q4 F9 N9
      have hi' := q4.1
      have hzs := q4.2
      clear q4
      dsimp only at hi' hzs F9 N9 ⊢
      clear F5 N5 F8 N8
      replace F9 : Fr h₀ L' h _ := F9
      replace N9 : News h₀ L' h ((DE, bxo nE zs) :: (DR, LCg.lst ys) :: (B, o4) :: (Cc, lst cells) :: (L' + 1, oB) :: (L' + 1 + 1, ocP) :: tl) := N9
      have hil : i' = ds.length := by rw [hi', List.size_toArray, hysl]
      rw [List.size_toArray, hysl, List.take_length] at hzs
      rw [hil, List.take_length] at F9
      clear hil hi'
      have hsh := frs_short hgd
      have hin := frs_in hgd
      have hks := bInts_byteArr hin
      have hal : al (frs ds) = pairs ds 0 := al_whole hgd
      have hlast : lastEnd (al (frs ds)) = (frs ds).length := by rw [hal, lastEnd_pairs0]
      have hdl4 : ds.length ≤ 4 := by (clear hysl; lia)
      have hdl1 : 1 ≤ ds.length := by (clear hc1 hysl hdl4; lia)
      have hnd12 : nds ds ≤ 20 := by
        have : ∀ es : List Dat, (∀ d ∈ es, GoodRow d) → nds es ≤ 20 := fun es => by
          induction es with
          | nil => intro _; rw [nds]; decide
          | cons e es ih =>
            intro h
            have h1 := (h e (.head _)).2.2.1
            have h2 := ih fun x hx => h x (.tail _ hx)
            rw [nds]; lia
        exact this ds hgd
      have hndA : ∀ (oo : Obj), TI.notDict (B, oo) = true → ∀ (oe : Obj), TI.notDict (DE, oe) = true → ∀ q ∈ ((DE, oe) :: (DR, LCg.lst ys) :: (B, oo) :: (Cc, lst cells) :: (L' + 1, oB) :: (L' + 1 + 1, ocP) :: tl : Led), TI.notDict q = true := fun oo hoo oe hoe => nd_cons hoe (nd_cons rfl (nd_cons hoo (nd_cons rfl (nd_cons hndB (nd_cons hndP (fun q hq => (htl q hq).2))))))
      have hnb4 : TI.notDict (B, o4) = true := by
        refine hold (fun Ph hPh => ?_)
        obtain ⟨n0, g0, st0, pl0, a1, a2, a3, -, -, -, -, -, ho0⟩ := hb4
        refine hPh ?_
        clear hPh
        rw [ho0]; rfl
      have hel : (ends ds).length = ds.length := ends_len ds
      have hel4 : (0 :: ends ds).length ≤ 5 := by rw [List.length_cons, hel]; (exact Nat.succ_le_succ hdl4)
      have hzl5 : zs.length ≤ 5 := by rw [hzs.length]; exact hel4
      have hpos : 0 < (frs ds).length := by
        cases ds with
        | nil => simp at hdl1
        | cons d es => rw [frs_cons, List.length_append]; have := fr_pos d; lia
      --AFTER
      refine wpC_of_any ?_
      (repeat' (first | ((((fail_if_success k_end); (fail_if_success (with_reducible show wpAny _ _ (exec (Stmt.While _ _ _ _) _) _ _ _)); (fail_if_success (with_reducible show wpAny _ _ (exec (Stmt.For _ _ _ _ _) _) _ _ _)))); ((first | (((with_reducible show wpAny _ _ (exec _ _) _ _ _); (fail_if_success (refine aimed (by assumption) ?_)); refine aim (fun Qo hQo => ?_))) | walk1 | (dsimp only; walk1)))) | (first | (with_reducible refine Aim.use (by assumption) ?_) | (first | ((with_reducible show Frag.In _ _ ∧ _); refine ⟨by k_in, ?_⟩; try dsimp only [List.nil_append, List.cons_append]) | ((with_reducible show KswPost _ _ _ _ _ _ _ _ _ _ _ _ _ _); dsimp only [KswPost])))))
      refine rows0 hks (by (clear hysl hlast hdl1 hel; lia)) hlast (by rw [hal, pairs_fst]) F9 N9 X T (hndA o4 hnb4 _ rfl) rfl rfl (by (exact ltd hd rfl)) (by (exact ltu hu rfl)) (fun D2 l2 t2 vs2 tla2 h' tk' F10 N10 hvs2 => ?_)
      clear F9 N9
      try dsimp only at F10 N10 ⊢
      (repeat' (first | ((((fail_if_success k_end); (fail_if_success (with_reducible show wpAny _ _ (exec (Stmt.While _ _ _ _) _) _ _ _)); (fail_if_success (with_reducible show wpAny _ _ (exec (Stmt.For _ _ _ _ _) _) _ _ _)))); (fail_if_success (with_reducible show wpAny _ _ (compareOp _ (Value.ref _) (Value.ref _)) _ _ _)); ((first | (((with_reducible show wpAny _ _ (exec _ _) _ _ _); (fail_if_success (refine aimed (by assumption) ?_)); refine aim (fun Qo hQo => ?_))) | walk1 | (dsimp only; walk1)))) | (first | (with_reducible refine Aim.use (by assumption) ?_) | (first | ((with_reducible show Frag.In _ _ ∧ _); refine ⟨by k_in, ?_⟩; try dsimp only [List.nil_append, List.cons_append]) | ((with_reducible show KswPost _ _ _ _ _ _ _ _ _ _ _ _ _ _); dsimp only [KswPost])))))
      rename Fr _ _ _ _ => F11
      rename News _ _ _ _ => N11
      refine ne_pairs_walk (led := _) (fun q hq => (N11 q hq).1) (ha := .tail _ (.head _)) (hb := .head _) (h1 := .tail _ (.tail _ (.head _))) (h2 := .tail _ (.tail _ (.tail _ (List.mem_append_right _ (.tail _ (.head _)))))) (x1 := DVs.inL 3 hvs2 rfl) (x2 := DVs.mono (fun q hq => .tail _ (.tail _ (.tail _ (List.mem_append_right _ (.tail _ (.tail _ (.tail _ (.tail _ (.tail _ (.tail _ hq)))))))))) hys) (by show un + 3 + 2 + nds ds < 9900; lia) ?_
      (repeat' (first | ((((fail_if_success k_end); (fail_if_success (with_reducible show wpAny _ _ (exec (Stmt.While _ _ _ _) _) _ _ _)); (fail_if_success (with_reducible show wpAny _ _ (exec (Stmt.For _ _ _ _ _) _) _ _ _)))); ((first | (((with_reducible show wpAny _ _ (exec _ _) _ _ _); (fail_if_success (refine aimed (by assumption) ?_)); refine aim (fun Qo hQo => ?_))) | walk1 | (dsimp only; walk1)))) | (first | (with_reducible refine Aim.use (by assumption) ?_) | (first | ((with_reducible show Frag.In _ _ ∧ _); refine ⟨by k_in, ?_⟩; try dsimp only [List.nil_append, List.cons_append]) | ((with_reducible show KswPost _ _ _ _ _ _ _ _ _ _ _ _ _ _); dsimp only [KswPost])))))
      have N12 : News h₀ L' _ ((DE, bxo nE zs) :: (DR, LCg.lst ys) :: (B, o4) :: (Cc, lst cells) :: (L' + 1, oB) :: (L' + 1 + 1, ocP) :: tl) := fun p hp => N11 p (.tail _ (.tail _ (.tail _ (List.mem_append_right _ hp))))
      clear N11
      clear hvs2
      refine ends0 hks (by (clear hysl hlast hdl1 hel; lia)) (congrArg _ hal) F11 N12 X T (hndA o4 hnb4 _ rfl) rfl rfl (by (exact ltd hd rfl)) (by (exact ltu hu rfl)) (fun D3 vs3 h' tk' F10 N11 hvs3 => ?_)
      clear F11 N12
      try dsimp only at F10 N11 ⊢
      (repeat' (first | ((((fail_if_success k_end); (fail_if_success (with_reducible show wpAny _ _ (exec (Stmt.While _ _ _ _) _) _ _ _)); (fail_if_success (with_reducible show wpAny _ _ (exec (Stmt.For _ _ _ _ _) _) _ _ _)))); (fail_if_success (with_reducible show wpAny _ _ (compareOp _ (Value.ref _) (Value.ref _)) _ _ _)); ((first | (((with_reducible show wpAny _ _ (exec _ _) _ _ _); (fail_if_success (refine aimed (by assumption) ?_)); refine aim (fun Qo hQo => ?_))) | walk1 | (dsimp only; walk1)))) | (first | (with_reducible refine Aim.use (by assumption) ?_) | (first | ((with_reducible show Frag.In _ _ ∧ _); refine ⟨by k_in, ?_⟩; try dsimp only [List.nil_append, List.cons_append]) | ((with_reducible show KswPost _ _ _ _ _ _ _ _ _ _ _ _ _ _); dsimp only [KswPost])))))
      rename IntsAre _ (List.drop 1 _) => hws
      rename Fr _ _ _ _ => F11
      rename News _ _ _ _ => N12
      refine ke_ne_ints ⟨_, (N12 _ (.tail _ (.head _))).1, rfl, _, rfl⟩ ⟨_, (N12 _ (.head _)).1, rfl, _, rfl⟩ hvs3 hws (by show un + 3 + 64 < 9900; lia) ?_
      rw [decide_eq_true (show (pairs ds 0).map (fun p => (p.2 : Int)) = List.drop 1 (0 :: ends ds) from rfl)]
      (repeat' (first | ((((fail_if_success k_end); (fail_if_success (with_reducible show wpAny _ _ (exec (Stmt.While _ _ _ _) _) _ _ _)); (fail_if_success (with_reducible show wpAny _ _ (exec (Stmt.For _ _ _ _ _) _) _ _ _)))); ((first | (((with_reducible show wpAny _ _ (exec _ _) _ _ _); (fail_if_success (refine aimed (by assumption) ?_)); refine aim (fun Qo hQo => ?_))) | walk1 | (dsimp only; walk1)))) | (first | (with_reducible refine Aim.use (by assumption) ?_) | (first | ((with_reducible show Frag.In _ _ ∧ _); refine ⟨by k_in, ?_⟩; try dsimp only [List.nil_append, List.cons_append]) | ((with_reducible show KswPost _ _ _ _ _ _ _ _ _ _ _ _ _ _); dsimp only [KswPost])))))
      have N13 : News h₀ L' _ ((B, o4) :: (Cc, lst cells) :: (DE, bxo nE zs) :: (DR, LCg.lst ys) :: (L' + 1, oB) :: (L' + 1 + 1, ocP) :: tl) := News.sel N12 [4, 5, 2, 3, 6, 7] 8 rfl
      have hneB5 : ∀ (oo1 oo2 : Obj), ∀ p ∈ ((DE, bxo nE zs) :: (DR, LCg.lst ys) :: (L' + 1, oo1) :: (L' + 1 + 1, oo2) :: tl : Led), p.1 ≠ B := fun oo1 oo2 => ne_cons (Nat.ne_of_gt hz.2.1) (ne_cons (Ne.symm (offD (B, o4) (.head _))) (ne_cons apB.1 (ne_cons apP.1 (fun p hp => Nat.ne_of_gt (hlt p hp).1))))
      refine draw_use hms hml (k := 1 + 10 * ((1 + cnt).toNat : Int)) (by (clear hdl; lia)) hb4 (limit := ((frs ds).length : Int)) (by (exact Int.ofNat_lt.mpr hpos)) (by (clear hysl hlast hdl1 hel; lia)) hCB (hneB5 oB ocP) F11 N13 X T trivial (frs := []) (fun _ h => nomatch h) rfl rfl (by (exact ltd hd rfl)) (by lia) (fun o6 place tp h' tk' F12 N14 hb6 hp0 hp1 => ?_)
      clear F11 N12 N13
      dsimp only at F12 N14 ⊢
      (repeat' (first | ((((fail_if_success k_end); (fail_if_success (with_reducible show wpAny _ _ (exec (Stmt.While _ _ _ _) _) _ _ _)); (fail_if_success (with_reducible show wpAny _ _ (exec (Stmt.For _ _ _ _ _) _) _ _ _)))); ((first | (((with_reducible show wpAny _ _ (exec _ _) _ _ _); (fail_if_success (refine aimed (by assumption) ?_)); refine aim (fun Qo hQo => ?_))) | walk1 | (dsimp only; walk1)))) | (first | (with_reducible refine Aim.use (by assumption) ?_) | (first | ((with_reducible show Frag.In _ _ ∧ _); refine ⟨by k_in, ?_⟩; try dsimp only [List.nil_append, List.cons_append]) | ((with_reducible show KswPost _ _ _ _ _ _ _ _ _ _ _ _ _ _); dsimp only [KswPost])))))
      obtain ⟨pl, rfl⟩ : ∃ n : Nat, place = n := ⟨place.toNat, by (exact (Int.toNat_of_nonneg hp0).symm)⟩
      have N15 : News h₀ L' h' ((L' + 1 + 1, ocP) :: (DE, bxo nE zs) :: (DR, LCg.lst ys) :: (B, o6) :: (Cc, lst cells) :: (L' + 1, oB) :: tl) := News.sel N14 [5, 2, 3, 0, 1, 4] 6 rfl
      refine stCN (own := []) F12 N15 rfl hocP (fun _ h => nomatch h) (ne_cons (Nat.ne_of_gt hz.2.2.2.2.1) (ne_cons (Ne.symm (offD (L' + 1 + 1, ocP) (.tail _ (.tail _ (.tail _ (.head _)))))) (ne_cons (Ne.symm apP.1) (ne_cons (Ne.symm apP.2) (ne_cons (Nat.ne_of_lt (Nat.lt_succ_self _)) (fun p hp => Nat.ne_of_gt (hlt p hp).2.2)))))) (fun h5 oP F13 N16 hoP => ?_)
      clear F12 N14 N15 hocP hndA
      try dsimp only [List.nil_append] at F13 N16 ⊢
      have hndP : TI.notDict (L' + 1 + 1, oP) = true := by simp [TI.notDict, hoP]
      have hnb6 : TI.notDict (B, o6) = true := by
        refine hold (fun Ph hPh => ?_)
        obtain ⟨n0, g0, st0, pl0, a1, a2, a3, -, -, -, -, -, ho0⟩ := hb6
        refine hPh ?_
        clear hPh
        rw [ho0]; rfl
      have hndA : ∀ (oo : Obj), TI.notDict (B, oo) = true → ∀ q ∈ ((DE, bxo nE zs) :: (DR, LCg.lst ys) :: (B, oo) :: (Cc, lst cells) :: (L' + 1, oB) :: (L' + 1 + 1, oP) :: tl : Led), TI.notDict q = true := fun oo hoo => nd_cons rfl (nd_cons rfl (nd_cons hoo (nd_cons rfl (nd_cons hndB (nd_cons hndP (fun q hq => (htl q hq).2))))))
      replace N16 : News h₀ L' h5 ((DE, bxo nE zs) :: (DR, LCg.lst ys) :: (B, o6) :: (Cc, lst cells) :: (L' + 1, oB) :: (L' + 1 + 1, oP) :: tl) := News.sel N16 [1, 2, 3, 4, 5, 0] 6 rfl
      (repeat' (first | ((((fail_if_success k_end); (fail_if_success (with_reducible show wpAny _ _ (exec (Stmt.While _ _ _ _) _) _ _ _)); (fail_if_success (with_reducible show wpAny _ _ (exec (Stmt.For _ _ _ _ _) _) _ _ _)))); (fail_if_success (with_reducible show wpAny _ _ (exec (Stmt.Assign _ (Expr.ListComp _ _ _ _) _) _) _ _ _)); ((first | (((with_reducible show wpAny _ _ (exec _ _) _ _ _); (fail_if_success (refine aimed (by assumption) ?_)); refine aim (fun Qo hQo => ?_))) | walk1 | (dsimp only; walk1)))) | (first | (with_reducible refine Aim.use (by assumption) ?_) | (first | ((with_reducible show Frag.In _ _ ∧ _); refine ⟨by k_in, ?_⟩; try dsimp only [List.nil_append, List.cons_append]) | ((with_reducible show KswPost _ _ _ _ _ _ _ _ _ _ _ _ _ _); dsimp only [KswPost])))))
      ((k_dflt (refine LCt.Assign_ListComp_T (F₀ := by k_asm) (by rfl) (by with_unfolding_all rfl) (by with_unfolding_all rfl) (by decide) (by rfl) (by decide) (by rfl) (by rfl) (by rfl) ?_)))
      (repeat' (first | ((((fail_if_success k_end); (fail_if_success (with_reducible show wpAny _ _ (exec (Stmt.While _ _ _ _) _) _ _ _)); (fail_if_success (with_reducible show wpAny _ _ (exec (Stmt.For _ _ _ _ _) _) _ _ _)))); ((first | (((with_reducible show wpAny _ _ (exec _ _) _ _ _); (fail_if_success (refine aimed (by assumption) ?_)); refine aim (fun Qo hQo => ?_))) | walk1 | (dsimp only; walk1)))) | (first | (with_reducible refine Aim.use (by assumption) ?_) | (first | ((with_reducible show Frag.In _ _ ∧ _); refine ⟨by k_in, ?_⟩; try dsimp only [List.nil_append, List.cons_append]) | ((with_reducible show KswPost _ _ _ _ _ _ _ _ _ _ _ _ _ _); dsimp only [KswPost])))))
      rename Fr _ _ _ _ => F14
      rename News _ _ _ _ => N17
      refine LCt.CompSrcT.ledger rfl F14 N17 (.head _) (by rw [List.size_toArray, sizeLine_eq]; (exact leb hzl5 rfl)) fun g => compRestT_fix (fun i ys => IntsAre ys (((0 :: ends ds).take i).filter (fun e => decide (e ≤ (pl : Int))))) .nil ?_ ?_
      · rintro i ys2 v I oI C1 oC D m₂ hp tk hi hys2 hP hC hx1 F6 N6 off ne E'
        refine hold (fun Ph hPh => ?_)
        obtain ⟨k, tv, rfl, hk⟩ := intsAt hzs (i := i) (v := v) (by simpa using hP)
        refine hPh ?_
        clear hPh
        clear F14 N17
        (repeat' (first | ((((fail_if_success k_end); (fail_if_success (with_reducible show wpAny _ _ (exec (Stmt.While _ _ _ _) _) _ _ _)); (fail_if_success (with_reducible show wpAny _ _ (exec (Stmt.For _ _ _ _ _) _) _ _ _)))); ((first | (((with_reducible show wpAny _ _ (exec _ _) _ _ _); (fail_if_success (refine aimed (by assumption) ?_)); refine aim (fun Qo hQo => ?_))) | walk1 | (dsimp only; walk1)))) | (first | (with_reducible refine Aim.use (by assumption) ?_) | (first | ((with_reducible show Frag.In _ _ ∧ _); refine ⟨by k_in, ?_⟩; try dsimp only [List.nil_append, List.cons_append]) | ((with_reducible show KswPost _ _ _ _ _ _ _ _ _ _ _ _ _ _); dsimp only [KswPost])))))
        · refine LCg.CompEnd.intro F6 N6 _ (fun p hp => hp) off (.inr ⟨_, .head _, rfl, _, rfl⟩) ⟨rfl, ?_⟩
          rw [List.take_add_one, hk, List.filter_append, Option.toList_some, List.filter_cons_of_pos (by rw [decide_eq_true_eq]; omega), List.filter_nil]
          exact IntsAre.snoc hys2 _ _
        · refine LCg.CompEnd.intro F6 N6 _ (fun p hp => hp) off (.inr ⟨_, .head _, rfl, _, rfl⟩) ⟨rfl, ?_⟩
          rw [List.take_add_one, hk, List.filter_append, Option.toList_some, List.filter_cons_of_neg (by rw [decide_eq_true_eq]; omega), List.filter_nil, List.append_nil]
          exact hys2
      · intro ys2 hys2 DB hp tk F6 N6 off2
        clear F14 N17
        rw [List.size_toArray, hzs.length, List.take_length] at hys2
        refine hold (fun Ph hPh => ?_)
        obtain ⟨ds1, dm, ds2, hs, hb1, hb2⟩ := split_at ds pl (by (exact Int.ofNat_lt.mp hp1))
        refine hPh ?_
        clear hPh
        rw [ends_before hs hb1 hb2] at hys2
        have hg1 : ∀ d ∈ ds1, GoodRow d := fun x hx => hgd x (by rw [hs]; exact List.mem_append_left _ hx)
        have hcut : al ((frs ds).take pl) = pairs ds1 0 := al_cut hgd hs hb1 hb2
        have hl1 : ds1.length < ds.length := by rw [hs, List.length_append, List.length_cons]; (simp +arith)
        have hel1 : (ends ds1).length = ds1.length := ends_len ds1
        have hyl2 : ys2.length = ds1.length + 1 := by rw [hys2.length, List.length_cons, hel1]
        (repeat' (first | ((((fail_if_success k_end); (fail_if_success (with_reducible show wpAny _ _ (exec (Stmt.While _ _ _ _) _) _ _ _)); (fail_if_success (with_reducible show wpAny _ _ (exec (Stmt.For _ _ _ _ _) _) _ _ _)))); ((first | (((with_reducible show wpAny _ _ (exec _ _) _ _ _); (fail_if_success (refine aimed (by assumption) ?_)); refine aim (fun Qo hQo => ?_))) | walk1 | (dsimp only; walk1)))) | (first | (with_reducible refine Aim.use (by assumption) ?_) | (first | ((with_reducible show Frag.In _ _ ∧ _); refine ⟨by k_in, ?_⟩; try dsimp only [List.nil_append, List.cons_append]) | ((with_reducible show KswPost _ _ _ _ _ _ _ _ _ _ _ _ _ _); dsimp only [KswPost])))))
        rename KBw.bInts (KBy.picked _ _ _) = _ => hpk
        rename Fr _ _ _ _ => F15
        rename News _ _ _ _ => N18
        rw [Nat.min_eq_left (by (clear hlast; lia))] at hpk
        generalize KBy.picked (byteArr (frs ds)) none (some (pl : Int)) = bS at *
        have hlS : ((frs ds).take pl).length ≤ 9000 := by rw [List.length_take]; (clear hysl hlast hel hp1; lia)
        have hndL : ∀ (oo : Obj), TI.notDict (B, oo) = true → ∀ q ∈ ((DB, LCg.lst ys2) :: (DE, bxo nE zs) :: (DR, LCg.lst ys) :: (B, oo) :: (Cc, lst cells) :: (L' + 1, oB) :: (L' + 1 + 1, oP) :: tl : Led), TI.notDict q = true := fun oo hoo => nd_cons rfl (hndA oo hoo)
        refine isread0 hpk hlS F15 N18 X T (hndL o6 hnb6) rfl rfl (by (exact ltd hd rfl)) (by (exact ltu hu rfl)) (fun h' tk' F16 N19 => ?_)
        clear F15 N18
        dsimp only at F16 ⊢
        (repeat' (first | ((((fail_if_success k_end); (fail_if_success (with_reducible show wpAny _ _ (exec (Stmt.While _ _ _ _) _) _ _ _)); (fail_if_success (with_reducible show wpAny _ _ (exec (Stmt.For _ _ _ _ _) _) _ _ _)))); ((first | (((with_reducible show wpAny _ _ (exec _ _) _ _ _); (fail_if_success (refine aimed (by assumption) ?_)); refine aim (fun Qo hQo => ?_))) | walk1 | (dsimp only; walk1)))) | (first | (with_reducible refine Aim.use (by assumption) ?_) | (first | ((with_reducible show Frag.In _ _ ∧ _); refine ⟨by k_in, ?_⟩; try dsimp only [List.nil_append, List.cons_append]) | ((with_reducible show KswPost _ _ _ _ _ _ _ _ _ _ _ _ _ _); dsimp only [KswPost])))))
        refine rows0 hpk hlS (by rw [hcut, lastEnd_pairs0]) (by rw [hcut, pairs_fst]) F16 N19 X T (hndL o6 hnb6) rfl rfl (by (exact ltd hd rfl)) (by (exact ltu hu rfl)) (fun D4 l4 t4 vs4 tla4 h' tk' F17 N20 hvs4 => ?_)
        clear F16 N19
        try dsimp only at F17 N20 ⊢
        have N21 : News h₀ L' h' ((l4, tupO [.ref D4, .int (((frs ds1).length : Nat) : Int) t4]) :: (D4, lst vs4) :: (DB, LCg.lst ys2) :: (DE, bxo nE zs) :: (DR, LCg.lst ys) :: (B, o6) :: (Cc, lst cells) :: (L' + 1, oB) :: (L' + 1 + 1, oP) :: (tla4 ++ tl)) := News.mid [_, _] tla4 [_, _, _, _, _, _, _] tl N20 rfl
        clear N20
        (repeat' (first | ((((fail_if_success k_end); (fail_if_success (with_reducible show wpAny _ _ (exec (Stmt.While _ _ _ _) _) _ _ _)); (fail_if_success (with_reducible show wpAny _ _ (exec (Stmt.For _ _ _ _ _) _) _ _ _)))); (fail_if_success (with_reducible show wpAny _ _ (compareOp _ (Value.ref _) (Value.ref _)) _ _ _)); (fail_if_success (with_reducible show wpAny _ _ (subscriptTail _ (Expr.Slice _ _ _ _) (Value.ref _) _) _ _ _)); ((first | (((with_reducible show wpAny _ _ (exec _ _) _ _ _); (fail_if_success (refine aimed (by assumption) ?_)); refine aim (fun Qo hQo => ?_))) | walk1 | (dsimp only; walk1)))) | (first | (with_reducible refine Aim.use (by assumption) ?_) | (first | ((with_reducible show Frag.In _ _ ∧ _); refine ⟨by k_in, ?_⟩; try dsimp only [List.nil_append, List.cons_append]) | ((with_reducible show KswPost _ _ _ _ _ _ _ _ _ _ _ _ _ _); dsimp only [KswPost])))))
        refine slice_list F17 N21 (l := DR) (items := ys.toArray) ⟨_, (N21 (DR, LCg.lst ys) (.tail _ (.tail _ (.tail _ (.tail _ (.head _)))))).1, rfl, _, rfl⟩ .none (.int _ _) (fun h6 F18 N22 => ?_) (by with_unfolding_all rfl) (by intro _; with_unfolding_all rfl) (by rw [List.size_toArray, hysl, sizeLine_eq]; (exact leb hdl4 rfl))
        dsimp only at F18 N22 ⊢
        generalize Array.size h'.objs + 1 = DS at *
        have eS : (((ends ds1).length + 1 : Nat) : Int) - 1 = ((ds1.length : Nat) : Int) := by rw [hel1]; (simp +arith)
        rw [eS, slicePick_upto'] at N22
        replace N22 : News h₀ L' h6 ((DS, ({ cls := .type "list", data := .seq (ys.take ds1.length).toArray 0 } : Obj)) :: (l4, tupO [.ref D4, .int (((frs ds1).length : Nat) : Int) t4]) :: (D4, lst vs4) :: (DB, LCg.lst ys2) :: (DE, bxo nE zs) :: (DR, LCg.lst ys) :: (B, o6) :: (Cc, lst cells) :: (L' + 1, oB) :: (L' + 1 + 1, oP) :: (tla4 ++ tl)) := N22
        have hy1 : DVs tl ds1 (ys.take ds1.length) := by
          have h := DVs.take hys ds1.length
          rwa [hs, List.take_left] at h
        clear F17 N21
        (repeat' (first | ((((fail_if_success k_end); (fail_if_success (with_reducible show wpAny _ _ (exec (Stmt.While _ _ _ _) _) _ _ _)); (fail_if_success (with_reducible show wpAny _ _ (exec (Stmt.For _ _ _ _ _) _) _ _ _)))); (fail_if_success (with_reducible show wpAny _ _ (compareOp _ (Value.ref _) (Value.ref _)) _ _ _)); (fail_if_success (with_reducible show wpAny _ _ (subscriptTail _ (Expr.Slice _ _ _ _) (Value.ref _) _) _ _ _)); ((first | (((with_reducible show wpAny _ _ (exec _ _) _ _ _); (fail_if_success (refine aimed (by assumption) ?_)); refine aim (fun Qo hQo => ?_))) | walk1 | (dsimp only; walk1)))) | (first | (with_reducible refine Aim.use (by assumption) ?_) | (first | ((with_reducible show Frag.In _ _ ∧ _); refine ⟨by k_in, ?_⟩; try dsimp only [List.nil_append, List.cons_append]) | ((with_reducible show KswPost _ _ _ _ _ _ _ _ _ _ _ _ _ _); dsimp only [KswPost])))))
        rename Fr _ _ _ _ => F19
        rename News _ _ _ _ => N23
        have e2 : (0 :: ends ds1).getD ((-1 : Int) + ((0 :: ends ds1).length : Nat)).toNat 0 = (((frs ds1).length : Nat) : Int) := by
          have e3 : ((-1 : Int) + ((0 :: ends ds1).length : Nat)).toNat = ds1.length := by rw [List.length_cons, hel1]; (simp +arith)
          rw [e3, ends_last]
        rw [e2] at N23
        have hn1 : nds ds1 ≤ 20 := by
          have : ∀ xs ys : List Dat, nds (xs ++ ys) ≤ 20 → nds xs ≤ 20 := fun xs ys => by
            induction xs with
            | nil => intro _; rw [nds]; decide
            | cons x xs ih =>
              intro h
              rw [List.cons_append, nds] at h
              rw [nds]
              have := ih (by lia)
              lia
          exact this ds1 (dm :: ds2) (hs ▸ hnd12)
        refine nePairs (led := _) (fun q hq => (N23 q hq).1) ⟨_, (N23 _ (.tail _ (.tail _ (.head _)))).1, rfl, _, rfl⟩ ⟨_, (N23 _ (.head _)).1, rfl, _, rfl⟩ ⟨_, (N23 _ (.tail _ (.tail _ (.tail _ (.head _))))).1, rfl, _, rfl⟩ ⟨_, (N23 _ (.tail _ (.head _))).1, rfl, _, rfl⟩
          (DVs.inL 11 hvs4 rfl) (DVs.inR 11 hy1 rfl) (by show un + 3 + 2 + nds ds1 < 9900; lia) prog w _ _ ?_
        clear hvs4 hy1
        have N24 : News h₀ L' _ ((B, o6) :: (Cc, lst cells) :: (DB, LCg.lst ys2) :: (DE, bxo nE zs) :: (DR, LCg.lst ys) :: (L' + 1, oB) :: (L' + 1 + 1, oP) :: tl) := News.cut [_, _, _, _, _, _, _] tla4 tl (News.sel N23 [7, 8, 4, 5, 6, 9, 10] 11 rfl) rfl
        clear N23
        (repeat' (first | ((((fail_if_success k_end); (fail_if_success (with_reducible show wpAny _ _ (exec (Stmt.While _ _ _ _) _) _ _ _)); (fail_if_success (with_reducible show wpAny _ _ (exec (Stmt.For _ _ _ _ _) _) _ _ _)))); (fail_if_success (with_reducible show wpAny _ _ (compareOp _ (Value.ref _) (Value.ref _)) _ _ _)); (fail_if_success (with_reducible show wpAny _ _ (subscriptTail _ (Expr.Slice _ _ _ _) (Value.ref _) _) _ _ _)); ((first | (((with_reducible show wpAny _ _ (exec _ _) _ _ _); (fail_if_success (refine aimed (by assumption) ?_)); refine aim (fun Qo hQo => ?_))) | walk1 | (dsimp only; walk1)))) | (first | (with_reducible refine Aim.use (by assumption) ?_) | (first | ((with_reducible show Frag.In _ _ ∧ _); refine ⟨by k_in, ?_⟩; try dsimp only [List.nil_append, List.cons_append]) | ((with_reducible show KswPost _ _ _ _ _ _ _ _ _ _ _ _ _ _); dsimp only [KswPost])))))
        rename Fr _ _ _ _ => F20
        have hneB6 : ∀ p ∈ ((DB, LCg.lst ys2) :: (DE, bxo nE zs) :: (DR, LCg.lst ys) :: (L' + 1, oB) :: (L' + 1 + 1, oP) :: tl : Led), p.1 ≠ B := ne_cons (Ne.symm (off1_mem off2 (B, o6) (.tail _ (.tail _ (.head _))))) (hneB5 oB oP)
        refine draw_use hms hml (k := 1 + 10 * ((1 + cnt).toNat : Int) + 1) (by (clear hdl; lia)) hb6 (limit := 255) (by decide) (by decide) hCB hneB6 F20 N24 X T trivial (frs := []) (fun _ h => nomatch h) rfl rfl (by (exact ltd hd rfl)) (by lia) (fun o7 xc txc h' tk' F21 N25 hb7 hx0 hx1 => ?_)
        clear F20 N24
        have hgp := getD_in hin pl
        dsimp only at F21 N25 ⊢
        (repeat' (first | ((((fail_if_success k_end); (fail_if_success (with_reducible show wpAny _ _ (exec (Stmt.While _ _ _ _) _) _ _ _)); (fail_if_success (with_reducible show wpAny _ _ (exec (Stmt.For _ _ _ _ _) _) _ _ _)))); (fail_if_success (with_reducible show wpAny _ _ (binaryOp Operator.Add (Value.bytes _ _) (Value.bytes _ _)) _ _ _)); ((first | (((with_reducible show wpAny _ _ (exec _ _) _ _ _); (fail_if_success (refine aimed (by assumption) ?_)); refine aim (fun Qo hQo => ?_))) | walk1 | (dsimp only; walk1)))) | (first | (with_reducible refine Aim.use (by assumption) ?_) | (first | ((with_reducible show Frag.In _ _ ∧ _); refine ⟨by k_in, ?_⟩; try dsimp only [List.nil_append, List.cons_append]) | ((with_reducible show KswPost _ _ _ _ _ _ _ _ _ _ _ _ _ _); dsimp only [KswPost])))))
        rename Fr _ _ _ _ => F22
        rename News _ _ _ _ => N26
        have hpkA : KBy.picked (byteArr (frs ds)) none (some (pl : Int)) = byteArr ((frs ds).take pl) := by
          rename KBw.bInts (KBy.picked (byteArr (frs ds)) none (some (pl : Int))) = _ => hpk9
          rw [← byteArr_bInts (KBy.picked (byteArr (frs ds)) none (some (pl : Int))), hpk9, Nat.min_eq_left (by (clear hlast; lia))]
        obtain ⟨code, hcode, hc0', hc1'⟩ : ∃ c, ((frs ds).getD ((pl : Int)).toNat 0 + 1 + xc).fmod 256 = c ∧ 0 ≤ c ∧ c < 256 :=
          ⟨_, rfl, by rw [Int.fmod_eq_emod_of_nonneg _ (by decide)]; exact ⟨Int.emod_nonneg _ (by decide), Int.emod_lt_of_pos _ (by decide)⟩⟩
        rw [hcode] at F22 ⊢
        rw [hpkA]
        have hbC : (#[code.toNat.toUInt8] : Array UInt8) = byteArr [code] := rfl
        rw [hbC]
        have hlT : ((frs ds).take pl).length ≤ 2000 := by rw [List.length_take]; (clear hysl hlast hel hp1; lia)
        have hlD : ∀ q, ((frs ds).drop q).length ≤ 2000 := fun q => by rw [List.length_drop]; (clear hysl hlast hdl1 hel; lia)
        refine KBy.add_bytes (by rw [byteArr_size, byteArr_size, List.length_singleton]; (exact ltb hlS rfl)) fun t20 k20 => ?_
        rw [← byteArr_append]
        replace N26 : News h₀ L' _ ((B, o7) :: (Cc, lst cells) :: (DB, LCg.lst ys2) :: (DE, bxo nE zs) :: (DR, LCg.lst ys) :: (L' + 1, oB) :: (L' + 1 + 1, oP) :: tl) := fun p hp => N26 p (.tail _ hp)
        try clear F21
        try clear N25
        (repeat' (first | ((((fail_if_success k_end); (fail_if_success (with_reducible show wpAny _ _ (exec (Stmt.While _ _ _ _) _) _ _ _)); (fail_if_success (with_reducible show wpAny _ _ (exec (Stmt.For _ _ _ _ _) _) _ _ _)))); (fail_if_success (with_reducible show wpAny _ _ (binaryOp Operator.Add (Value.bytes _ _) (Value.bytes _ _)) _ _ _)); ((first | (((with_reducible show wpAny _ _ (exec _ _) _ _ _); (fail_if_success (refine aimed (by assumption) ?_)); refine aim (fun Qo hQo => ?_))) | walk1 | (dsimp only; walk1)))) | (first | (with_reducible refine Aim.use (by assumption) ?_) | (first | ((with_reducible show Frag.In _ _ ∧ _); refine ⟨by k_in, ?_⟩; try dsimp only [List.nil_append, List.cons_append]) | ((with_reducible show KswPost _ _ _ _ _ _ _ _ _ _ _ _ _ _); dsimp only [KswPost])))))
        rename Fr _ _ _ _ => F23
        have hpkB : KBy.picked (byteArr (frs ds)) (some ((pl : Int) + 1)) none = byteArr ((frs ds).drop (pl + 1)) := by
          rename KBw.bInts (KBy.picked (byteArr (frs ds)) (some ((pl : Int) + 1)) none) = _ => hpk9
          rw [← byteArr_bInts (KBy.picked (byteArr (frs ds)) (some ((pl : Int) + 1)) none), hpk9, clipAt_in (by (exact n0 _)) (by assumption), show ((pl : Int) + 1).toNat = pl + 1 by (exact (Int.toNat_natCast _)), List.take_of_length_le (by rw [List.length_drop]; exact Nat.le_refl _)]
        rw [hpkB]
        refine KBy.add_bytes (by rw [byteArr_size, byteArr_size, List.length_append, List.length_singleton]; have := hlD (pl + 1); (clear hlS; lia)) fun t21 k21 => ?_
        rw [← byteArr_append]
        (repeat' (first | ((((fail_if_success k_end); (fail_if_success (with_reducible show wpAny _ _ (exec (Stmt.While _ _ _ _) _) _ _ _)); (fail_if_success (with_reducible show wpAny _ _ (exec (Stmt.For _ _ _ _ _) _) _ _ _)))); (fail_if_success (with_reducible show wpAny _ _ (compareOp _ (Value.ref _) (Value.ref _)) _ _ _)); (fail_if_success (with_reducible show wpAny _ _ (subscriptTail _ (Expr.Slice _ _ _ _) (Value.ref _) _) _ _ _)); ((first | (((with_reducible show wpAny _ _ (exec _ _) _ _ _); (fail_if_success (refine aimed (by assumption) ?_)); refine aim (fun Qo hQo => ?_))) | walk1 | (dsimp only; walk1)))) | (first | (with_reducible refine Aim.use (by assumption) ?_) | (first | ((with_reducible show Frag.In _ _ ∧ _); refine ⟨by k_in, ?_⟩; try dsimp only [List.nil_append, List.cons_append]) | ((with_reducible show KswPost _ _ _ _ _ _ _ _ _ _ _ _ _ _); dsimp only [KswPost])))))
        rename Fr _ _ _ _ => F24
        rename News _ _ _ _ => N28
        have N29 : News h₀ L' _ ((B, o7) :: (Cc, lst cells) :: (DB, LCg.lst ys2) :: (DE, bxo nE zs) :: (DR, LCg.lst ys) :: (L' + 1, oB) :: (L' + 1 + 1, oP) :: tl) := fun p hp => N28 p (by first | exact hp | exact .tail _ hp | exact .tail _ (.tail _ hp))
        refine draw_use hms hml (k := 1 + 10 * ((1 + cnt).toNat : Int) + 1 + 1) (by (clear hdl; lia)) hb7 (limit := 3) (by decide) (by decide) hCB hneB6 F24 N29 X T trivial (frs := []) (fun _ h => nomatch h) rfl rfl (by (exact ltd hd rfl)) (by lia) (fun o8 way tw h' tk' F25 N27 hb8 hw0 hw1 => ?_)
        clear F24 N28 N29
        try clear F23
        try clear F22
        have hnb8 : TI.notDict (B, o8) = true := by
          refine hold (fun Ph hPh => ?_)
          obtain ⟨n0, g0, st0, pl0, a1, a2, a3, -, -, -, -, -, ho0⟩ := hb8
          refine hPh ?_
          clear hPh
          rw [ho0]; rfl
        have hinT : ∀ k ∈ (frs ds).take pl ++ [code] ++ (frs ds).drop (pl + 1), 0 ≤ k ∧ k < 256 := fun k hk => by
          simp only [List.mem_append, List.mem_singleton] at hk
          rcases hk with (hk | rfl) | hk
          · exact hin k (List.mem_of_mem_take hk)
          · exact ⟨hc0', hc1'⟩
          · exact hin k (List.mem_of_mem_drop hk)
        have hksT := bInts_byteArr hinT
        have hlTT : ((frs ds).take pl ++ [code] ++ (frs ds).drop (pl + 1)).length ≤ 9000 := by
          rw [List.length_append, List.length_append, List.length_singleton]
          have := hlD (pl + 1)
          (clear hlS; lia)
        replace N27 : News h₀ L' h' ((DB, LCg.lst ys2) :: (DE, bxo nE zs) :: (DR, LCg.lst ys) :: (B, o8) :: (Cc, lst cells) :: (L' + 1, oB) :: (L' + 1 + 1, oP) :: tl) := News.sel N27 [2, 3, 4, 0, 1, 5, 6] 7 rfl
        dsimp only at F25 ⊢
        (repeat' (first | ((((fail_if_success k_end); (fail_if_success (with_reducible show wpAny _ _ (exec (Stmt.While _ _ _ _) _) _ _ _)); (fail_if_success (with_reducible show wpAny _ _ (exec (Stmt.For _ _ _ _ _) _) _ _ _)))); (fail_if_success (with_reducible show wpAny _ _ (binaryOp Operator.Add (Value.bytes _ _) (Value.bytes _ _)) _ _ _)); ((first | (((with_reducible show wpAny _ _ (exec _ _) _ _ _); (fail_if_success (refine aimed (by assumption) ?_)); refine aim (fun Qo hQo => ?_))) | walk1 | (dsimp only; walk1)))) | (first | (with_reducible refine Aim.use (by assumption) ?_) | (first | ((with_reducible show Frag.In _ _ ∧ _); refine ⟨by k_in, ?_⟩; try dsimp only [List.nil_append, List.cons_append]) | ((with_reducible show KswPost _ _ _ _ _ _ _ _ _ _ _ _ _ _); dsimp only [KswPost])))))
        · rename Fr _ _ _ _ => F30
          rename News _ _ _ _ => N30
          try clear N27
          refine isread0 hksT hlTT F30 N30 X T (hndL o8 hnb8) rfl rfl (by (exact ltd hd rfl)) (by (exact ltu hu rfl)) (fun h' tk' F31 N31 => ?_)
          clear F30 N30
          dsimp only at F31 ⊢
          (repeat' (first | ((((fail_if_success k_end); (fail_if_success (with_reducible show wpAny _ _ (exec (Stmt.While _ _ _ _) _) _ _ _)); (fail_if_success (with_reducible show wpAny _ _ (exec (Stmt.For _ _ _ _ _) _) _ _ _)))); ((first | (((with_reducible show wpAny _ _ (exec _ _) _ _ _); (fail_if_success (refine aimed (by assumption) ?_)); refine aim (fun Qo hQo => ?_))) | walk1 | (dsimp only; walk1)))) | (first | (with_reducible refine Aim.use (by assumption) ?_) | (first | ((with_reducible show Frag.In _ _ ∧ _); refine ⟨by k_in, ?_⟩; try dsimp only [List.nil_append, List.cons_append]) | ((with_reducible show KswPost _ _ _ _ _ _ _ _ _ _ _ _ _ _); dsimp only [KswPost])))))
          obtain ⟨m5, -, hal5⟩ := al_front hg1 (ks := (frs ds).take pl ++ [code] ++ (frs ds).drop (pl + 1)) (post := (frs (dm :: ds2)).take (pl - (frs ds1).length) ++ [code] ++ (frs ds).drop (pl + 1)) (by
            rw [show (frs ds).take pl = frs ds1 ++ (frs (dm :: ds2)).take (pl - (frs ds1).length) by rw [hs, frs_app, List.take_append, List.take_of_length_le hb1]]
            simp only [List.append_assoc])
          refine rows0 hksT hlTT rfl (congrArg _ hal5) F31 N31 X T (hndL o8 hnb8) rfl rfl (by (exact ltd hd rfl)) (by (exact ltu hu rfl)) (fun D5 l5 t5 vs5 tla5 h' tk' F32 N32 hvs5 => ?_)
          clear F31 N31
          try dsimp only at F32 N32 ⊢
          generalize lastEnd (al ((frs ds).take pl ++ [code] ++ (frs ds).drop (pl + 1))) = lE at *
          have N33 : News h₀ L' h' ((l5, tupO [.ref D5, .int lE t5]) :: (D5, lst vs5) :: (DB, LCg.lst ys2) :: (DE, bxo nE zs) :: (DR, LCg.lst ys) :: (B, o8) :: (Cc, lst cells) :: (L' + 1, oB) :: (L' + 1 + 1, oP) :: (tla5 ++ tl)) := News.mid [_, _] tla5 [_, _, _, _, _, _, _] tl N32 rfl
          clear N32
          have hvl5 : vs5.length ≤ 9001 := by
            rw [hvs5.len, List.length_map, ← hal5]
            exact Nat.le_trans (rr_len _ _ _) (by (exact Nat.succ_le_succ hlTT))
          (repeat' (first | ((((fail_if_success k_end); (fail_if_success (with_reducible show wpAny _ _ (exec (Stmt.While _ _ _ _) _) _ _ _)); (fail_if_success (with_reducible show wpAny _ _ (exec (Stmt.For _ _ _ _ _) _) _ _ _)))); (fail_if_success (with_reducible show wpAny _ _ (compareOp _ (Value.ref _) (Value.ref _)) _ _ _)); (fail_if_success (with_reducible show wpAny _ _ (subscriptTail _ (Expr.Slice _ _ _ _) (Value.ref _) _) _ _ _)); ((first | (((with_reducible show wpAny _ _ (exec _ _) _ _ _); (fail_if_success (refine aimed (by assumption) ?_)); refine aim (fun Qo hQo => ?_))) | walk1 | (dsimp only; walk1)))) | (first | (with_reducible refine Aim.use (by assumption) ?_) | (first | ((with_reducible show Frag.In _ _ ∧ _); refine ⟨by k_in, ?_⟩; try dsimp only [List.nil_append, List.cons_append]) | ((with_reducible show KswPost _ _ _ _ _ _ _ _ _ _ _ _ _ _); dsimp only [KswPost])))))
          rename Fr _ _ _ _ => F33
          rename News _ _ _ _ => N34
          refine slice_listT F33 N34 (l := D5) (items := vs5.toArray) ⟨_, (N34 (D5, lst vs5) (.tail _ (.head _))).1, rfl, _, rfl⟩ .none (.int _ _) (fun h6 F35 N35 => ?_) (by with_unfolding_all rfl) (by rw [List.size_toArray, sizeLine_eq]; (exact leb hvl5 rfl))
          dsimp only at F35 N35 ⊢
          generalize Array.size h'.objs + 1 = DQ at *
          have eS : (((ends ds1).length + 1 : Nat) : Int) - 1 = ((ds1.length : Nat) : Int) := by rw [hel1]; (simp +arith)
          rw [eS, slicePick_upto'] at N35
          replace N35 : News h₀ L' h6 ((DQ, ({ cls := .type "list", data := .seq (vs5.take ds1.length).toArray 0 } : Obj)) :: (l5, tupO [.ref D5, .int lE t5]) :: (D5, lst vs5) :: (DB, LCg.lst ys2) :: (DE, bxo nE zs) :: (DR, LCg.lst ys) :: (B, o8) :: (Cc, lst cells) :: (L' + 1, oB) :: (L' + 1 + 1, oP) :: (tla5 ++ tl)) := N35
          have hv6 : DVs tla5 ds1 (vs5.take ds1.length) := by
            have h := DVs.take hvs5 ds1.length
            rwa [List.map_append, pairs_fst, List.take_left] at h
          clear F33 N34
          (repeat' (first | ((((fail_if_success k_end); (fail_if_success (with_reducible show wpAny _ _ (exec (Stmt.While _ _ _ _) _) _ _ _)); (fail_if_success (with_reducible show wpAny _ _ (exec (Stmt.For _ _ _ _ _) _) _ _ _)))); (fail_if_success (with_reducible show wpAny _ _ (compareOp _ (Value.ref _) (Value.ref _)) _ _ _)); (fail_if_success (with_reducible show wpAny _ _ (subscriptTail _ (Expr.Slice _ _ _ _) (Value.ref _) _) _ _ _)); ((first | (((with_reducible show wpAny _ _ (exec _ _) _ _ _); (fail_if_success (refine aimed (by assumption) ?_)); refine aim (fun Qo hQo => ?_))) | walk1 | (dsimp only; walk1)))) | (first | (with_reducible refine Aim.use (by assumption) ?_) | (first | ((with_reducible show Frag.In _ _ ∧ _); refine ⟨by k_in, ?_⟩; try dsimp only [List.nil_append, List.cons_append]) | ((with_reducible show KswPost _ _ _ _ _ _ _ _ _ _ _ _ _ _); dsimp only [KswPost])))))
          rename Fr _ _ _ _ => F36
          rename News _ _ _ _ => N36
          refine slice_list F36 N36 (l := DR) (items := ys.toArray) ⟨_, (N36 (DR, LCg.lst ys) (.tail _ (.tail _ (.tail _ (.tail _ (.tail _ (.head _))))))).1, rfl, _, rfl⟩ .none (.int _ _) (fun h7 F37 N37 => ?_) (by with_unfolding_all rfl) (by intro _; with_unfolding_all rfl) (by rw [List.size_toArray, hysl, sizeLine_eq]; (exact leb hdl4 rfl))
          dsimp only at F37 N37 ⊢
          generalize Array.size h6.objs + 1 = DW2 at *
          rw [eS, slicePick_upto'] at N37
          replace N37 : News h₀ L' h7 ((DW2, ({ cls := .type "list", data := .seq (ys.take ds1.length).toArray 0 } : Obj)) :: (DQ, ({ cls := .type "list", data := .seq (vs5.take ds1.length).toArray 0 } : Obj)) :: (l5, tupO [.ref D5, .int lE t5]) :: (D5, lst vs5) :: (DB, LCg.lst ys2) :: (DE, bxo nE zs) :: (DR, LCg.lst ys) :: (B, o8) :: (Cc, lst cells) :: (L' + 1, oB) :: (L' + 1 + 1, oP) :: (tla5 ++ tl)) := N37
          have hy1 : DVs tl ds1 (ys.take ds1.length) := by
            have h := DVs.take hys ds1.length
            rwa [hs, List.take_left] at h
          clear F36 N36
          (repeat' (first | ((((fail_if_success k_end); (fail_if_success (with_reducible show wpAny _ _ (exec (Stmt.While _ _ _ _) _) _ _ _)); (fail_if_success (with_reducible show wpAny _ _ (exec (Stmt.For _ _ _ _ _) _) _ _ _)))); (fail_if_success (with_reducible show wpAny _ _ (compareOp _ (Value.ref _) (Value.ref _)) _ _ _)); (fail_if_success (with_reducible show wpAny _ _ (subscriptTail _ (Expr.Slice _ _ _ _) (Value.ref _) _) _ _ _)); ((first | (((with_reducible show wpAny _ _ (exec _ _) _ _ _); (fail_if_success (refine aimed (by assumption) ?_)); refine aim (fun Qo hQo => ?_))) | walk1 | (dsimp only; walk1)))) | (first | (with_reducible refine Aim.use (by assumption) ?_) | (first | ((with_reducible show Frag.In _ _ ∧ _); refine ⟨by k_in, ?_⟩; try dsimp only [List.nil_append, List.cons_append]) | ((with_reducible show KswPost _ _ _ _ _ _ _ _ _ _ _ _ _ _); dsimp only [KswPost])))))
          rename Fr _ _ _ _ => F38
          rename News _ _ _ _ => N38
          refine rcLists (led := _) (fun q hq => (N38 q hq).1) ⟨_, (N38 _ (.tail _ (.head _))).1, rfl, _, rfl⟩ ⟨_, (N38 _ (.head _)).1, rfl, _, rfl⟩
            (DVs.inL 11 hv6 rfl) (DVs.inR 11 hy1 rfl) (by show un + 3 + 1 + nds ds1 < 9900; lia) prog w _ _ ?_
          clear N38 hy1 hv6
          (repeat' (first | ((((fail_if_success k_end); (fail_if_success (with_reducible show wpAny _ _ (exec (Stmt.While _ _ _ _) _) _ _ _)); (fail_if_success (with_reducible show wpAny _ _ (exec (Stmt.For _ _ _ _ _) _) _ _ _)))); ((first | (((with_reducible show wpAny _ _ (exec _ _) _ _ _); (fail_if_success (refine aimed (by assumption) ?_)); refine aim (fun Qo hQo => ?_))) | walk1 | (dsimp only; walk1)))) | (first | (with_reducible refine Aim.use (by assumption) ?_) | (first | ((with_reducible show Frag.In _ _ ∧ _); refine ⟨by k_in, ?_⟩; try dsimp only [List.nil_append, List.cons_append]) | ((with_reducible show KswPost _ _ _ _ _ _ _ _ _ _ _ _ _ _); dsimp only [KswPost])))))
          exact ⟨rfl, _, _, _, rfl, by rw [← hL']; exact F38⟩
        · rename Fr _ _ _ _ => F30
          rename News _ _ _ _ => N30
          try clear N27
          have hzA : (KBy.picked (byteArr (frs ds)) none (some (pl : Int))).size ≤ 2000 := Nat.le_trans (KBc.size_picked_le _ _ _) (by rw [byteArr_size]; (clear hysl hlast hdl1 hel; lia))
          have hzB : (KBy.picked (byteArr (frs ds)) (some (pl : Int)) none).size ≤ 2000 := Nat.le_trans (KBc.size_picked_le _ _ _) (by rw [byteArr_size]; omega)
          refine KBy.add_bytes (by show _ + 3 ≤ _; (exact apk hzA rfl)) fun t22 k22 => ?_
          have hzC : (KBy.picked (byteArr (frs ds)) none (some (pl : Int)) ++ (#[code.toNat.toUInt8, (Int.toNat 114).toUInt8, (Int.toNat 0).toUInt8] : Array UInt8)).size ≤ 2003 := by rw [Array.size_append]; show _ + 3 ≤ _; (exact apk hzA rfl)
          generalize KBy.picked (byteArr (frs ds)) none (some (pl : Int)) ++ (#[code.toNat.toUInt8, (Int.toNat 114).toUInt8, (Int.toNat 0).toUInt8] : Array UInt8) = bC at *
          (repeat' (first | ((((fail_if_success k_end); (fail_if_success (with_reducible show wpAny _ _ (exec (Stmt.While _ _ _ _) _) _ _ _)); (fail_if_success (with_reducible show wpAny _ _ (exec (Stmt.For _ _ _ _ _) _) _ _ _)))); (fail_if_success (with_reducible show wpAny _ _ (binaryOp Operator.Add (Value.bytes _ _) (Value.bytes _ _)) _ _ _)); ((first | (((with_reducible show wpAny _ _ (exec _ _) _ _ _); (fail_if_success (refine aimed (by assumption) ?_)); refine aim (fun Qo hQo => ?_))) | walk1 | (dsimp only; walk1)))) | (first | (with_reducible refine Aim.use (by assumption) ?_) | (first | ((with_reducible show Frag.In _ _ ∧ _); refine ⟨by k_in, ?_⟩; try dsimp only [List.nil_append, List.cons_append]) | ((with_reducible show KswPost _ _ _ _ _ _ _ _ _ _ _ _ _ _); dsimp only [KswPost])))))
          refine KBy.add_bytes (by (exact apb hzC hzB rfl)) fun t23 k23 => ?_
          have hzD : (bC ++ KBy.picked (byteArr (frs ds)) (some (pl : Int)) none).size ≤ 4003 := by rw [Array.size_append]; (exact Nat.add_le_add hzC hzB)
          generalize bC ++ KBy.picked (byteArr (frs ds)) (some (pl : Int)) none = bD at *
          (repeat' (first | ((((fail_if_success k_end); (fail_if_success (with_reducible show wpAny _ _ (exec (Stmt.While _ _ _ _) _) _ _ _)); (fail_if_success (with_reducible show wpAny _ _ (exec (Stmt.For _ _ _ _ _) _) _ _ _)))); (fail_if_success (with_reducible show wpAny _ _ (binaryOp Operator.Add (Value.bytes _ _) (Value.bytes _ _)) _ _ _)); ((first | (((with_reducible show wpAny _ _ (exec _ _) _ _ _); (fail_if_success (refine aimed (by assumption) ?_)); refine aim (fun Qo hQo => ?_))) | walk1 | (dsimp only; walk1)))) | (first | (with_reducible refine Aim.use (by assumption) ?_) | (first | ((with_reducible show Frag.In _ _ ∧ _); refine ⟨by k_in, ?_⟩; try dsimp only [List.nil_append, List.cons_append]) | ((with_reducible show KswPost _ _ _ _ _ _ _ _ _ _ _ _ _ _); dsimp only [KswPost])))))
          rename Fr _ _ _ _ => F33
          rename News _ _ _ _ => N33
          refine isread0 (ks := KBw.bInts bD) rfl (by rw [KBw.ints_length]; (exact leb hzD rfl)) F33 (fun p hp => N33 p (.tail _ hp)) X T (hndL o8 hnb8) rfl rfl (by (exact ltd hd rfl)) (by (exact ltu hu rfl)) (fun h' tk' F31 _ => ?_)
          clear F33 N33
          dsimp only at F31 ⊢
          (repeat' (first | ((((fail_if_success k_end); (fail_if_success (with_reducible show wpAny _ _ (exec (Stmt.While _ _ _ _) _) _ _ _)); (fail_if_success (with_reducible show wpAny _ _ (exec (Stmt.For _ _ _ _ _) _) _ _ _)))); ((first | (((with_reducible show wpAny _ _ (exec _ _) _ _ _); (fail_if_success (refine aimed (by assumption) ?_)); refine aim (fun Qo hQo => ?_))) | walk1 | (dsimp only; walk1)))) | (first | (with_reducible refine Aim.use (by assumption) ?_) | (first | ((with_reducible show Frag.In _ _ ∧ _); refine ⟨by k_in, ?_⟩; try dsimp only [List.nil_append, List.cons_append]) | ((with_reducible show KswPost _ _ _ _ _ _ _ _ _ _ _ _ _ _); dsimp only [KswPost])))))
          exact ⟨rfl, _, _, _, rfl, by rw [← hL']; exact F31⟩
        · rename Fr _ _ _ _ => F30
          rename News _ _ _ _ => N30
          try clear N27
          have hzA : (KBy.picked (byteArr (frs ds)) none (some (pl : Int))).size ≤ 2000 := Nat.le_trans (KBc.size_picked_le _ _ _) (by rw [byteArr_size]; (clear hysl hlast hdl1 hel; lia))
          have hzB : (KBy.picked (byteArr (frs ds)) (some ((pl : Int) + 2)) none).size ≤ 2000 := Nat.le_trans (KBc.size_picked_le _ _ _) (by rw [byteArr_size]; omega)
          have hz2 : (KBy.picked (byteArr (frs ds)) (some (pl : Int)) (some ((pl : Int) + 2))).size ≤ 2000 := Nat.le_trans (KBc.size_picked_le _ _ _) (by rw [byteArr_size]; omega)
          refine slice_back (s := ⟨_, _, _, _, _⟩) F30 N30 (by (exact leb hz2 rfl)) (fun h' t' k' F31 N31 => ?_)
          have hz3 := Nat.le_trans (backw_size _) hz2
          generalize backw (KBy.picked (byteArr (frs ds)) (some (pl : Int)) (some ((pl : Int) + 2))) = b9 at *
          clear F30 N30
          dsimp only at F31 ⊢
          (repeat' (first | ((((fail_if_success k_end); (fail_if_success (with_reducible show wpAny _ _ (exec (Stmt.While _ _ _ _) _) _ _ _)); (fail_if_success (with_reducible show wpAny _ _ (exec (Stmt.For _ _ _ _ _) _) _ _ _)))); (fail_if_success (with_reducible show wpAny _ _ (binaryOp Operator.Add (Value.bytes _ _) (Value.bytes _ _)) _ _ _)); ((first | (((with_reducible show wpAny _ _ (exec _ _) _ _ _); (fail_if_success (refine aimed (by assumption) ?_)); refine aim (fun Qo hQo => ?_))) | walk1 | (dsimp only; walk1)))) | (first | (with_reducible refine Aim.use (by assumption) ?_) | (first | ((with_reducible show Frag.In _ _ ∧ _); refine ⟨by k_in, ?_⟩; try dsimp only [List.nil_append, List.cons_append]) | ((with_reducible show KswPost _ _ _ _ _ _ _ _ _ _ _ _ _ _); dsimp only [KswPost])))))
          refine KBy.add_bytes (by (exact apb hzA hz3 rfl)) fun t22 k22 => ?_
          have hzC : (KBy.picked (byteArr (frs ds)) none (some (pl : Int)) ++ b9).size ≤ 4000 := by rw [Array.size_append]; (exact Nat.add_le_add hzA hz3)
          generalize KBy.picked (byteArr (frs ds)) none (some (pl : Int)) ++ b9 = bC at *
          (repeat' (first | ((((fail_if_success k_end); (fail_if_success (with_reducible show wpAny _ _ (exec (Stmt.While _ _ _ _) _) _ _ _)); (fail_if_success (with_reducible show wpAny _ _ (exec (Stmt.For _ _ _ _ _) _) _ _ _)))); (fail_if_success (with_reducible show wpAny _ _ (binaryOp Operator.Add (Value.bytes _ _) (Value.bytes _ _)) _ _ _)); ((first | (((with_reducible show wpAny _ _ (exec _ _) _ _ _); (fail_if_success (refine aimed (by assumption) ?_)); refine aim (fun Qo hQo => ?_))) | walk1 | (dsimp only; walk1)))) | (first | (with_reducible refine Aim.use (by assumption) ?_) | (first | ((with_reducible show Frag.In _ _ ∧ _); refine ⟨by k_in, ?_⟩; try dsimp only [List.nil_append, List.cons_append]) | ((with_reducible show KswPost _ _ _ _ _ _ _ _ _ _ _ _ _ _); dsimp only [KswPost])))))
          refine KBy.add_bytes (by (exact apb hzC hzB rfl)) fun t23 k23 => ?_
          have hzD : (bC ++ KBy.picked (byteArr (frs ds)) (some ((pl : Int) + 2)) none).size ≤ 6000 := by rw [Array.size_append]; (exact Nat.add_le_add hzC hzB)
          generalize bC ++ KBy.picked (byteArr (frs ds)) (some ((pl : Int) + 2)) none = bD at *
          (repeat' (first | ((((fail_if_success k_end); (fail_if_success (with_reducible show wpAny _ _ (exec (Stmt.While _ _ _ _) _) _ _ _)); (fail_if_success (with_reducible show wpAny _ _ (exec (Stmt.For _ _ _ _ _) _) _ _ _)))); (fail_if_success (with_reducible show wpAny _ _ (binaryOp Operator.Add (Value.bytes _ _) (Value.bytes _ _)) _ _ _)); ((first | (((with_reducible show wpAny _ _ (exec _ _) _ _ _); (fail_if_success (refine aimed (by assumption) ?_)); refine aim (fun Qo hQo => ?_))) | walk1 | (dsimp only; walk1)))) | (first | (with_reducible refine Aim.use (by assumption) ?_) | (first | ((with_reducible show Frag.In _ _ ∧ _); refine ⟨by k_in, ?_⟩; try dsimp only [List.nil_append, List.cons_append]) | ((with_reducible show KswPost _ _ _ _ _ _ _ _ _ _ _ _ _ _); dsimp only [KswPost])))))
          rename Fr _ _ _ _ => F33
          rename News _ _ _ _ => N33
          refine isread0 (ks := KBw.bInts bD) rfl (by rw [KBw.ints_length]; (exact leb hzD rfl)) F33 (N33) X T (hndL o8 hnb8) rfl rfl (by (exact ltd hd rfl)) (by (exact ltu hu rfl)) (fun h' tk' F34 _ => ?_)
          clear F33 N33
          dsimp only at F34 ⊢
          (repeat' (first | ((((fail_if_success k_end); (fail_if_success (with_reducible show wpAny _ _ (exec (Stmt.While _ _ _ _) _) _ _ _)); (fail_if_success (with_reducible show wpAny _ _ (exec (Stmt.For _ _ _ _ _) _) _ _ _)))); ((first | (((with_reducible show wpAny _ _ (exec _ _) _ _ _); (fail_if_success (refine aimed (by assumption) ?_)); refine aim (fun Qo hQo => ?_))) | walk1 | (dsimp only; walk1)))) | (first | (with_reducible refine Aim.use (by assumption) ?_) | (first | ((with_reducible show Frag.In _ _ ∧ _); refine ⟨by k_in, ?_⟩; try dsimp only [List.nil_append, List.cons_append]) | ((with_reducible show KswPost _ _ _ _ _ _ _ _ _ _ _ _ _ _); dsimp only [KswPost])))))
          exact ⟨rfl, _, _, _, rfl, by rw [← hL']; exact F34⟩

end

section
theorem post_true (args : List WData) : PySem.Challenge.rw_no0369_01.row.toRowW.claim.post args (.bool true) args = true := by
  refine postW_of (X := true) (by rfl) ?_ rfl
  show (WTm.eq WTm.res (WTm.lit (WData.bool true))).value _ _ = _
  simp [WTm.value, W.same]
theorem law_holds : PySem.Challenge.rw_no0369_01.Holds := TopL (by
  k_fill
  intro w s₀ s₁ mg mb G Y fa o pm cd doc dV kV ho hd hcd hD hmg hg args vals as hpre hlay hrd hwl hlo
  have KX := kIn_of Y
  have X := (Ground.X G).1
  have V := (Ground.X G).2
  refine Ground.open G ?_
  intro T B D TE TW
  wrow_args hpre hlay hrd hwl hlo
  rename IntsAre _ _ => hI
  rename Heap.IsList _ _ _ => hS
  rename ¬ (_ : Int) < (List.length _ : Nat) => hlen
  have e257 : mg (PySem.Str.ofString "law") = some (.ref 257) := mg_of KX T.g (by k_dflt k_is)
  obtain rfl : fa = 257 := by
    have h := hmg.symm.trans e257
    injection h with h
    injection h
  clear TE TW D X V G Y hd hcd hD ho hmg e257
  intro Γ p hΓ
  rw [wp_guarded]
  split
  · rename_i hst
    have calm : Calm Γ := by
      unfold okStack at hst
      rw [List.all_cons, Bool.and_eq_true] at hst
      exact hst
    refine Sem.wp_mono _ _ _ (fun _ _ _ h => h) (fun _ _ _ (h : False) => h.elim) _ _ ((?_ : wpC _ _ _ (fun v s' => _) _) Γ p hΓ calm)
    rename List Int => ns
    have hvl : ns.length ≤ 63 := by omega
    refine wpC_call (codeC_mono (con_law _ w _ _ _ hI hvl KX T hS (by decide) (by decide)) ?_)
    rintro fl s' ⟨rfl, h', tk', m, rfl, Fm⟩
    exact ⟨_, rfl, (goodW_bool (s' := { s₁ with heap := h', toks := tk' }) Fm hg (fun _ => rfl) (post_true _) rfl).toG⟩
  · exact GoodW.toG ⟨.inl ⟨_, .bool true, [], rfl, fun _ => rfl, .bool true, post_true _, unshared_nil⟩, fun _ _ h => h, rfl, hg⟩)

end
end Mine
end

theorem PySem.Challenge.cw_no0369_01_holds : PySem.Challenge.rw_no0369_01.Holds :=
  Mine.law_holds
