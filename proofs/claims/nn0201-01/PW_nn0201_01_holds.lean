import PyProof.Rows.All
import Wide.All
import OpenK.AllK
import Wide.FinOn
import PyProof.ListNew
import KE.BytesMake
import KE.KxBytes
import KE.KTryDeep
import PyProof.ExcClass3
import PyProof.ExcBaseAll.Exception
import KE.KCallBy
import KE.RegKTryMore
import KE.KTryDeepN
import KE.KBits
import KE.KBytesWalk
import KE.BitLaws
import OpenK.KInv2
import KE.KBytesAny
import KE.LcTurns
import PyProof.RangeFor
import PyProof.EnumMake
import PyProof.EnumFor
import PyProof.Rows.TupIter
import KE.KNestM
import PySem.Challenge.RW_nn0201_01
set_option Elab.async false
set_option compiler.extract_closed false
section -- Nu
namespace Mine
theorem n_add {p c : Int} (h : 0 ≤ p) (h' : 0 ≤ c) : (p + c).toNat = p.toNat + c.toNat := Int.toNat_add h h'
theorem n_min {p c : Int} {n : Nat} (h : 0 ≤ p) (h' : 0 ≤ c) (h2 : p + c ≤ n) : min (p + c).toNat n - p.toNat = c.toNat := by
  rw [n_add h h', Nat.min_eq_left (by omega), Nat.add_sub_cancel_left]
theorem n_64 {p c : Int} {n k : Nat} (h : 0 ≤ p) (h' : 0 ≤ c) (h2 : c < 20) : min (min (p + c).toNat n - p.toNat) k ≤ 64 := by
  rw [n_add h h']
  have h3 : c.toNat ≤ 64 := by omega
  exact Nat.le_trans (Nat.min_le_left _ _) (Nat.sub_le_iff_le_add'.mpr (Nat.le_trans (Nat.min_le_left _ _) (Nat.add_le_add_left h3 _)))
theorem n_len {r k : Nat} {a c p : Int} (z : r - p.toNat = c.toNat + 8 * (k - a.toNat)) (h0 : 0 ≤ a) (h1 : a ≤ k) (h2 : 0 ≤ c) (h3 : 0 ≤ p) (h4 : p ≤ r) : (r : Int) - p = c + 8 * ((k : Int) - a) := by
  obtain ⟨a, rfl⟩ := Int.eq_ofNat_of_zero_le h0
  obtain ⟨c, rfl⟩ := Int.eq_ofNat_of_zero_le h2
  obtain ⟨p, rfl⟩ := Int.eq_ofNat_of_zero_le h3
  simp only [Int.toNat_natCast] at z
  omega
theorem n_pl {r k : Nat} {a c p : Int} (h : r = 8 * k) (h' : (r : Int) - p = c + 8 * ((k : Int) - a)) : p + c = 8 * a := by omega
theorem n_8 {a : Int} (h : 0 ≤ a) : (8 * a).toNat = 8 * a.toNat := by omega
theorem n_up {u a b k l : Nat} (h : u + a < l) (e : b + k ≤ a) : u + b + k < l := Nat.lt_of_le_of_lt (Nat.add_assoc u b k ▸ Nat.add_le_add_left e u) h
theorem n_neg {b r : Nat} {c : Int} (h : 8 * (b : Int) + c = r) : -c % 8 = -(r : Int) % 8 := by omega
theorem n_i4 {i : Nat} (h : i < 4) : i = 0 ∨ i = 1 ∨ i = 2 ∨ i = 3 := by omega
theorem n_app {b b2 r : Nat} {c c2 k : Int} (h : 8 * (b : Int) + c = r) (h2 : 8 * (b2 : Int) + c2 = 8 * (b : Int) + c + k) (h0 : 0 ≤ k) : 8 * (b2 : Int) + c2 = ((r + k.toNat : Nat) : Int) := by omega
theorem n_pad {b b2 r : Nat} {c : Int} (h : 8 * (b : Int) + c = r) (h2 : 8 * (b2 : Int) = 8 * (b : Int) + c + -c % 8) : 8 * (b2 : Int) + 0 = ((r + (-(r : Int) % 8).toNat : Nat) : Int) := by omega
theorem n_pad8 {b b2 r k o : Nat} {c : Int} (h : 8 * (b : Int) + c = r) (ho : o = k) (h2 : 8 * (b2 : Int) = 8 * (b : Int) + c + -c % 8 + 8 * (o : Int)) : 8 * (b2 : Int) + 0 = ((r + (-(r : Int) % 8).toNat + 8 * k : Nat) : Int) := by omega
theorem n_grow {r i : Nat} {c : Int} (h : r ≤ 40 * i) (h2 : c < 18) : r + c.toNat ≤ 40 * (i + 1) := by omega
theorem n_bz {b r i : Nat} {c : Int} (h0 : 0 ≤ c) (h : 8 * (b : Int) + c = r) (h2 : r ≤ 40 * i) (h3 : i ≤ 25) : b ≤ 100000 := by omega
end Mine
end
section -- Lg
open PySem PySem.W PyProof.Rows PySem.Calls
set_option maxRecDepth 100000
set_option maxHeartbeats 4000000
namespace Mine
open Sem (wp)

/- The stacks that bear no builtin that holds a bytearray. -/
def exIds : List String := ["bytearray.__contains__", "bytearray.__mod__", "bytearray.__rmod__", "_struct.pack_into.held", "bytearray.find.held"] ++ Builtin.Bytes.decodersThatHold
def okC : Code → Bool
  | .builtin id _ => !exIds.contains id
  | _ => true
def OkB (l : List (Code × Pos)) : Prop := ∀ x ∈ l, okC x.1 = true
def OkG (Γ : Ctx) : Prop := okC Γ.code = true ∧ OkB Γ.below

/- «wpM false» is wpAny; «wpM true» speaks of the narrower stacks alone. -/
def wpM (b : Bool) {α : Type} (M : Model) (A : Around) (t : Sem α) (Q : α → Shared → Prop) (E : Value → Shared → Prop) (s : Shared) : Prop :=
  ∀ Γ p, Γ.In A → (b = true → OkG Γ) → wp M Γ t (fun a _ s' => Q a s') (fun e _ s' => E e s') p s
def codeM (b : Bool) (M : Model) (A : Around) (c : Code) (R : Result → Shared → Prop) (s : Shared) : Prop :=
  ∀ Γ p, Γ.code = c → Γ.Below A → (b = true → OkB Γ.below) → wpCode M Γ R p s
abbrev wpR {α : Type} (M : Model) (A : Around) (t : Sem α) (Q : α → Shared → Prop) (E : Value → Shared → Prop) (s : Shared) : Prop := wpM true M A t Q E s
abbrev codeR (M : Model) (A : Around) (c : Code) (R : Result → Shared → Prop) (s : Shared) : Prop := codeM true M A c R s

section
variable {α β : Type} {b : Bool} {M : Model} {A : Around} {E : Value → Shared → Prop} {s : Shared}
theorem wpR_any {t : Sem α} {Q : α → Shared → Prop} (h : wpAny M A t Q E s) : wpM b M A t Q E s := fun Γ p hΓ _ => h Γ p hΓ
theorem codeR_any {c : Code} {R : Result → Shared → Prop} (h : codeAny M A c R s) : codeM b M A c R s := fun Γ p hc hΓ _ => h Γ p hc hΓ
theorem wpR_mono {t : Sem α} {Q Q' : α → Shared → Prop} {E' : Value → Shared → Prop} (h : wpM b M A t Q E s)
    (hQ : ∀ a s, Q a s → Q' a s) (hE : ∀ e s, E e s → E' e s) : wpM b M A t Q' E' s :=
  fun Γ p hΓ ho => Sem.wp_mono M Γ t (fun a _ s => hQ a s) (fun e _ s => hE e s) p s (h Γ p hΓ ho)
theorem wpR_bind {m : Sem α} {f : α → Sem β} {Q : β → Shared → Prop} (h : wpM b M A m (fun a s' => wpM b M A (f a) Q E s') E s) :
    wpM b M A (m >>= f) Q E s := fun Γ p hΓ ho => by
  rw [Sem.wp_bind']
  exact Sem.wp_mono M Γ m (fun a p' s' h' => h' Γ p' hΓ ho) (fun _ _ _ h' => h') p s (h Γ p hΓ ho)
theorem wpR_lead {m : Sem α} {f : α → Sem β} {Q : β → Shared → Prop} (h : wpAny M A m (fun a s' => wpM b M A (f a) Q E s') E s) :
    wpM b M A (m >>= f) Q E s := wpR_bind (wpR_any h)
theorem wpR_pure {a : α} {Q : α → Shared → Prop} (h : Q a s) : wpM b M A (pure a) Q E s := fun _ _ _ _ => h
theorem wpR_onRaise {m : Sem α} {k : Value → Sem Unit} {Q : α → Shared → Prop}
    (h : wpM b M A m Q (fun e s' => wpM b M A (k e) (fun _ s'' => E e s'') E s') s) : wpM b M A (m.onRaise k) Q E s := fun Γ p hΓ ho => by
  rw [Sem.wp_onRaise]
  exact Sem.wp_mono M Γ m (fun _ _ _ h' => h') (fun e p' s' h' => h' Γ p' hΓ ho) p s (h Γ p hΓ ho)
theorem wpR_holding {vs : List Value} {m : Sem α} {Q : α → Shared → Prop} (h : wpM b M A m Q E s) : wpM b M A (holding vs m) Q E s :=
  fun Γ p hΓ ho => by rw [Sem.wp_holding]; exact h Γ p hΓ ho
theorem wpR_at {f : Unit → Sem α} {pos : Pos} {Q : α → Shared → Prop} (h : wpM b M A (f ()) Q E s) : wpM b M A (standAt pos >>= f) Q E s :=
  wpR_bind (wpR_any (wpAny_standAt h))
theorem wpR_run {c : Code} {h : Option Value} {Q : Flow → Shared → Prop}
    (hc : codeM b M (A.mark h) c (fun r s' => match r with | .ok f => Q f s' | .error e => E e s') s) (hnb : h ≠ some byPass := by intro x; cases x) :
    wpM b M A (run c h) Q E s :=
  fun Γ p hΓ ho => by
    rw [Sem.wp_run]
    exact hc _ p rfl (hΓ.enter c h p hnb) (fun hb x hx => by
      rcases List.mem_cons.mp hx with rfl | hx
      · exact (ho hb).1
      · exact (ho hb).2 x hx)
theorem wpR_runValue {c : Code} {Q : Value → Shared → Prop}
    (hc : codeM b M A c (fun r s' => match r with | .ok (.ret v) => Q v s' | .ok _ => False | .error e => E e s') s) :
    wpM b M A (runValue c) Q E s := fun Γ p hΓ ho => by
  rw [Sem.wp_runValue]
  exact hc _ p rfl (hΓ.enter c none p (by intro x; cases x)) (fun hb x hx => by
    rcases List.mem_cons.mp hx with rfl | hx
    · exact (ho hb).1
    · exact (ho hb).2 x hx)
theorem wpR_call {f : Value} {pos : List Value} {kw : List (Str × Value)} {Q : Value → Shared → Prop}
    (hc : codeM b M A (.call f ⟨pos, kw⟩) (fun r s' => match r with | .ok (.ret v) => Q v s' | .ok _ => False | .error e => E e s') s) :
    wpM b M A (call f pos kw) Q E s := wpR_runValue hc
theorem codeR_tree {c : Code} {R : Result → Shared → Prop} (hok : okC c = true)
    (h : wpM b M (A.under c) (M.den c) (fun fin s' => match fin with | .done f => R (.ok f) s' | .again c' => c'.quiet = true ∧ codeM b M A c' R s')
      (fun e s' => R (.error e) s') s) : codeM b M A c R s := fun Γ p hc hΓ ho => by
  rw [wpCode_iff_wp, hc]
  refine Sem.wp_mono M Γ _ (fun fin p' s' h' => ?_) (fun _ _ _ h' => h') p s (h Γ p (hc ▸ hΓ.in) fun hb => ⟨hc ▸ hok, ho hb⟩)
  cases fin with
  | done f => exact h'
  | again c' => exact ⟨h'.1, h'.2 (Γ.goto c') p' rfl (hΓ.goto c') ho⟩
theorem codeR_mono {c : Code} {R R' : Result → Shared → Prop} (h : codeM b M A c R s) (hR : ∀ r s, R r s → R' r s) : codeM b M A c R' s :=
  fun Γ p hc hΓ ho => wpCode_mono hR (h Γ p hc hΓ ho)
theorem codeR_loop {c : Code} {R : Result → Shared → Prop} (hok : okC c = true) (hq : c.quiet = true) (I : Nat → Shared → Prop)
    (turn : ∀ n s, I n s → wpM b M (A.under c) (M.den c)
      (fun fin s' => match fin with | .done f => R (.ok f) s' | .again c' => (c' = c ∧ ∃ m, m < n ∧ I m s') ∨ (c'.quiet = true ∧ codeM b M A c' R s')) (fun e s' => R (.error e) s') s)
    (n : Nat) (h : I n s) : codeM b M A c R s := by
  induction n using Nat.strongRecOn generalizing s with
  | ind n ih =>
    refine codeR_tree hok (wpR_mono (turn n s h) (fun fin s' hf => ?_) fun _ _ h' => h')
    cases fin with
    | done f => exact hf
    | again c' =>
      rcases hf with ⟨rfl, m, hm, hI⟩ | hf
      · exact ⟨hq, ih m hm hI⟩
      · exact hf

theorem any_of_M {t : Sem α} {Q : α → Shared → Prop} (h : wpM false M A t Q E s) : wpAny M A t Q E s := fun Γ p hΓ => h Γ p hΓ fun hb => nomatch hb
theorem code_of_M {c : Code} {R : Result → Shared → Prop} (h : codeM false M A c R s) : codeAny M A c R s := fun Γ p hc hΓ => h Γ p hc hΓ fun hb => nomatch hb
theorem R_of_M {t : Sem α} {Q : α → Shared → Prop} (h : ∀ b, wpM b M A t Q E s) : wpR M A t Q E s := h true
end
section
variable {α β : Type} {M : Model} {A : Around} {E : Value → Shared → Prop} {s : Shared}

/- what a bytearray's change asks of the stack -/
theorem wpR_stackAny {f : Code × Pos → Bool} {Q : Bool → Shared → Prop} (hf : ∀ x, okC x.1 = true → f x = false) (h : Q false s) :
    wpR M A (do return (← stack).any f) Q E s := fun Γ p _ ho => by
  show Q (((Γ.code, p) :: Γ.below).any f) s
  have e : ((Γ.code, p) :: Γ.below).any f = false := by
    rw [List.any_eq_false]
    intro x hx
    rcases List.mem_cons.mp hx with rfl | hx
    · rw [hf _ (ho rfl).1]; simp
    · rw [hf _ ((ho rfl).2 x hx)]; simp
  rw [e]; exact h
theorem exported_false {self : Value} {Q : Bool → Shared → Prop} (h : Q false s) : wpR M A (Builtin.Bytes.exported self) Q E s := by
  unfold Builtin.Bytes.exported
  refine wpR_stackAny (fun x hx => ?_) h
  obtain ⟨c, p⟩ := x
  dsimp only at hx
  cases c
  case builtin id args =>
    have no : ∀ i, exIds.contains i = true → id ≠ i := fun i h1 e => by
      subst e
      have h3 : (!exIds.contains id) = true := hx
      rw [h1] at h3; cases h3
    obtain ⟨pos, kw⟩ := args
    have n1 := no "bytearray.__contains__" (by decide +kernel)
    have n2 := no "bytearray.__mod__" (by decide +kernel)
    have n3 := no "bytearray.__rmod__" (by decide +kernel)
    have n4 := no "_struct.pack_into.held" (by decide +kernel)
    have n5 := no "bytearray.find.held" (by decide +kernel)
    delta Builtin.Bytes.exported.match_1 Builtin.Bytes.exported._sparseCasesOn_1
    dsimp only
    rw [dif_neg n1, dif_neg n2, dif_neg n3, dif_neg n4, dif_neg n5]
    cases pos with
    | nil => rfl
    | cons v r =>
      show (Builtin.Bytes.sameRef v self && Builtin.Bytes.decodersThatHold.contains id) = false
      cases hd : Builtin.Bytes.decodersThatHold.contains id with
      | false => rw [Bool.and_false]
      | true =>
        refine absurd rfl (no id ?_)
        unfold exIds
        rw [List.contains_eq_mem, decide_eq_true_eq, List.mem_append]
        exact .inr (by simpa using hd)
  all_goals rfl

theorem checkResize_R {a : Addr} {o : Obj} {b : Array UInt8} {Q : Unit → Shared → Prop} (ho : s.heap.get? a = some o) (hd : o.data = .bytearray b 0) (h : Q () s) :
    wpR M A (Builtin.Bytes.checkResize (.ref a)) Q E s := by
  unfold Builtin.Bytes.checkResize
  refine wpR_bind (wpR_bind (exported_false ?_))
  refine wpR_lead (wpAny_bind (wpAny_load ho ?_))
  rw [hd]
  exact wpAny_pure (wpR_pure (wpR_pure h))
theorem write_R {a : Addr} {o : Obj} {b : Array UInt8} {f : Array UInt8 → Array UInt8} {Q : Unit → Shared → Prop} (ho : s.heap.get? a = some o) (hd : o = { cls := .type "bytearray", data := .bytearray b 0 })
    (hz : (f b).size ≤ sizeLine)
    (h : ∀ h', Heap.SameBut a s.heap h' → h'.get? a = some { cls := .type "bytearray", data := .bytearray (f b) 0 } → Q () { s with heap := h' }) : wpAny M A (Builtin.Bytes.write (.ref a) f) Q E s := by
  subst hd
  unfold Builtin.Bytes.write updateBytearray
  have e : (s.heap.update a (Obj.mapBytearray f)).get? a = some { cls := .type "bytearray", data := .bytearray (f b) 0 } := Heap.get?_update_self (Obj.mapBytearray f) ho rfl
  refine wpAny_bind (wpAny_load ho ?_)
  refine wpAny_bind (wpAny_update ho ?_)
  refine wpAny_lookBehind e ?_ (h _ (Heap.SameBut.update ..) e)
  show (if (f b).size > sizeLine then some "bytearray:memory" else none) = none
  rw [if_neg (Nat.not_lt.mpr hz)]
end
end Mine
end
section -- Hr
open PySem PySem.W PyProof.Rows PySem.Calls
set_option maxRecDepth 100000
set_option maxHeartbeats 4000000
namespace Mine
open Sem (wp)

/- A run's end, of a walk over the narrower stacks. -/
theorem callerOk : OkG ⟨.builtin "claim.caller" {}, none, none, [], none⟩ := ⟨by decide +kernel, fun x hx => nomatch hx⟩
theorem wp_of_R {M : Model} {t : Sem Fin} {R : Result → Shared → Prop} {s : Shared}
    (h : wpR M callerA t (fun fin s' => ∃ f, fin = .done f ∧ R (.ok f) s') (fun e s' => R (.error e) s') s) (p : Pos) :
    wp M ⟨.builtin "claim.caller" {}, none, none, [], none⟩ t (Sem.finPost M ⟨.builtin "claim.caller" {}, none, none, [], none⟩ R) (fun e _ s' => R (.error e) s') p s := by
  refine Sem.wp_mono M _ t (fun fin p' s' h' => ?_) (fun _ _ _ h' => h') p s (h _ p caller_in fun _ => callerOk)
  obtain ⟨f, rfl, hf⟩ := h'
  exact hf
theorem thread_R {prog : Program} {w : World} {t : Sem Fin} {s : Shared} {R : Result → Shared → Prop} (hreg : s.asleep)
    (h : wpR (model prog w) callerA t (fun fin s' => ∃ f, fin = .done f ∧ (R (.ok f) s' ∧ leftWithCleanup s'.gens = false)) (fun e s' => R (.error e) s' ∧ leftWithCleanup s'.gens = false) s) :
    ∃ n r s' s'', runN (denote table) prog w n s ⟨t, .builtin "claim.caller" {}, default, []⟩ = .halted (outcomeOf r) s' ∧
      schedN (denote table) prog w n (.single s ⟨t, .builtin "claim.caller" {}, default, []⟩) = .halted (outcomeOf r) s' ∧ s'.forget = s''.forget ∧ R r s'' := by
  obtain ⟨n, r, s₁, s₂, hs, hn, hfo, hR⟩ := wp_halts_full (M := model prog w) (R := R) hreg (wp_of_R (R := fun r s' => R r s' ∧ leftWithCleanup s'.gens = false) h default)
  exact ⟨n, r, s₂, s₁, hn, hs, hfo, hR⟩

/- What the call has to do, said of the narrower stacks. -/
abbrev WalkR (q : Program) (loose : List PySem.Str) (XP : (PySem.Str → Option Value) → Heap → Prop) (YP : World → Heap → Prop) (r : RowW) (d : DefRec) (kwd : List (PySem.Str × Expr)) : Prop :=
  ∀ (w : World) (s₀ s₁ : Shared) (mg mb : PySem.Str → Option Value), Ground q loose r.records XP w s₀ mg mb s₁.heap → YP w s₁.heap → ∀ (a : Addr) (o : Obj) (pm cd doc dV kV : Value), s₁.heap.get? a = some o →
    o.data = .func { docDef d.name d.params d.body d.scope pm cd doc with defaults := dV, kwdefaults := kV } → s₁.heap.CodeRec cd d.name → Dflts mg s₁.heap d.params kwd dV kV → mg d.name = some (.ref a) → s₁.gens = #[] →
    ∀ (args : List WData) (vals : List Value) (as : List Addr), r.claim.pre args = true → WData.layableAll args = true → ReadsAllW r.records (classAt s₀.heap) s₁.heap vals args as → WellAll w.params s₁.heap vals args → (∀ a ∈ as, (a == sysModules) = false) →
      wpR (model r.prog w) callerA (PySem.call (.ref a) vals) (fun v s' => GoodWG r.claim (classAt s₀.heap) (ExcName.means s₀.heap) args s₁ (.ok (.ret v)) s')
        (fun e s' => GoodWG r.claim (classAt s₀.heap) (ExcName.means s₀.heap) args s₁ (.error e) s') s₁

theorem ends_R {r : OpenRow} {q : Program} {loose : List PySem.Str} {Xt : Shared → Bool} {XP : (PySem.Str → Option Value) → Heap → Prop} {α : Type} {Yf : Shared → α} {Ya : World → α} {YP : World → Heap → Prop} {d : DefRec} {kwd : List (PySem.Str × Expr)} {N : Nat}
    (left : LeftO r.prog q loose Xt Yf Ya N) (hY : ∀ w s, Yf s = Ya w → YP w s.heap) (hYk : ∀ w h h', YP w h → (∀ b o, h.get? b = some o → h'.get? b = some o) → YP w h')
    (hX : ∀ s, Xt s = true → XP (s.heap.nsMap mainGlobals) s.heap) (hXk : ∀ mg h h', XP mg h → (∀ b o, h.get? b = some o → h'.get? b = some o) → XP mg h')
    (hdef : defOf q r.name = some (d, kwd)) (hp : r.prog.theDef r.name = some (d.params, d.body, d.scope)) (hk : kwWritten? d.params.kwonlyargs d.params.kw_defaults = some kwd) (hRf : ∀ s, Xt s = true → RecFacts r.records s.heap) (hwr : (!r.writes || r.records.isEmpty) = true)
    (k1 : r.wellSaid = true) (ok : (chainsOk q && opensWell r.prog && (frees r.toRowW && r.within.isEmpty)) = true) (hb : r.prog.bare) (hw : r.toRowW.promised)
    (call : WalkR q loose XP YP r.toRowW d kwd) : r.Holds := by
  obtain ⟨ok, k5⟩ := Bool.and_eq_true_iff.mp ok
  obtain ⟨hch, o1⟩ := Bool.and_eq_true_iff.mp ok
  obtain ⟨k5, k6⟩ := Bool.and_eq_true_iff.mp k5
  obtain ⟨hsame, hu, ha, hap, hm⟩ := frees_parts k5
  refine ⟨k1, hw, ⟨hb, o1, by show r.toRowW.makers.map _ = []; rw [hm]; rfl⟩, hw.witness, fun w => ⟨(left.behind hX hch w).1, fun s' hs' => ?_⟩⟩
  obtain ⟨s₀, hf, hg0, s, hT, hz, hgens, hg, G00, y⟩ := (left.behind (XP := fun mg h => XP mg h ∧ RecFacts r.records h) (fun s hs => ⟨hX s hs, hRf s hs⟩) hch w).2 s' hs'
  have G0 : Ground q loose [] XP w s (s.heap.nsMap mainGlobals) (s.heap.nsMap builtinsNs) s.heap := ⟨G00.T, G00.B, G00.D, G00.TE, G00.TD, G00.W, G00.X.1, G00.cls, G00.has, G00.apart, G00.once, G00.K⟩
  have RF := G00.X.2
  have hgens : s.gens = #[] := Array.eq_empty_of_size_eq_zero (beq_iff_eq.mp hgens)
  have G : Ground q loose r.records XP w s _ _ s.heap := RF.ground G0
  refine ⟨s₀, hf, hg0, s, hT, fun n hn => ?_, RF.1, RF.2.1, fun args hpre hlay ord hord => ?_⟩
  · obtain rfl : n = r.name := by split at hn <;> simp_all
    exact pinned_of_view hg G0 hdef hp hk
  obtain ⟨⟨vs, s₁⟩, hlaid⟩ := Option.isSome_iff_exists.mp (layAllW_isSome (P := w.params) (ord := ord) G.has args r.args s (pre_splitW hpre).1)
  have keeps := layAllW_keeps _ _ _ hlaid
  have hal := layAllW_rest _ _ _ hlaid
  obtain ⟨as, hrd, hin, hold⟩ := reads_layAllW hord _ _ _ hlaid hlay s₁.heap (fun _ _ e => e)
  have LD : Laid r.records w s s₁ args vs as := ⟨⟨ord, hord, hlaid⟩, hrd, hin, hold, keeps, hal.1.trans hgens, hal.2.2.1⟩
  have G₁ := G.keeps hXk keeps
  obtain ⟨a, o, pm, cd, doc, dV, kV, h1, h2, h3, h4, h5⟩ := G₁.fn hdef
  have hwalk := call w s s₁ _ _ G₁ (hYk _ _ _ (hY w s y) keeps) a o pm cd doc dV kV h2 h3 h4 h5 (defOf_name hdef ▸ h1) LD.gens args vs as hpre hlay LD.reads LD.well (LD.low G.low)
  have hi := ident_freeW hu ha hap
  have hwi : r.claim.within = [] := List.isEmpty_iff.mp k6
  obtain ⟨k, res, s₂, s₃, hrun, hsched, hfo, hcase, hos, hkp⟩ := thread_R (prog := r.prog) (w := w) (s := s₁)
    (t := do match ← nsGet mainNs r.name with
      | some f => do ret (← PySem.call f vs)
      | none => unsupported "claim.caller:no-such-global")
    (R := fun res s' => r.claim.Ends s args vs s₁ res s' ∧ s'.os = s.os ∧ (r.writes = true → namesKept r.prog r.keeps s.heap s'.heap ∧ ∀ x ∈ r.claim.records, ∀ a, classAt s.heap x.1 = some a → recordClass s'.heap a x.1 (x.2.map (·.1)) = true))
    (Shared.asleep_of_life hal.2.2.2 hz)
    (wpR_lead (wpAny_nsGet G₁.T.g (by
      rw [h1]
      refine wpR_bind (wpR_mono hwalk (fun v s' g => wpR_pure ⟨_, rfl, ?_⟩) fun e s' g => ?_)
      · have z := g.laid (c := r.claim) hsame hwi hi LD
        exact ⟨⟨z.1, z.2.1, fun q => ⟨namesKept_of hT hg r.keeps keeps g.2.1.old, noTable hwr q⟩⟩, leftWithCleanup_false_of_bare z.2.2⟩
      · have z := g.laid (c := r.claim) hsame hwi hi LD
        exact ⟨⟨z.1, z.2.1, fun q => ⟨namesKept_of hT hg r.keeps keeps g.2.1.old, noTable hwr q⟩⟩, leftWithCleanup_false_of_bare z.2.2⟩)))
  obtain ⟨eh, _, _, eo, _⟩ := Shared.forget_eq hfo
  have hcase := hcase.congr eh
  rw [← eh] at hkp
  rw [← eo] at hos
  have hlife : s₂.heap.life = s.heap.life := (runN_life _ _ _ hrun).trans hal.2.2.2
  refine ⟨vs, s₁, hlaid, k, _, s₂, hsched, ?_, (fun _ i x hx => by rw [hgens] at hx; simp at hx), hkp, by rw [hlife], Shared.rest_eq hos⟩
  rcases hcase with ⟨v, rfl, d1, d2, d3, d4, d5⟩ | ⟨e, ob, cls, rfl, d1, d2, d3, d4, d5⟩
  · exact .inl ⟨v, rfl, d1, d2, d3, fun b o y _ => d4 b o y, d5⟩
  · exact .inr ⟨e, ob, cls, rfl, d1, d2, d3, d4, fun b o y _ => d5 b o y⟩
end Mine
end
section -- Hp
open PySem PySem.W PyProof.Rows
set_option maxRecDepth 100000
set_option linter.unusedVariables false
set_option maxHeartbeats 8000000
namespace Mine
def qv : Program := { PySem.Challenge.pw_nn0201_01 with main := { PySem.Challenge.pw_nn0201_01.main with body := ((PySem.Challenge.pw_nn0201_01.main.body.eraseIdx 15).eraseIdx 4).eraseIdx 1 } }
/- The top's run in pieces: the states between them are printed (wip/gen/mkhp.py). -/
noncomputable abbrev zP : Program := RowW.prog (OpenRow.toRowW (OpenLaw.row Challenge.rw_nn0201_01))
noncomputable def zS (s : String) : PySem.Str := PySem.Str.ofString s
noncomputable def zst (i : Nat) : Stmt := Challenge.pw_nn0201_01.main.body.getD i (.Pass ⟨0, 0, 0, 0⟩)
noncomputable def zfA : Stmt → Arguments
  | .FunctionDef _ a _ _ _ _ _ _ _ _ => a
  | _ => ⟨[], [], none, [], [], none, []⟩
noncomputable def zfB : Stmt → List Stmt
  | .FunctionDef _ _ b _ _ _ _ _ _ _ => b
  | .ClassDef _ _ _ b _ _ _ _ _ _ _ => b
  | _ => []
noncomputable def zfS : Stmt → Scope
  | .FunctionDef _ _ _ _ _ _ s _ _ _ => s
  | .ClassDef _ _ _ _ _ _ s _ _ _ _ => s
  | _ => ⟨.function, [], false, false, []⟩
noncomputable def zm (i j : Nat) : Stmt := (zfB (zst i)).getD j (.Pass ⟨0, 0, 0, 0⟩)
noncomputable def zO (c : Value) (d : Data) : Obj := ⟨c, none, d, #[]⟩
noncomputable def zE (P : Params) (k : String) (t : Tok) (v : Value) : DictEntry := ⟨PyData.keyHash P (PySem.Str.ofString k), .str (PySem.Str.ofString k) t, v⟩
noncomputable abbrev zZ : BT := .nil
noncomputable abbrev zN (o : Obj) (a b : BT) : BT := .node o a b
noncomputable abbrev zL (o : Obj) : BT := .node o .nil .nil
noncomputable def zLife : Life := ⟨[], [], [], 0, [], [], false, #[], [], 0, false, false, false, 0, [2000, 10, 10], false, 0, true, [], [], 0, false⟩
noncomputable def hp_o_43 (x0 : Params) : Obj := (zO (.type "tuple") (.seq #[] 0))
noncomputable def hp_o_44 (x0 : Params) : Obj := (zO Value.none (.fields #[]))
noncomputable def hp_o_45 (x0 : Params) : Obj := (zO (.type "code") (.fields #[(.str (zS "<module>") 182), (.str (zS "<module>") 183), (.str (zS "/claim/cut.py") 184), (.int 1 0), (.int 0 0), (.int 0 0), (.int 0 0), (.int 0 0), (.ref 11), (.bool false), (.int 181 0), (.ref 12), Value.none, Value.none, Value.none, Value.none, (.int 185 0), (.int 1 0), (.str (zS "/claim/cut.py") 186)]))
noncomputable def hp_o_46 (x0 : Params) : Obj := (PySem.Obj.mk (.type "frame") none PySem.Data.plain #[(some (.ref 13)), (some (.ref 3)), (some (.ref 3)), none, (some (.str (zS "__main__") 164)), none, (some (.ref 0))])
noncomputable def hp_o_49 (x0 : Params) : Obj := (zO Value.none (.dict #[(zE x0 "type.__subclasses__.Exception.0" 232 (.int 46 0)), (zE x0 "type.__subclasses__.Exception.n" 233 (.int 1 0))] 2))
noncomputable def hp_o_50 (x0 : Params) : Obj := (zO (.type "dict") (.dict #[(zE x0 "__name__" 165 (.str (zS "paperhold.errors") 194)), (zE x0 "__doc__" 166 Value.none), (zE x0 "__package__" 167 Value.none), (zE x0 "__loader__" 168 (.builtin "__main__.__loader__#opaque")), (zE x0 "__spec__" 169 Value.none), (zE x0 "__annotations__" 170 (.ref 6)), (zE x0 "__builtins__" 171 (.ref 4)), (zE x0 "__file__" 173 (.str (zS "/claim/cut.py") 172)), (zE x0 "__cached__" 174 Value.none), (zE x0 "_wall" 193 (.ref 21)), (zE x0 "PaperError" 235 (.ref 46))] 11))
noncomputable def hp_o_51 (x0 : Params) : Obj := (zO Value.none (.fields #[(.int 1 0), (.int 0 0), (.ref 20), (.int 5 0), (.int 0 0), (.ref 27)]))
noncomputable def hp_o_52 (x0 : Params) : Obj := (zO (.type "tuple") (.seq #[] 0))
noncomputable def hp_o_53 (x0 : Params) : Obj := (zO Value.none (.fields #[]))
noncomputable def hp_o_54 (x0 : Params) : Obj := (zO (.type "tuple") (.seq #[(.str (zS "k") 190)] 0))
noncomputable def hp_o_55 (x0 : Params) : Obj := (zO (.type "tuple") (.seq #[] 0))
noncomputable def hp_o_56 (x0 : Params) : Obj := (zO Value.none (.func (FuncData.mk (zS "_wall") (zS "_wall") (zfA (zst 0)) (FuncBody.stmts (zfB (zst 0))) (zfS (zst 0)) 0 [] Value.none Value.none Value.none Value.none none Value.none Value.none 0)))
noncomputable def hp_o_57 (x0 : Params) : Obj := (zO (.type "code") (.fields #[(.str (zS "_wall") 187), (.str (zS "_wall") 188), (.str (zS "/claim/cut.py") 189), (.int 1 0), (.int 1 0), (.int 0 0), (.int 0 0), (.int 3 0), (.ref 15), (.bool true), (.int 181 0), (.ref 16), Value.none, (.ref 17), (.ref 18), (.ref 19), (.int 191 0), (.int 1 0), (.str (zS "/claim/cut.py") 192)]))
noncomputable def hp_o_58 (x0 : Params) : Obj := (zO (.type "function") (.func (FuncData.mk (zS "_wall") (zS "_wall") (zfA (zst 0)) (FuncBody.stmts (zfB (zst 0))) (zfS (zst 0)) 3 [] Value.none Value.none Value.none (.str (zS "__main__") 164) none (.ref 20) Value.none 0)))
noncomputable def hp_o_59 (x0 : Params) : Obj := (zO (.type "tuple") (.seq #[(.type "Exception")] 0))
noncomputable def hp_o_60 (x0 : Params) : Obj := (zO (.type "builtin_function_or_method") (.fields #[(.builtin "type.__prepare__"), (.type "type")]))
noncomputable def hp_o_61 (x0 : Params) : Obj := (zO (.type "dict") (.dict #[(zE x0 "__module__" 203 (.str (zS "paperhold.errors") 194)), (zE x0 "__qualname__" 205 (.str (zS "PaperError") 204)), (zE x0 "__firstlineno__" 207 (.int 5 206)), (zE x0 "__init__" 218 (.ref 36)), (zE x0 "told" 225 (.ref 43)), (zE x0 "__static_attributes__" 228 (.ref 44))] 6))
noncomputable def hp_o_62 (x0 : Params) : Obj := (zO (.type "tuple") (.seq #[] 0))
noncomputable def hp_o_63 (x0 : Params) : Obj := (zO Value.none (.fields #[(.int 7 0), (.int 4 0), (.ref 35), (.int 12 0), (.int 4 0), (.ref 42)]))
noncomputable def hp_o_64 (x0 : Params) : Obj := (zO (.type "code") (.fields #[(.str (zS "PaperError") 198), (.str (zS "PaperError") 199), (.str (zS "/claim/cut.py") 200), (.int 5 0), (.int 0 0), (.int 0 0), (.int 0 0), (.int 0 0), (.ref 25), (.bool false), (.int 181 0), (.ref 26), Value.none, Value.none, Value.none, Value.none, (.int 201 0), (.int 5 0), (.str (zS "/claim/cut.py") 202)]))
noncomputable def hp_o_65 (x0 : Params) : Obj := (PySem.Obj.mk (.type "frame") none PySem.Data.plain #[(some (.ref 27)), (some (.ref 3)), (some (.ref 24)), none, (some (.str (zS "paperhold.errors") 194)), none, (some (.ref 0))])
noncomputable def hp_o_66 (x0 : Params) : Obj := (zO (.type "tuple") (.seq #[(.int (@Neg.neg.{0} Int Int.instNegInt 1) 209)] 0))
noncomputable def hp_o_67 (x0 : Params) : Obj := (zO (.type "tuple") (.seq #[] 0))
noncomputable def hp_o_68 (x0 : Params) : Obj := (zO Value.none (.fields #[]))
noncomputable def hp_o_69 (x0 : Params) : Obj := (zO (.type "tuple") (.seq #[(.str (zS "self") 213), (.str (zS "what") 214), (.str (zS "at") 215)] 0))
noncomputable def hp_o_70 (x0 : Params) : Obj := (zO (.type "tuple") (.seq #[] 0))
noncomputable def hp_o_71 (x0 : Params) : Obj := (zO Value.none (.func (FuncData.mk (zS "__init__") (zS "PaperError.__init__") (zfA (zm 2 0)) (FuncBody.stmts (zfB (zm 2 0))) (zfS (zm 2 0)) 0 [] Value.none Value.none Value.none Value.none none Value.none Value.none 0)))
noncomputable def hp_o_72 (x0 : Params) : Obj := (zO (.type "code") (.fields #[(.str (zS "__init__") 210), (.str (zS "PaperError.__init__") 211), (.str (zS "/claim/cut.py") 212), (.int 7 0), (.int 3 0), (.int 0 0), (.int 0 0), (.int 3 0), (.ref 30), (.bool true), (.int 181 0), (.ref 31), Value.none, (.ref 32), (.ref 33), (.ref 34), (.int 216 0), (.int 7 0), (.str (zS "/claim/cut.py") 217)]))
noncomputable def hp_o_73 (x0 : Params) : Obj := (zO (.type "function") (.func (FuncData.mk (zS "__init__") (zS "PaperError.__init__") (zfA (zm 2 0)) (FuncBody.stmts (zfB (zm 2 0))) (zfS (zm 2 0)) 3 [] (.ref 29) Value.none Value.none (.str (zS "paperhold.errors") 194) none (.ref 35) Value.none 0)))
noncomputable def hp_o_74 (x0 : Params) : Obj := (zO (.type "tuple") (.seq #[] 0))
noncomputable def hp_o_75 (x0 : Params) : Obj := (zO Value.none (.fields #[]))
noncomputable def hp_o_76 (x0 : Params) : Obj := (zO (.type "tuple") (.seq #[(.str (zS "self") 222)] 0))
noncomputable def hp_o_77 (x0 : Params) : Obj := (zO (.type "tuple") (.seq #[] 0))
noncomputable def hp_o_78 (x0 : Params) : Obj := (zO Value.none (.func (FuncData.mk (zS "told") (zS "PaperError.told") (zfA (zm 2 1)) (FuncBody.stmts (zfB (zm 2 1))) (zfS (zm 2 1)) 0 [] Value.none Value.none Value.none Value.none none Value.none Value.none 0)))
noncomputable def hp_o_79 (x0 : Params) : Obj := (zO (.type "code") (.fields #[(.str (zS "told") 219), (.str (zS "PaperError.told") 220), (.str (zS "/claim/cut.py") 221), (.int 12 0), (.int 1 0), (.int 0 0), (.int 0 0), (.int 3 0), (.ref 37), (.bool true), (.int 181 0), (.ref 38), Value.none, (.ref 39), (.ref 40), (.ref 41), (.int 223 0), (.int 12 0), (.str (zS "/claim/cut.py") 224)]))
noncomputable def hp_o_80 (x0 : Params) : Obj := (zO (.type "function") (.func (FuncData.mk (zS "told") (zS "PaperError.told") (zfA (zm 2 1)) (FuncBody.stmts (zfB (zm 2 1))) (zfS (zm 2 1)) 3 [] Value.none Value.none Value.none (.str (zS "paperhold.errors") 194) none (.ref 42) Value.none 0)))
noncomputable def hp_o_81 (x0 : Params) : Obj := (zO (.type "tuple") (.seq #[(.str (zS "at") 226), (.str (zS "what") 227)] 0))
noncomputable def hp_o_82 (x0 : Params) : Obj := (zO (.type "dict") (.dict #[(zE x0 "__module__" 203 (.str (zS "paperhold.errors") 194)), (zE x0 "__firstlineno__" 207 (.int 5 206)), (zE x0 "__init__" 218 (.ref 36)), (zE x0 "told" 225 (.ref 43)), (zE x0 "__static_attributes__" 228 (.ref 44)), (zE x0 "__weakref__" 230 (.ref 47)), (zE x0 "__doc__" 231 Value.none)] 3))
noncomputable def hp_o_83 (x0 : Params) : Obj := (PySem.Obj.mk (.type "type") none (.cls (PySem.ClassData.mk (zS "PaperError") [(.type "Exception")] [(.ref 46), (.type "Exception"), (.type "BaseException"), (.type "object")] 45 (zS "PaperError") true [] [] false none false)) #[(some (.ref 22)), none, (some (.str (zS "PaperError") 196)), (some (.str (zS "PaperError") 204)), (some (.builtin "Exception.__new__")), (some (.bool true))])
noncomputable def hp_o_84 (x0 : Params) : Obj := (zO (.type "getset_descriptor") (.fields #[(.str (zS "__weakref__") 229), (.ref 46), (.builtin "ExceptionGroup.__weakref__"), Value.none]))
noncomputable def hp_o_85 (x0 : Params) : Obj := (zO (.type "super") (.fields #[(.ref 46), (.ref 46), (.ref 46)]))
noncomputable def hp_o_86 (x0 : Params) : Obj := (zO (.type "builtin_function_or_method") (.fields #[(.builtin "object.__init_subclass__"), (.ref 46)]))
noncomputable def hp_o_87 (x0 : Params) : Obj := (zO (.type "dict") (.dict #[(zE x0 "__name__" 165 (.str (zS "paperhold.bits") 252)), (zE x0 "__doc__" 166 Value.none), (zE x0 "__package__" 167 Value.none), (zE x0 "__loader__" 168 (.builtin "__main__.__loader__#opaque")), (zE x0 "__spec__" 169 Value.none), (zE x0 "__annotations__" 170 (.ref 6)), (zE x0 "__builtins__" 171 (.ref 4)), (zE x0 "__file__" 173 (.str (zS "/claim/cut.py") 172)), (zE x0 "__cached__" 174 Value.none), (zE x0 "_wall" 193 (.ref 21)), (zE x0 "PaperError" 235 (.ref 46)), (zE x0 "FilterFault" 251 (.ref 59)), (zE x0 "OCTET" 255 (.int 8 254)), (zE x0 "low_bits" 263 (.ref 68)), (zE x0 "turned_about" 273 (.ref 75)), (zE x0 "check_fit" 281 (.ref 82))] 16))
noncomputable def hp_o_88 (x0 : Params) : Obj := (zO Value.none (.fields #[(.int 1 0), (.int 0 0), (.ref 20), (.int 5 0), (.int 0 0), (.ref 27), (.int 14 0), (.int 0 0), (.ref 55), (.int 18 0), (.int 0 0), (.ref 67), (.int 20 0), (.int 0 0), (.ref 74), (.int 25 0), (.int 0 0), (.ref 81)]))
noncomputable def hp_o_89 (x0 : Params) : Obj := (PySem.Obj.mk (.type "type") none (.cls (PySem.ClassData.mk (zS "PaperError") [(.type "Exception")] [(.ref 46), (.type "Exception"), (.type "BaseException"), (.type "object")] 45 (zS "PaperError") true [] [(.ref 59)] false none false)) #[(some (.ref 22)), none, (some (.str (zS "PaperError") 196)), (some (.str (zS "PaperError") 204)), (some (.builtin "Exception.__new__")), (some (.bool true))])
noncomputable def hp_o_90 (x0 : Params) : Obj := (zO (.type "tuple") (.seq #[(.ref 46)] 0))
noncomputable def hp_o_91 (x0 : Params) : Obj := (zO (.type "builtin_function_or_method") (.fields #[(.builtin "type.__prepare__"), (.type "type")]))
noncomputable def hp_o_92 (x0 : Params) : Obj := (zO (.type "dict") (.dict #[(zE x0 "__module__" 243 (.str (zS "paperhold.errors") 194)), (zE x0 "__qualname__" 245 (.str (zS "FilterFault") 244)), (zE x0 "__firstlineno__" 247 (.int 14 246)), (zE x0 "__static_attributes__" 248 (.ref 57))] 4))
noncomputable def hp_o_93 (x0 : Params) : Obj := (zO (.type "tuple") (.seq #[] 0))
noncomputable def hp_o_94 (x0 : Params) : Obj := (zO Value.none (.fields #[]))
noncomputable def hp_o_95 (x0 : Params) : Obj := (zO (.type "code") (.fields #[(.str (zS "FilterFault") 238), (.str (zS "FilterFault") 239), (.str (zS "/claim/cut.py") 240), (.int 14 0), (.int 0 0), (.int 0 0), (.int 0 0), (.int 0 0), (.ref 53), (.bool false), (.int 181 0), (.ref 54), Value.none, Value.none, Value.none, Value.none, (.int 241 0), (.int 14 0), (.str (zS "/claim/cut.py") 242)]))
noncomputable def hp_o_96 (x0 : Params) : Obj := (PySem.Obj.mk (.type "frame") none PySem.Data.plain #[(some (.ref 55)), (some (.ref 3)), (some (.ref 52)), none, (some (.str (zS "paperhold.errors") 194)), none, (some (.ref 0))])
noncomputable def hp_o_97 (x0 : Params) : Obj := (zO (.type "tuple") (.seq #[] 0))
noncomputable def hp_o_98 (x0 : Params) : Obj := (zO (.type "dict") (.dict #[(zE x0 "__module__" 243 (.str (zS "paperhold.errors") 194)), (zE x0 "__firstlineno__" 247 (.int 14 246)), (zE x0 "__static_attributes__" 248 (.ref 57)), (zE x0 "__doc__" 249 Value.none)] 2))
noncomputable def hp_o_99 (x0 : Params) : Obj := (PySem.Obj.mk (.type "type") none (.cls (PySem.ClassData.mk (zS "FilterFault") [(.ref 46)] [(.ref 59), (.ref 46), (.type "Exception"), (.type "BaseException"), (.type "object")] 58 (zS "FilterFault") true [] [] false none false)) #[(some (.ref 50)), none, (some (.str (zS "FilterFault") 236)), (some (.str (zS "FilterFault") 244)), (some (.builtin "Exception.__new__")), (some (.bool true))])
noncomputable def hp_o_100 (x0 : Params) : Obj := (zO (.type "super") (.fields #[(.ref 59), (.ref 59), (.ref 59)]))
noncomputable def hp_o_101 (x0 : Params) : Obj := (zO (.type "builtin_function_or_method") (.fields #[(.builtin "object.__init_subclass__"), (.ref 59)]))
noncomputable def hp_o_102 (x0 : Params) : Obj := (zO (.type "tuple") (.seq #[] 0))
noncomputable def hp_o_103 (x0 : Params) : Obj := (zO Value.none (.fields #[]))
noncomputable def hp_o_104 (x0 : Params) : Obj := (zO (.type "tuple") (.seq #[(.str (zS "value") 259), (.str (zS "count") 260)] 0))
noncomputable def hp_o_105 (x0 : Params) : Obj := (zO (.type "tuple") (.seq #[] 0))
noncomputable def hp_o_106 (x0 : Params) : Obj := (zO Value.none (.func (FuncData.mk (zS "low_bits") (zS "low_bits") (zfA (zst 6)) (FuncBody.stmts (zfB (zst 6))) (zfS (zst 6)) 0 [] Value.none Value.none Value.none Value.none none Value.none Value.none 0)))
noncomputable def hp_o_107 (x0 : Params) : Obj := (zO (.type "code") (.fields #[(.str (zS "low_bits") 256), (.str (zS "low_bits") 257), (.str (zS "/claim/cut.py") 258), (.int 18 0), (.int 2 0), (.int 0 0), (.int 0 0), (.int 3 0), (.ref 62), (.bool true), (.int 181 0), (.ref 63), Value.none, (.ref 64), (.ref 65), (.ref 66), (.int 261 0), (.int 18 0), (.str (zS "/claim/cut.py") 262)]))
noncomputable def hp_o_108 (x0 : Params) : Obj := (zO (.type "function") (.func (FuncData.mk (zS "low_bits") (zS "low_bits") (zfA (zst 6)) (FuncBody.stmts (zfB (zst 6))) (zfS (zst 6)) 3 [] Value.none Value.none Value.none (.str (zS "paperhold.bits") 252) none (.ref 67) Value.none 0)))
noncomputable def hp_o_109 (x0 : Params) : Obj := (zO (.type "tuple") (.seq #[] 0))
noncomputable def hp_o_110 (x0 : Params) : Obj := (zO Value.none (.fields #[]))
noncomputable def hp_o_111 (x0 : Params) : Obj := (zO (.type "tuple") (.seq #[(.str (zS "value") 267), (.str (zS "count") 268), (.str (zS "turned") 269), (.str (zS "turn") 270)] 0))
noncomputable def hp_o_112 (x0 : Params) : Obj := (zO (.type "tuple") (.seq #[] 0))
noncomputable def hp_o_113 (x0 : Params) : Obj := (zO Value.none (.func (FuncData.mk (zS "turned_about") (zS "turned_about") (zfA (zst 7)) (FuncBody.stmts (zfB (zst 7))) (zfS (zst 7)) 0 [] Value.none Value.none Value.none Value.none none Value.none Value.none 0)))
noncomputable def hp_o_114 (x0 : Params) : Obj := (zO (.type "code") (.fields #[(.str (zS "turned_about") 264), (.str (zS "turned_about") 265), (.str (zS "/claim/cut.py") 266), (.int 20 0), (.int 2 0), (.int 0 0), (.int 0 0), (.int 3 0), (.ref 69), (.bool true), (.int 181 0), (.ref 70), Value.none, (.ref 71), (.ref 72), (.ref 73), (.int 271 0), (.int 20 0), (.str (zS "/claim/cut.py") 272)]))
noncomputable def hp_o_115 (x0 : Params) : Obj := (zO (.type "function") (.func (FuncData.mk (zS "turned_about") (zS "turned_about") (zfA (zst 7)) (FuncBody.stmts (zfB (zst 7))) (zfS (zst 7)) 3 [] Value.none Value.none Value.none (.str (zS "paperhold.bits") 252) none (.ref 74) Value.none 0)))
noncomputable def hp_o_116 (x0 : Params) : Obj := (zO (.type "tuple") (.seq #[] 0))
noncomputable def hp_o_117 (x0 : Params) : Obj := (zO Value.none (.fields #[]))
noncomputable def hp_o_118 (x0 : Params) : Obj := (zO (.type "tuple") (.seq #[(.str (zS "value") 277), (.str (zS "count") 278)] 0))
noncomputable def hp_o_119 (x0 : Params) : Obj := (zO (.type "tuple") (.seq #[] 0))
noncomputable def hp_o_120 (x0 : Params) : Obj := (zO Value.none (.func (FuncData.mk (zS "check_fit") (zS "check_fit") (zfA (zst 8)) (FuncBody.stmts (zfB (zst 8))) (zfS (zst 8)) 0 [] Value.none Value.none Value.none Value.none none Value.none Value.none 0)))
noncomputable def hp_o_121 (x0 : Params) : Obj := (zO (.type "code") (.fields #[(.str (zS "check_fit") 274), (.str (zS "check_fit") 275), (.str (zS "/claim/cut.py") 276), (.int 25 0), (.int 2 0), (.int 0 0), (.int 0 0), (.int 3 0), (.ref 76), (.bool true), (.int 181 0), (.ref 77), Value.none, (.ref 78), (.ref 79), (.ref 80), (.int 279 0), (.int 25 0), (.str (zS "/claim/cut.py") 280)]))
noncomputable def hp_o_122 (x0 : Params) : Obj := (zO (.type "function") (.func (FuncData.mk (zS "check_fit") (zS "check_fit") (zfA (zst 8)) (FuncBody.stmts (zfB (zst 8))) (zfS (zst 8)) 3 [] Value.none Value.none Value.none (.str (zS "paperhold.bits") 252) none (.ref 81) Value.none 0)))
noncomputable def hp_o_123 (x0 : Params) : Obj := (zO (.type "dict") (.dict #[(zE x0 "__name__" 165 (.str (zS "paperhold.bits") 252)), (zE x0 "__doc__" 166 Value.none), (zE x0 "__package__" 167 Value.none), (zE x0 "__loader__" 168 (.builtin "__main__.__loader__#opaque")), (zE x0 "__spec__" 169 Value.none), (zE x0 "__annotations__" 170 (.ref 6)), (zE x0 "__builtins__" 171 (.ref 4)), (zE x0 "__file__" 173 (.str (zS "/claim/cut.py") 172)), (zE x0 "__cached__" 174 Value.none), (zE x0 "_wall" 193 (.ref 21)), (zE x0 "PaperError" 235 (.ref 46)), (zE x0 "FilterFault" 251 (.ref 59)), (zE x0 "OCTET" 255 (.int 8 254)), (zE x0 "low_bits" 263 (.ref 68)), (zE x0 "turned_about" 273 (.ref 75)), (zE x0 "check_fit" 281 (.ref 82)), (zE x0 "BitsIn" 354 (.ref 135))] 17))
noncomputable def hp_o_124 (x0 : Params) : Obj := (zO Value.none (.fields #[(.int 1 0), (.int 0 0), (.ref 20), (.int 5 0), (.int 0 0), (.ref 27), (.int 14 0), (.int 0 0), (.ref 55), (.int 18 0), (.int 0 0), (.ref 67), (.int 20 0), (.int 0 0), (.ref 74), (.int 25 0), (.int 0 0), (.ref 81), (.int 28 0), (.int 0 0), (.ref 88)]))
noncomputable def hp_o_125 (x0 : Params) : Obj := (zO (.type "tuple") (.seq #[] 0))
noncomputable def hp_o_126 (x0 : Params) : Obj := (zO (.type "builtin_function_or_method") (.fields #[(.builtin "type.__prepare__"), (.type "type")]))
noncomputable def hp_o_127 (x0 : Params) : Obj := (zO (.type "dict") (.dict #[(zE x0 "__module__" 289 (.str (zS "paperhold.bits") 252)), (zE x0 "__qualname__" 291 (.str (zS "BitsIn") 290)), (zE x0 "__firstlineno__" 293 (.int 28 292)), (zE x0 "__init__" 303 (.ref 97)), (zE x0 "left" 310 (.ref 104)), (zE x0 "need" 318 (.ref 111)), (zE x0 "take" 327 (.ref 118)), (zE x0 "align" 334 (.ref 125)), (zE x0 "octets" 342 (.ref 132)), (zE x0 "__static_attributes__" 347 (.ref 133))] 10))
noncomputable def hp_o_128 (x0 : Params) : Obj := (zO (.type "tuple") (.seq #[] 0))
noncomputable def hp_o_129 (x0 : Params) : Obj := (zO Value.none (.fields #[(.int 30 0), (.int 4 0), (.ref 96), (.int 36 0), (.int 4 0), (.ref 103), (.int 39 0), (.int 4 0), (.ref 110), (.int 43 0), (.int 4 0), (.ref 117), (.int 54 0), (.int 4 0), (.ref 124), (.int 58 0), (.int 4 0), (.ref 131)]))
noncomputable def hp_o_130 (x0 : Params) : Obj := (zO (.type "code") (.fields #[(.str (zS "BitsIn") 284), (.str (zS "BitsIn") 285), (.str (zS "/claim/cut.py") 286), (.int 28 0), (.int 0 0), (.int 0 0), (.int 0 0), (.int 0 0), (.ref 86), (.bool false), (.int 181 0), (.ref 87), Value.none, Value.none, Value.none, Value.none, (.int 287 0), (.int 28 0), (.str (zS "/claim/cut.py") 288)]))
noncomputable def hp_o_131 (x0 : Params) : Obj := (PySem.Obj.mk (.type "frame") none PySem.Data.plain #[(some (.ref 88)), (some (.ref 3)), (some (.ref 85)), none, (some (.str (zS "paperhold.bits") 252)), none, (some (.ref 0))])
noncomputable def hp_o_132 (x0 : Params) : Obj := (zO (.type "tuple") (.seq #[(.int 0 294)] 0))
noncomputable def hp_o_133 (x0 : Params) : Obj := (zO (.type "tuple") (.seq #[] 0))
noncomputable def hp_o_134 (x0 : Params) : Obj := (zO Value.none (.fields #[]))
noncomputable def hp_o_135 (x0 : Params) : Obj := (zO (.type "tuple") (.seq #[(.str (zS "self") 298), (.str (zS "data") 299), (.str (zS "at") 300)] 0))
noncomputable def hp_o_136 (x0 : Params) : Obj := (zO (.type "tuple") (.seq #[] 0))
noncomputable def hp_o_137 (x0 : Params) : Obj := (zO Value.none (.func (FuncData.mk (zS "__init__") (zS "BitsIn.__init__") (zfA (zm 9 0)) (FuncBody.stmts (zfB (zm 9 0))) (zfS (zm 9 0)) 0 [] Value.none Value.none Value.none Value.none none Value.none Value.none 0)))
noncomputable def hp_o_138 (x0 : Params) : Obj := (zO (.type "code") (.fields #[(.str (zS "__init__") 295), (.str (zS "BitsIn.__init__") 296), (.str (zS "/claim/cut.py") 297), (.int 30 0), (.int 3 0), (.int 0 0), (.int 0 0), (.int 3 0), (.ref 91), (.bool true), (.int 181 0), (.ref 92), Value.none, (.ref 93), (.ref 94), (.ref 95), (.int 301 0), (.int 30 0), (.str (zS "/claim/cut.py") 302)]))
noncomputable def hp_o_139 (x0 : Params) : Obj := (zO (.type "function") (.func (FuncData.mk (zS "__init__") (zS "BitsIn.__init__") (zfA (zm 9 0)) (FuncBody.stmts (zfB (zm 9 0))) (zfS (zm 9 0)) 3 [] (.ref 90) Value.none Value.none (.str (zS "paperhold.bits") 252) none (.ref 96) Value.none 0)))
noncomputable def hp_o_140 (x0 : Params) : Obj := (zO (.type "tuple") (.seq #[] 0))
noncomputable def hp_o_141 (x0 : Params) : Obj := (zO Value.none (.fields #[]))
noncomputable def hp_o_142 (x0 : Params) : Obj := (zO (.type "tuple") (.seq #[(.str (zS "self") 307)] 0))
noncomputable def hp_o_143 (x0 : Params) : Obj := (zO (.type "tuple") (.seq #[] 0))
noncomputable def hp_o_144 (x0 : Params) : Obj := (zO Value.none (.func (FuncData.mk (zS "left") (zS "BitsIn.left") (zfA (zm 9 1)) (FuncBody.stmts (zfB (zm 9 1))) (zfS (zm 9 1)) 0 [] Value.none Value.none Value.none Value.none none Value.none Value.none 0)))
noncomputable def hp_o_145 (x0 : Params) : Obj := (zO (.type "code") (.fields #[(.str (zS "left") 304), (.str (zS "BitsIn.left") 305), (.str (zS "/claim/cut.py") 306), (.int 36 0), (.int 1 0), (.int 0 0), (.int 0 0), (.int 3 0), (.ref 98), (.bool true), (.int 181 0), (.ref 99), Value.none, (.ref 100), (.ref 101), (.ref 102), (.int 308 0), (.int 36 0), (.str (zS "/claim/cut.py") 309)]))
noncomputable def hp_o_146 (x0 : Params) : Obj := (zO (.type "function") (.func (FuncData.mk (zS "left") (zS "BitsIn.left") (zfA (zm 9 1)) (FuncBody.stmts (zfB (zm 9 1))) (zfS (zm 9 1)) 3 [] Value.none Value.none Value.none (.str (zS "paperhold.bits") 252) none (.ref 103) Value.none 0)))
noncomputable def hp_o_147 (x0 : Params) : Obj := (zO (.type "tuple") (.seq #[] 0))
noncomputable def hp_o_148 (x0 : Params) : Obj := (zO Value.none (.fields #[]))
noncomputable def hp_o_149 (x0 : Params) : Obj := (zO (.type "tuple") (.seq #[(.str (zS "self") 314), (.str (zS "count") 315)] 0))
noncomputable def hp_o_150 (x0 : Params) : Obj := (zO (.type "tuple") (.seq #[] 0))
noncomputable def hp_o_151 (x0 : Params) : Obj := (zO Value.none (.func (FuncData.mk (zS "need") (zS "BitsIn.need") (zfA (zm 9 2)) (FuncBody.stmts (zfB (zm 9 2))) (zfS (zm 9 2)) 0 [] Value.none Value.none Value.none Value.none none Value.none Value.none 0)))
noncomputable def hp_o_152 (x0 : Params) : Obj := (zO (.type "code") (.fields #[(.str (zS "need") 311), (.str (zS "BitsIn.need") 312), (.str (zS "/claim/cut.py") 313), (.int 39 0), (.int 2 0), (.int 0 0), (.int 0 0), (.int 3 0), (.ref 105), (.bool true), (.int 181 0), (.ref 106), Value.none, (.ref 107), (.ref 108), (.ref 109), (.int 316 0), (.int 39 0), (.str (zS "/claim/cut.py") 317)]))
noncomputable def hp_o_153 (x0 : Params) : Obj := (zO (.type "function") (.func (FuncData.mk (zS "need") (zS "BitsIn.need") (zfA (zm 9 2)) (FuncBody.stmts (zfB (zm 9 2))) (zfS (zm 9 2)) 3 [] Value.none Value.none Value.none (.str (zS "paperhold.bits") 252) none (.ref 110) Value.none 0)))
noncomputable def hp_o_154 (x0 : Params) : Obj := (zO (.type "tuple") (.seq #[] 0))
noncomputable def hp_o_155 (x0 : Params) : Obj := (zO Value.none (.fields #[]))
noncomputable def hp_o_156 (x0 : Params) : Obj := (zO (.type "tuple") (.seq #[(.str (zS "self") 322), (.str (zS "count") 323), (.str (zS "value") 324)] 0))
noncomputable def hp_o_157 (x0 : Params) : Obj := (zO (.type "tuple") (.seq #[] 0))
noncomputable def hp_o_158 (x0 : Params) : Obj := (zO Value.none (.func (FuncData.mk (zS "take") (zS "BitsIn.take") (zfA (zm 9 3)) (FuncBody.stmts (zfB (zm 9 3))) (zfS (zm 9 3)) 0 [] Value.none Value.none Value.none Value.none none Value.none Value.none 0)))
noncomputable def hp_o_159 (x0 : Params) : Obj := (zO (.type "code") (.fields #[(.str (zS "take") 319), (.str (zS "BitsIn.take") 320), (.str (zS "/claim/cut.py") 321), (.int 43 0), (.int 2 0), (.int 0 0), (.int 0 0), (.int 3 0), (.ref 112), (.bool true), (.int 181 0), (.ref 113), Value.none, (.ref 114), (.ref 115), (.ref 116), (.int 325 0), (.int 43 0), (.str (zS "/claim/cut.py") 326)]))
noncomputable def hp_o_160 (x0 : Params) : Obj := (zO (.type "function") (.func (FuncData.mk (zS "take") (zS "BitsIn.take") (zfA (zm 9 3)) (FuncBody.stmts (zfB (zm 9 3))) (zfS (zm 9 3)) 3 [] Value.none Value.none Value.none (.str (zS "paperhold.bits") 252) none (.ref 117) Value.none 0)))
noncomputable def hp_o_161 (x0 : Params) : Obj := (zO (.type "tuple") (.seq #[] 0))
noncomputable def hp_o_162 (x0 : Params) : Obj := (zO Value.none (.fields #[]))
noncomputable def hp_o_163 (x0 : Params) : Obj := (zO (.type "tuple") (.seq #[(.str (zS "self") 331)] 0))
noncomputable def hp_o_164 (x0 : Params) : Obj := (zO (.type "tuple") (.seq #[] 0))
noncomputable def hp_o_165 (x0 : Params) : Obj := (zO Value.none (.func (FuncData.mk (zS "align") (zS "BitsIn.align") (zfA (zm 9 4)) (FuncBody.stmts (zfB (zm 9 4))) (zfS (zm 9 4)) 0 [] Value.none Value.none Value.none Value.none none Value.none Value.none 0)))
noncomputable def hp_o_166 (x0 : Params) : Obj := (zO (.type "code") (.fields #[(.str (zS "align") 328), (.str (zS "BitsIn.align") 329), (.str (zS "/claim/cut.py") 330), (.int 54 0), (.int 1 0), (.int 0 0), (.int 0 0), (.int 3 0), (.ref 119), (.bool true), (.int 181 0), (.ref 120), Value.none, (.ref 121), (.ref 122), (.ref 123), (.int 332 0), (.int 54 0), (.str (zS "/claim/cut.py") 333)]))
noncomputable def hp_o_167 (x0 : Params) : Obj := (zO (.type "function") (.func (FuncData.mk (zS "align") (zS "BitsIn.align") (zfA (zm 9 4)) (FuncBody.stmts (zfB (zm 9 4))) (zfS (zm 9 4)) 3 [] Value.none Value.none Value.none (.str (zS "paperhold.bits") 252) none (.ref 124) Value.none 0)))
noncomputable def hp_o_168 (x0 : Params) : Obj := (zO (.type "tuple") (.seq #[] 0))
noncomputable def hp_o_169 (x0 : Params) : Obj := (zO Value.none (.fields #[]))
noncomputable def hp_o_170 (x0 : Params) : Obj := (zO (.type "tuple") (.seq #[(.str (zS "self") 338), (.str (zS "count") 339)] 0))
noncomputable def hp_o_171 (x0 : Params) : Obj := (zO (.type "tuple") (.seq #[] 0))
noncomputable def hp_o_172 (x0 : Params) : Obj := (zO Value.none (.func (FuncData.mk (zS "octets") (zS "BitsIn.octets") (zfA (zm 9 5)) (FuncBody.stmts (zfB (zm 9 5))) (zfS (zm 9 5)) 0 [] Value.none Value.none Value.none Value.none none Value.none Value.none 0)))
noncomputable def hp_o_173 (x0 : Params) : Obj := (zO (.type "code") (.fields #[(.str (zS "octets") 335), (.str (zS "BitsIn.octets") 336), (.str (zS "/claim/cut.py") 337), (.int 58 0), (.int 2 0), (.int 0 0), (.int 0 0), (.int 3 0), (.ref 126), (.bool true), (.int 181 0), (.ref 127), Value.none, (.ref 128), (.ref 129), (.ref 130), (.int 340 0), (.int 58 0), (.str (zS "/claim/cut.py") 341)]))
noncomputable def hp_o_174 (x0 : Params) : Obj := (zO (.type "function") (.func (FuncData.mk (zS "octets") (zS "BitsIn.octets") (zfA (zm 9 5)) (FuncBody.stmts (zfB (zm 9 5))) (zfS (zm 9 5)) 3 [] Value.none Value.none Value.none (.str (zS "paperhold.bits") 252) none (.ref 131) Value.none 0)))
noncomputable def hp_o_175 (x0 : Params) : Obj := (zO (.type "tuple") (.seq #[(.str (zS "at") 343), (.str (zS "count") 344), (.str (zS "data") 345), (.str (zS "held") 346)] 0))
noncomputable def hp_o_176 (x0 : Params) : Obj := (zO (.type "dict") (.dict #[(zE x0 "__module__" 289 (.str (zS "paperhold.bits") 252)), (zE x0 "__firstlineno__" 293 (.int 28 292)), (zE x0 "__init__" 303 (.ref 97)), (zE x0 "left" 310 (.ref 104)), (zE x0 "need" 318 (.ref 111)), (zE x0 "take" 327 (.ref 118)), (zE x0 "align" 334 (.ref 125)), (zE x0 "octets" 342 (.ref 132)), (zE x0 "__static_attributes__" 347 (.ref 133)), (zE x0 "__dict__" 349 (.ref 136)), (zE x0 "__weakref__" 351 (.ref 137)), (zE x0 "__doc__" 352 Value.none)] 4))
noncomputable def hp_o_177 (x0 : Params) : Obj := (PySem.Obj.mk (.type "type") none (.cls (PySem.ClassData.mk (zS "BitsIn") [(.type "object")] [(.ref 135), (.type "object")] 134 (zS "BitsIn") true [] [] false none false)) #[none, none, (some (.str (zS "BitsIn") 282)), (some (.str (zS "BitsIn") 290)), (some (.builtin "object.__new__")), (some (.bool true))])
noncomputable def hp_o_178 (x0 : Params) : Obj := (zO (.type "getset_descriptor") (.fields #[(.str (zS "__dict__") 348), (.ref 135), (.builtin "function.__dict__"), (.builtin "function.__dict__#set")]))
noncomputable def hp_o_179 (x0 : Params) : Obj := (zO (.type "getset_descriptor") (.fields #[(.str (zS "__weakref__") 350), (.ref 135), (.builtin "ExceptionGroup.__weakref__"), Value.none]))
noncomputable def hp_o_180 (x0 : Params) : Obj := (zO (.type "super") (.fields #[(.ref 135), (.ref 135), (.ref 135)]))
noncomputable def hp_o_181 (x0 : Params) : Obj := (zO (.type "builtin_function_or_method") (.fields #[(.builtin "object.__init_subclass__"), (.ref 135)]))
noncomputable def hp_o_182 (x0 : Params) : Obj := (zO (.type "dict") (.dict #[(zE x0 "__name__" 165 (.str (zS "paperhold.bits") 252)), (zE x0 "__doc__" 166 Value.none), (zE x0 "__package__" 167 Value.none), (zE x0 "__loader__" 168 (.builtin "__main__.__loader__#opaque")), (zE x0 "__spec__" 169 Value.none), (zE x0 "__annotations__" 170 (.ref 6)), (zE x0 "__builtins__" 171 (.ref 4)), (zE x0 "__file__" 173 (.str (zS "/claim/cut.py") 172)), (zE x0 "__cached__" 174 Value.none), (zE x0 "_wall" 193 (.ref 21)), (zE x0 "PaperError" 235 (.ref 46)), (zE x0 "FilterFault" 251 (.ref 59)), (zE x0 "OCTET" 255 (.int 8 254)), (zE x0 "low_bits" 263 (.ref 68)), (zE x0 "turned_about" 273 (.ref 75)), (zE x0 "check_fit" 281 (.ref 82)), (zE x0 "BitsIn" 354 (.ref 135)), (zE x0 "HighBitsIn" 409 (.ref 177))] 18))
noncomputable def hp_o_183 (x0 : Params) : Obj := (zO Value.none (.fields #[(.int 1 0), (.int 0 0), (.ref 20), (.int 5 0), (.int 0 0), (.ref 27), (.int 14 0), (.int 0 0), (.ref 55), (.int 18 0), (.int 0 0), (.ref 67), (.int 20 0), (.int 0 0), (.ref 74), (.int 25 0), (.int 0 0), (.ref 81), (.int 28 0), (.int 0 0), (.ref 88), (.int 63 0), (.int 0 0), (.ref 145)]))
noncomputable def hp_o_184 (x0 : Params) : Obj := (zO (.type "tuple") (.seq #[] 0))
noncomputable def hp_o_185 (x0 : Params) : Obj := (zO (.type "builtin_function_or_method") (.fields #[(.builtin "type.__prepare__"), (.type "type")]))
noncomputable def hp_o_186 (x0 : Params) : Obj := (zO (.type "dict") (.dict #[(zE x0 "__module__" 362 (.str (zS "paperhold.bits") 252)), (zE x0 "__qualname__" 364 (.str (zS "HighBitsIn") 363)), (zE x0 "__firstlineno__" 366 (.int 63 365)), (zE x0 "__init__" 374 (.ref 153)), (zE x0 "left" 381 (.ref 160)), (zE x0 "take" 390 (.ref 167)), (zE x0 "align" 397 (.ref 174)), (zE x0 "__static_attributes__" 402 (.ref 175))] 8))
noncomputable def hp_o_187 (x0 : Params) : Obj := (zO (.type "tuple") (.seq #[] 0))
noncomputable def hp_o_188 (x0 : Params) : Obj := (zO Value.none (.fields #[(.int 65 0), (.int 4 0), (.ref 152), (.int 71 0), (.int 4 0), (.ref 159), (.int 74 0), (.int 4 0), (.ref 166), (.int 86 0), (.int 4 0), (.ref 173)]))
noncomputable def hp_o_189 (x0 : Params) : Obj := (zO (.type "code") (.fields #[(.str (zS "HighBitsIn") 357), (.str (zS "HighBitsIn") 358), (.str (zS "/claim/cut.py") 359), (.int 63 0), (.int 0 0), (.int 0 0), (.int 0 0), (.int 0 0), (.ref 143), (.bool false), (.int 181 0), (.ref 144), Value.none, Value.none, Value.none, Value.none, (.int 360 0), (.int 63 0), (.str (zS "/claim/cut.py") 361)]))
noncomputable def hp_o_190 (x0 : Params) : Obj := (PySem.Obj.mk (.type "frame") none PySem.Data.plain #[(some (.ref 145)), (some (.ref 3)), (some (.ref 142)), none, (some (.str (zS "paperhold.bits") 252)), none, (some (.ref 0))])
noncomputable def hp_o_191 (x0 : Params) : Obj := (zO (.type "tuple") (.seq #[] 0))
noncomputable def hp_o_192 (x0 : Params) : Obj := (zO Value.none (.fields #[]))
noncomputable def hp_o_193 (x0 : Params) : Obj := (zO (.type "tuple") (.seq #[(.str (zS "self") 370), (.str (zS "data") 371)] 0))
noncomputable def hp_o_194 (x0 : Params) : Obj := (zO (.type "tuple") (.seq #[] 0))
noncomputable def hp_o_195 (x0 : Params) : Obj := (zO Value.none (.func (FuncData.mk (zS "__init__") (zS "HighBitsIn.__init__") (zfA (zm 10 0)) (FuncBody.stmts (zfB (zm 10 0))) (zfS (zm 10 0)) 0 [] Value.none Value.none Value.none Value.none none Value.none Value.none 0)))
noncomputable def hp_o_196 (x0 : Params) : Obj := (zO (.type "code") (.fields #[(.str (zS "__init__") 367), (.str (zS "HighBitsIn.__init__") 368), (.str (zS "/claim/cut.py") 369), (.int 65 0), (.int 2 0), (.int 0 0), (.int 0 0), (.int 3 0), (.ref 147), (.bool true), (.int 181 0), (.ref 148), Value.none, (.ref 149), (.ref 150), (.ref 151), (.int 372 0), (.int 65 0), (.str (zS "/claim/cut.py") 373)]))
noncomputable def hp_o_197 (x0 : Params) : Obj := (zO (.type "function") (.func (FuncData.mk (zS "__init__") (zS "HighBitsIn.__init__") (zfA (zm 10 0)) (FuncBody.stmts (zfB (zm 10 0))) (zfS (zm 10 0)) 3 [] Value.none Value.none Value.none (.str (zS "paperhold.bits") 252) none (.ref 152) Value.none 0)))
noncomputable def hp_o_198 (x0 : Params) : Obj := (zO (.type "tuple") (.seq #[] 0))
noncomputable def hp_o_199 (x0 : Params) : Obj := (zO Value.none (.fields #[]))
noncomputable def hp_o_200 (x0 : Params) : Obj := (zO (.type "tuple") (.seq #[(.str (zS "self") 378)] 0))
noncomputable def hp_o_201 (x0 : Params) : Obj := (zO (.type "tuple") (.seq #[] 0))
noncomputable def hp_o_202 (x0 : Params) : Obj := (zO Value.none (.func (FuncData.mk (zS "left") (zS "HighBitsIn.left") (zfA (zm 10 1)) (FuncBody.stmts (zfB (zm 10 1))) (zfS (zm 9 1)) 0 [] Value.none Value.none Value.none Value.none none Value.none Value.none 0)))
noncomputable def hp_o_203 (x0 : Params) : Obj := (zO (.type "code") (.fields #[(.str (zS "left") 375), (.str (zS "HighBitsIn.left") 376), (.str (zS "/claim/cut.py") 377), (.int 71 0), (.int 1 0), (.int 0 0), (.int 0 0), (.int 3 0), (.ref 154), (.bool true), (.int 181 0), (.ref 155), Value.none, (.ref 156), (.ref 157), (.ref 158), (.int 379 0), (.int 71 0), (.str (zS "/claim/cut.py") 380)]))
noncomputable def hp_o_204 (x0 : Params) : Obj := (zO (.type "function") (.func (FuncData.mk (zS "left") (zS "HighBitsIn.left") (zfA (zm 10 1)) (FuncBody.stmts (zfB (zm 10 1))) (zfS (zm 9 1)) 3 [] Value.none Value.none Value.none (.str (zS "paperhold.bits") 252) none (.ref 159) Value.none 0)))
noncomputable def hp_o_205 (x0 : Params) : Obj := (zO (.type "tuple") (.seq #[] 0))
noncomputable def hp_o_206 (x0 : Params) : Obj := (zO Value.none (.fields #[]))
noncomputable def hp_o_207 (x0 : Params) : Obj := (zO (.type "tuple") (.seq #[(.str (zS "self") 385), (.str (zS "count") 386), (.str (zS "value") 387)] 0))
noncomputable def hp_o_208 (x0 : Params) : Obj := (zO (.type "tuple") (.seq #[] 0))
noncomputable def hp_o_209 (x0 : Params) : Obj := (zO Value.none (.func (FuncData.mk (zS "take") (zS "HighBitsIn.take") (zfA (zm 10 2)) (FuncBody.stmts (zfB (zm 10 2))) (zfS (zm 10 2)) 0 [] Value.none Value.none Value.none Value.none none Value.none Value.none 0)))
noncomputable def hp_o_210 (x0 : Params) : Obj := (zO (.type "code") (.fields #[(.str (zS "take") 382), (.str (zS "HighBitsIn.take") 383), (.str (zS "/claim/cut.py") 384), (.int 74 0), (.int 2 0), (.int 0 0), (.int 0 0), (.int 3 0), (.ref 161), (.bool true), (.int 181 0), (.ref 162), Value.none, (.ref 163), (.ref 164), (.ref 165), (.int 388 0), (.int 74 0), (.str (zS "/claim/cut.py") 389)]))
noncomputable def hp_o_211 (x0 : Params) : Obj := (zO (.type "function") (.func (FuncData.mk (zS "take") (zS "HighBitsIn.take") (zfA (zm 10 2)) (FuncBody.stmts (zfB (zm 10 2))) (zfS (zm 10 2)) 3 [] Value.none Value.none Value.none (.str (zS "paperhold.bits") 252) none (.ref 166) Value.none 0)))
noncomputable def hp_o_212 (x0 : Params) : Obj := (zO (.type "tuple") (.seq #[] 0))
noncomputable def hp_o_213 (x0 : Params) : Obj := (zO Value.none (.fields #[]))
noncomputable def hp_o_214 (x0 : Params) : Obj := (zO (.type "tuple") (.seq #[(.str (zS "self") 394)] 0))
noncomputable def hp_o_215 (x0 : Params) : Obj := (zO (.type "tuple") (.seq #[] 0))
noncomputable def hp_o_216 (x0 : Params) : Obj := (zO Value.none (.func (FuncData.mk (zS "align") (zS "HighBitsIn.align") (zfA (zm 10 3)) (FuncBody.stmts (zfB (zm 10 3))) (zfS (zm 9 4)) 0 [] Value.none Value.none Value.none Value.none none Value.none Value.none 0)))
noncomputable def hp_o_217 (x0 : Params) : Obj := (zO (.type "code") (.fields #[(.str (zS "align") 391), (.str (zS "HighBitsIn.align") 392), (.str (zS "/claim/cut.py") 393), (.int 86 0), (.int 1 0), (.int 0 0), (.int 0 0), (.int 3 0), (.ref 168), (.bool true), (.int 181 0), (.ref 169), Value.none, (.ref 170), (.ref 171), (.ref 172), (.int 395 0), (.int 86 0), (.str (zS "/claim/cut.py") 396)]))
noncomputable def hp_o_218 (x0 : Params) : Obj := (zO (.type "function") (.func (FuncData.mk (zS "align") (zS "HighBitsIn.align") (zfA (zm 10 3)) (FuncBody.stmts (zfB (zm 10 3))) (zfS (zm 9 4)) 3 [] Value.none Value.none Value.none (.str (zS "paperhold.bits") 252) none (.ref 173) Value.none 0)))
noncomputable def hp_o_219 (x0 : Params) : Obj := (zO (.type "tuple") (.seq #[(.str (zS "at") 398), (.str (zS "count") 399), (.str (zS "data") 400), (.str (zS "held") 401)] 0))
noncomputable def hp_o_220 (x0 : Params) : Obj := (zO (.type "dict") (.dict #[(zE x0 "__module__" 362 (.str (zS "paperhold.bits") 252)), (zE x0 "__firstlineno__" 366 (.int 63 365)), (zE x0 "__init__" 374 (.ref 153)), (zE x0 "left" 381 (.ref 160)), (zE x0 "take" 390 (.ref 167)), (zE x0 "align" 397 (.ref 174)), (zE x0 "__static_attributes__" 402 (.ref 175)), (zE x0 "__dict__" 404 (.ref 178)), (zE x0 "__weakref__" 406 (.ref 179)), (zE x0 "__doc__" 407 Value.none)] 4))
noncomputable def hp_o_221 (x0 : Params) : Obj := (PySem.Obj.mk (.type "type") none (.cls (PySem.ClassData.mk (zS "HighBitsIn") [(.type "object")] [(.ref 177), (.type "object")] 176 (zS "HighBitsIn") true [] [] false none false)) #[none, none, (some (.str (zS "HighBitsIn") 355)), (some (.str (zS "HighBitsIn") 363)), (some (.builtin "object.__new__")), (some (.bool true))])
noncomputable def hp_o_222 (x0 : Params) : Obj := (zO (.type "getset_descriptor") (.fields #[(.str (zS "__dict__") 403), (.ref 177), (.builtin "function.__dict__"), (.builtin "function.__dict__#set")]))
noncomputable def hp_o_223 (x0 : Params) : Obj := (zO (.type "getset_descriptor") (.fields #[(.str (zS "__weakref__") 405), (.ref 177), (.builtin "ExceptionGroup.__weakref__"), Value.none]))
noncomputable def hp_o_224 (x0 : Params) : Obj := (zO (.type "super") (.fields #[(.ref 177), (.ref 177), (.ref 177)]))
noncomputable def hp_o_225 (x0 : Params) : Obj := (zO (.type "builtin_function_or_method") (.fields #[(.builtin "object.__init_subclass__"), (.ref 177)]))
noncomputable def hp_o_226 (x0 : Params) : Obj := (zO (.type "dict") (.dict #[(zE x0 "__name__" 165 (.str (zS "paperhold.bits") 252)), (zE x0 "__doc__" 166 Value.none), (zE x0 "__package__" 167 Value.none), (zE x0 "__loader__" 168 (.builtin "__main__.__loader__#opaque")), (zE x0 "__spec__" 169 Value.none), (zE x0 "__annotations__" 170 (.ref 6)), (zE x0 "__builtins__" 171 (.ref 4)), (zE x0 "__file__" 173 (.str (zS "/claim/cut.py") 172)), (zE x0 "__cached__" 174 Value.none), (zE x0 "_wall" 193 (.ref 21)), (zE x0 "PaperError" 235 (.ref 46)), (zE x0 "FilterFault" 251 (.ref 59)), (zE x0 "OCTET" 255 (.int 8 254)), (zE x0 "low_bits" 263 (.ref 68)), (zE x0 "turned_about" 273 (.ref 75)), (zE x0 "check_fit" 281 (.ref 82)), (zE x0 "BitsIn" 354 (.ref 135)), (zE x0 "HighBitsIn" 409 (.ref 177)), (zE x0 "BitsOut" 477 (.ref 233))] 19))
noncomputable def hp_o_227 (x0 : Params) : Obj := (zO Value.none (.fields #[(.int 1 0), (.int 0 0), (.ref 20), (.int 5 0), (.int 0 0), (.ref 27), (.int 14 0), (.int 0 0), (.ref 55), (.int 18 0), (.int 0 0), (.ref 67), (.int 20 0), (.int 0 0), (.ref 74), (.int 25 0), (.int 0 0), (.ref 81), (.int 28 0), (.int 0 0), (.ref 88), (.int 63 0), (.int 0 0), (.ref 145), (.int 89 0), (.int 0 0), (.ref 187)]))
noncomputable def hp_o_228 (x0 : Params) : Obj := (zO (.type "tuple") (.seq #[] 0))
noncomputable def hp_o_229 (x0 : Params) : Obj := (zO (.type "builtin_function_or_method") (.fields #[(.builtin "type.__prepare__"), (.type "type")]))
noncomputable def hp_o_230 (x0 : Params) : Obj := (zO (.type "dict") (.dict #[(zE x0 "__module__" 417 (.str (zS "paperhold.bits") 252)), (zE x0 "__qualname__" 419 (.str (zS "BitsOut") 418)), (zE x0 "__firstlineno__" 421 (.int 89 420)), (zE x0 "__init__" 428 (.ref 195)), (zE x0 "put" 437 (.ref 202)), (zE x0 "align" 444 (.ref 209)), (zE x0 "put_octets" 452 (.ref 216)), (zE x0 "bit_count" 459 (.ref 223)), (zE x0 "octets" 466 (.ref 230)), (zE x0 "__static_attributes__" 470 (.ref 231))] 10))
noncomputable def hp_o_231 (x0 : Params) : Obj := (zO (.type "tuple") (.seq #[] 0))
noncomputable def hp_o_232 (x0 : Params) : Obj := (zO Value.none (.fields #[(.int 91 0), (.int 4 0), (.ref 194), (.int 96 0), (.int 4 0), (.ref 201), (.int 105 0), (.int 4 0), (.ref 208), (.int 109 0), (.int 4 0), (.ref 215), (.int 113 0), (.int 4 0), (.ref 222), (.int 116 0), (.int 4 0), (.ref 229)]))
noncomputable def hp_o_233 (x0 : Params) : Obj := (zO (.type "code") (.fields #[(.str (zS "BitsOut") 412), (.str (zS "BitsOut") 413), (.str (zS "/claim/cut.py") 414), (.int 89 0), (.int 0 0), (.int 0 0), (.int 0 0), (.int 0 0), (.ref 185), (.bool false), (.int 181 0), (.ref 186), Value.none, Value.none, Value.none, Value.none, (.int 415 0), (.int 89 0), (.str (zS "/claim/cut.py") 416)]))
noncomputable def hp_o_234 (x0 : Params) : Obj := (PySem.Obj.mk (.type "frame") none PySem.Data.plain #[(some (.ref 187)), (some (.ref 3)), (some (.ref 184)), none, (some (.str (zS "paperhold.bits") 252)), none, (some (.ref 0))])
noncomputable def hp_o_235 (x0 : Params) : Obj := (zO (.type "tuple") (.seq #[] 0))
noncomputable def hp_o_236 (x0 : Params) : Obj := (zO Value.none (.fields #[]))
noncomputable def hp_o_237 (x0 : Params) : Obj := (zO (.type "tuple") (.seq #[(.str (zS "self") 425)] 0))
noncomputable def hp_o_238 (x0 : Params) : Obj := (zO (.type "tuple") (.seq #[] 0))
noncomputable def hp_o_239 (x0 : Params) : Obj := (zO Value.none (.func (FuncData.mk (zS "__init__") (zS "BitsOut.__init__") (zfA (zm 11 0)) (FuncBody.stmts (zfB (zm 11 0))) (zfS (zm 11 0)) 0 [] Value.none Value.none Value.none Value.none none Value.none Value.none 0)))
noncomputable def hp_o_240 (x0 : Params) : Obj := (zO (.type "code") (.fields #[(.str (zS "__init__") 422), (.str (zS "BitsOut.__init__") 423), (.str (zS "/claim/cut.py") 424), (.int 91 0), (.int 1 0), (.int 0 0), (.int 0 0), (.int 3 0), (.ref 189), (.bool true), (.int 181 0), (.ref 190), Value.none, (.ref 191), (.ref 192), (.ref 193), (.int 426 0), (.int 91 0), (.str (zS "/claim/cut.py") 427)]))
noncomputable def hp_o_241 (x0 : Params) : Obj := (zO (.type "function") (.func (FuncData.mk (zS "__init__") (zS "BitsOut.__init__") (zfA (zm 11 0)) (FuncBody.stmts (zfB (zm 11 0))) (zfS (zm 11 0)) 3 [] Value.none Value.none Value.none (.str (zS "paperhold.bits") 252) none (.ref 194) Value.none 0)))
noncomputable def hp_o_242 (x0 : Params) : Obj := (zO (.type "tuple") (.seq #[] 0))
noncomputable def hp_o_243 (x0 : Params) : Obj := (zO Value.none (.fields #[]))
noncomputable def hp_o_244 (x0 : Params) : Obj := (zO (.type "tuple") (.seq #[(.str (zS "self") 432), (.str (zS "value") 433), (.str (zS "count") 434)] 0))
noncomputable def hp_o_245 (x0 : Params) : Obj := (zO (.type "tuple") (.seq #[] 0))
noncomputable def hp_o_246 (x0 : Params) : Obj := (zO Value.none (.func (FuncData.mk (zS "put") (zS "BitsOut.put") (zfA (zm 11 1)) (FuncBody.stmts (zfB (zm 11 1))) (zfS (zm 11 1)) 0 [] Value.none Value.none Value.none Value.none none Value.none Value.none 0)))
noncomputable def hp_o_247 (x0 : Params) : Obj := (zO (.type "code") (.fields #[(.str (zS "put") 429), (.str (zS "BitsOut.put") 430), (.str (zS "/claim/cut.py") 431), (.int 96 0), (.int 3 0), (.int 0 0), (.int 0 0), (.int 3 0), (.ref 196), (.bool true), (.int 181 0), (.ref 197), Value.none, (.ref 198), (.ref 199), (.ref 200), (.int 435 0), (.int 96 0), (.str (zS "/claim/cut.py") 436)]))
noncomputable def hp_o_248 (x0 : Params) : Obj := (zO (.type "function") (.func (FuncData.mk (zS "put") (zS "BitsOut.put") (zfA (zm 11 1)) (FuncBody.stmts (zfB (zm 11 1))) (zfS (zm 11 1)) 3 [] Value.none Value.none Value.none (.str (zS "paperhold.bits") 252) none (.ref 201) Value.none 0)))
noncomputable def hp_o_249 (x0 : Params) : Obj := (zO (.type "tuple") (.seq #[] 0))
noncomputable def hp_o_250 (x0 : Params) : Obj := (zO Value.none (.fields #[]))
noncomputable def hp_o_251 (x0 : Params) : Obj := (zO (.type "tuple") (.seq #[(.str (zS "self") 441)] 0))
noncomputable def hp_o_252 (x0 : Params) : Obj := (zO (.type "tuple") (.seq #[] 0))
noncomputable def hp_o_253 (x0 : Params) : Obj := (zO Value.none (.func (FuncData.mk (zS "align") (zS "BitsOut.align") (zfA (zm 11 2)) (FuncBody.stmts (zfB (zm 11 2))) (zfS (zm 11 2)) 0 [] Value.none Value.none Value.none Value.none none Value.none Value.none 0)))
noncomputable def hp_o_254 (x0 : Params) : Obj := (zO (.type "code") (.fields #[(.str (zS "align") 438), (.str (zS "BitsOut.align") 439), (.str (zS "/claim/cut.py") 440), (.int 105 0), (.int 1 0), (.int 0 0), (.int 0 0), (.int 3 0), (.ref 203), (.bool true), (.int 181 0), (.ref 204), Value.none, (.ref 205), (.ref 206), (.ref 207), (.int 442 0), (.int 105 0), (.str (zS "/claim/cut.py") 443)]))
noncomputable def hp_o_255 (x0 : Params) : Obj := (zO (.type "function") (.func (FuncData.mk (zS "align") (zS "BitsOut.align") (zfA (zm 11 2)) (FuncBody.stmts (zfB (zm 11 2))) (zfS (zm 11 2)) 3 [] Value.none Value.none Value.none (.str (zS "paperhold.bits") 252) none (.ref 208) Value.none 0)))
noncomputable def hp_o_256 (x0 : Params) : Obj := (zO (.type "tuple") (.seq #[] 0))
noncomputable def hp_o_257 (x0 : Params) : Obj := (zO Value.none (.fields #[]))
noncomputable def hp_o_258 (x0 : Params) : Obj := (zO (.type "tuple") (.seq #[(.str (zS "self") 448), (.str (zS "octets") 449)] 0))
noncomputable def hp_o_259 (x0 : Params) : Obj := (zO (.type "tuple") (.seq #[] 0))
noncomputable def hp_o_260 (x0 : Params) : Obj := (zO Value.none (.func (FuncData.mk (zS "put_octets") (zS "BitsOut.put_octets") (zfA (zm 11 3)) (FuncBody.stmts (zfB (zm 11 3))) (zfS (zm 11 3)) 0 [] Value.none Value.none Value.none Value.none none Value.none Value.none 0)))
noncomputable def hp_o_261 (x0 : Params) : Obj := (zO (.type "code") (.fields #[(.str (zS "put_octets") 445), (.str (zS "BitsOut.put_octets") 446), (.str (zS "/claim/cut.py") 447), (.int 109 0), (.int 2 0), (.int 0 0), (.int 0 0), (.int 3 0), (.ref 210), (.bool true), (.int 181 0), (.ref 211), Value.none, (.ref 212), (.ref 213), (.ref 214), (.int 450 0), (.int 109 0), (.str (zS "/claim/cut.py") 451)]))
noncomputable def hp_o_262 (x0 : Params) : Obj := (zO (.type "function") (.func (FuncData.mk (zS "put_octets") (zS "BitsOut.put_octets") (zfA (zm 11 3)) (FuncBody.stmts (zfB (zm 11 3))) (zfS (zm 11 3)) 3 [] Value.none Value.none Value.none (.str (zS "paperhold.bits") 252) none (.ref 215) Value.none 0)))
noncomputable def hp_o_263 (x0 : Params) : Obj := (zO (.type "tuple") (.seq #[] 0))
noncomputable def hp_o_264 (x0 : Params) : Obj := (zO Value.none (.fields #[]))
noncomputable def hp_o_265 (x0 : Params) : Obj := (zO (.type "tuple") (.seq #[(.str (zS "self") 456)] 0))
noncomputable def hp_o_266 (x0 : Params) : Obj := (zO (.type "tuple") (.seq #[] 0))
noncomputable def hp_o_267 (x0 : Params) : Obj := (zO Value.none (.func (FuncData.mk (zS "bit_count") (zS "BitsOut.bit_count") (zfA (zm 11 4)) (FuncBody.stmts (zfB (zm 11 4))) (zfS (zm 9 1)) 0 [] Value.none Value.none Value.none Value.none none Value.none Value.none 0)))
noncomputable def hp_o_268 (x0 : Params) : Obj := (zO (.type "code") (.fields #[(.str (zS "bit_count") 453), (.str (zS "BitsOut.bit_count") 454), (.str (zS "/claim/cut.py") 455), (.int 113 0), (.int 1 0), (.int 0 0), (.int 0 0), (.int 3 0), (.ref 217), (.bool true), (.int 181 0), (.ref 218), Value.none, (.ref 219), (.ref 220), (.ref 221), (.int 457 0), (.int 113 0), (.str (zS "/claim/cut.py") 458)]))
noncomputable def hp_o_269 (x0 : Params) : Obj := (zO (.type "function") (.func (FuncData.mk (zS "bit_count") (zS "BitsOut.bit_count") (zfA (zm 11 4)) (FuncBody.stmts (zfB (zm 11 4))) (zfS (zm 9 1)) 3 [] Value.none Value.none Value.none (.str (zS "paperhold.bits") 252) none (.ref 222) Value.none 0)))
noncomputable def hp_o_270 (x0 : Params) : Obj := (zO (.type "tuple") (.seq #[] 0))
noncomputable def hp_o_271 (x0 : Params) : Obj := (zO Value.none (.fields #[]))
noncomputable def hp_o_272 (x0 : Params) : Obj := (zO (.type "tuple") (.seq #[(.str (zS "self") 463)] 0))
noncomputable def hp_o_273 (x0 : Params) : Obj := (zO (.type "tuple") (.seq #[] 0))
noncomputable def hp_o_274 (x0 : Params) : Obj := (zO Value.none (.func (FuncData.mk (zS "octets") (zS "BitsOut.octets") (zfA (zm 11 5)) (FuncBody.stmts (zfB (zm 11 5))) (zfS (zm 11 5)) 0 [] Value.none Value.none Value.none Value.none none Value.none Value.none 0)))
noncomputable def hp_o_275 (x0 : Params) : Obj := (zO (.type "code") (.fields #[(.str (zS "octets") 460), (.str (zS "BitsOut.octets") 461), (.str (zS "/claim/cut.py") 462), (.int 116 0), (.int 1 0), (.int 0 0), (.int 0 0), (.int 3 0), (.ref 224), (.bool true), (.int 181 0), (.ref 225), Value.none, (.ref 226), (.ref 227), (.ref 228), (.int 464 0), (.int 116 0), (.str (zS "/claim/cut.py") 465)]))
noncomputable def hp_o_276 (x0 : Params) : Obj := (zO (.type "function") (.func (FuncData.mk (zS "octets") (zS "BitsOut.octets") (zfA (zm 11 5)) (FuncBody.stmts (zfB (zm 11 5))) (zfS (zm 11 5)) 3 [] Value.none Value.none Value.none (.str (zS "paperhold.bits") 252) none (.ref 229) Value.none 0)))
noncomputable def hp_o_277 (x0 : Params) : Obj := (zO (.type "tuple") (.seq #[(.str (zS "count") 467), (.str (zS "held") 468), (.str (zS "made") 469)] 0))
noncomputable def hp_o_278 (x0 : Params) : Obj := (zO (.type "dict") (.dict #[(zE x0 "__module__" 417 (.str (zS "paperhold.bits") 252)), (zE x0 "__firstlineno__" 421 (.int 89 420)), (zE x0 "__init__" 428 (.ref 195)), (zE x0 "put" 437 (.ref 202)), (zE x0 "align" 444 (.ref 209)), (zE x0 "put_octets" 452 (.ref 216)), (zE x0 "bit_count" 459 (.ref 223)), (zE x0 "octets" 466 (.ref 230)), (zE x0 "__static_attributes__" 470 (.ref 231)), (zE x0 "__dict__" 472 (.ref 234)), (zE x0 "__weakref__" 474 (.ref 235)), (zE x0 "__doc__" 475 Value.none)] 4))
noncomputable def hp_o_279 (x0 : Params) : Obj := (PySem.Obj.mk (.type "type") none (.cls (PySem.ClassData.mk (zS "BitsOut") [(.type "object")] [(.ref 233), (.type "object")] 232 (zS "BitsOut") true [] [] false none false)) #[none, none, (some (.str (zS "BitsOut") 410)), (some (.str (zS "BitsOut") 418)), (some (.builtin "object.__new__")), (some (.bool true))])
noncomputable def hp_o_280 (x0 : Params) : Obj := (zO (.type "getset_descriptor") (.fields #[(.str (zS "__dict__") 471), (.ref 233), (.builtin "function.__dict__"), (.builtin "function.__dict__#set")]))
noncomputable def hp_o_281 (x0 : Params) : Obj := (zO (.type "getset_descriptor") (.fields #[(.str (zS "__weakref__") 473), (.ref 233), (.builtin "ExceptionGroup.__weakref__"), Value.none]))
noncomputable def hp_o_282 (x0 : Params) : Obj := (zO (.type "super") (.fields #[(.ref 233), (.ref 233), (.ref 233)]))
noncomputable def hp_o_283 (x0 : Params) : Obj := (zO (.type "builtin_function_or_method") (.fields #[(.builtin "object.__init_subclass__"), (.ref 233)]))
noncomputable def hp_o_284 (x0 : Params) : Obj := (zO (.type "dict") (.dict #[(zE x0 "__name__" 165 (.str (zS "law_nn0201_01") 547)), (zE x0 "__doc__" 166 Value.none), (zE x0 "__package__" 167 Value.none), (zE x0 "__loader__" 168 (.builtin "__main__.__loader__#opaque")), (zE x0 "__spec__" 169 Value.none), (zE x0 "__annotations__" 170 (.ref 6)), (zE x0 "__builtins__" 171 (.ref 4)), (zE x0 "__file__" 173 (.str (zS "/claim/cut.py") 172)), (zE x0 "__cached__" 174 Value.none), (zE x0 "_wall" 193 (.ref 21)), (zE x0 "PaperError" 235 (.ref 46)), (zE x0 "FilterFault" 251 (.ref 59)), (zE x0 "OCTET" 255 (.int 8 254)), (zE x0 "low_bits" 263 (.ref 68)), (zE x0 "turned_about" 273 (.ref 75)), (zE x0 "check_fit" 281 (.ref 82)), (zE x0 "BitsIn" 354 (.ref 135)), (zE x0 "HighBitsIn" 409 (.ref 177)), (zE x0 "BitsOut" 477 (.ref 233)), (zE x0 "HighBitsOut" 530 (.ref 275)), (zE x0 "samples" 536 (.ref 284)), (zE x0 "joined_samples" 546 (.ref 291))] 22))
noncomputable def hp_o_285 (x0 : Params) : Obj := (zO Value.none (.fields #[(.int 1 0), (.int 0 0), (.ref 20), (.int 5 0), (.int 0 0), (.ref 27), (.int 14 0), (.int 0 0), (.ref 55), (.int 18 0), (.int 0 0), (.ref 67), (.int 20 0), (.int 0 0), (.ref 74), (.int 25 0), (.int 0 0), (.ref 81), (.int 28 0), (.int 0 0), (.ref 88), (.int 63 0), (.int 0 0), (.ref 145), (.int 89 0), (.int 0 0), (.ref 187), (.int 120 0), (.int 0 0), (.ref 243), (.int 144 0), (.int 0 0), (.ref 283), (.int 147 0), (.int 0 0), (.ref 290)]))
noncomputable def hp_o_286 (x0 : Params) : Obj := (zO (.type "tuple") (.seq #[] 0))
noncomputable def hp_o_287 (x0 : Params) : Obj := (zO (.type "builtin_function_or_method") (.fields #[(.builtin "type.__prepare__"), (.type "type")]))
noncomputable def hp_o_288 (x0 : Params) : Obj := (zO (.type "dict") (.dict #[(zE x0 "__module__" 485 (.str (zS "paperhold.bits") 252)), (zE x0 "__qualname__" 487 (.str (zS "HighBitsOut") 486)), (zE x0 "__firstlineno__" 489 (.int 120 488)), (zE x0 "__init__" 496 (.ref 251)), (zE x0 "put" 505 (.ref 258)), (zE x0 "align" 512 (.ref 265)), (zE x0 "octets" 519 (.ref 272)), (zE x0 "__static_attributes__" 523 (.ref 273))] 8))
noncomputable def hp_o_289 (x0 : Params) : Obj := (zO (.type "tuple") (.seq #[] 0))
noncomputable def hp_o_290 (x0 : Params) : Obj := (zO Value.none (.fields #[(.int 122 0), (.int 4 0), (.ref 250), (.int 127 0), (.int 4 0), (.ref 257), (.int 136 0), (.int 4 0), (.ref 264), (.int 140 0), (.int 4 0), (.ref 271)]))
noncomputable def hp_o_291 (x0 : Params) : Obj := (zO (.type "code") (.fields #[(.str (zS "HighBitsOut") 480), (.str (zS "HighBitsOut") 481), (.str (zS "/claim/cut.py") 482), (.int 120 0), (.int 0 0), (.int 0 0), (.int 0 0), (.int 0 0), (.ref 241), (.bool false), (.int 181 0), (.ref 242), Value.none, Value.none, Value.none, Value.none, (.int 483 0), (.int 120 0), (.str (zS "/claim/cut.py") 484)]))
noncomputable def hp_o_292 (x0 : Params) : Obj := (PySem.Obj.mk (.type "frame") none PySem.Data.plain #[(some (.ref 243)), (some (.ref 3)), (some (.ref 240)), none, (some (.str (zS "paperhold.bits") 252)), none, (some (.ref 0))])
noncomputable def hp_o_293 (x0 : Params) : Obj := (zO (.type "tuple") (.seq #[] 0))
noncomputable def hp_o_294 (x0 : Params) : Obj := (zO Value.none (.fields #[]))
noncomputable def hp_o_295 (x0 : Params) : Obj := (zO (.type "tuple") (.seq #[(.str (zS "self") 493)] 0))
noncomputable def hp_o_296 (x0 : Params) : Obj := (zO (.type "tuple") (.seq #[] 0))
noncomputable def hp_o_297 (x0 : Params) : Obj := (zO Value.none (.func (FuncData.mk (zS "__init__") (zS "HighBitsOut.__init__") (zfA (zm 12 0)) (FuncBody.stmts (zfB (zm 12 0))) (zfS (zm 11 0)) 0 [] Value.none Value.none Value.none Value.none none Value.none Value.none 0)))
noncomputable def hp_o_298 (x0 : Params) : Obj := (zO (.type "code") (.fields #[(.str (zS "__init__") 490), (.str (zS "HighBitsOut.__init__") 491), (.str (zS "/claim/cut.py") 492), (.int 122 0), (.int 1 0), (.int 0 0), (.int 0 0), (.int 3 0), (.ref 245), (.bool true), (.int 181 0), (.ref 246), Value.none, (.ref 247), (.ref 248), (.ref 249), (.int 494 0), (.int 122 0), (.str (zS "/claim/cut.py") 495)]))
noncomputable def hp_o_299 (x0 : Params) : Obj := (zO (.type "function") (.func (FuncData.mk (zS "__init__") (zS "HighBitsOut.__init__") (zfA (zm 12 0)) (FuncBody.stmts (zfB (zm 12 0))) (zfS (zm 11 0)) 3 [] Value.none Value.none Value.none (.str (zS "paperhold.bits") 252) none (.ref 250) Value.none 0)))
noncomputable def hp_o_300 (x0 : Params) : Obj := (zO (.type "tuple") (.seq #[] 0))
noncomputable def hp_o_301 (x0 : Params) : Obj := (zO Value.none (.fields #[]))
noncomputable def hp_o_302 (x0 : Params) : Obj := (zO (.type "tuple") (.seq #[(.str (zS "self") 500), (.str (zS "value") 501), (.str (zS "count") 502)] 0))
noncomputable def hp_o_303 (x0 : Params) : Obj := (zO (.type "tuple") (.seq #[] 0))
noncomputable def hp_o_304 (x0 : Params) : Obj := (zO Value.none (.func (FuncData.mk (zS "put") (zS "HighBitsOut.put") (zfA (zm 12 1)) (FuncBody.stmts (zfB (zm 12 1))) (zfS (zm 11 1)) 0 [] Value.none Value.none Value.none Value.none none Value.none Value.none 0)))
noncomputable def hp_o_305 (x0 : Params) : Obj := (zO (.type "code") (.fields #[(.str (zS "put") 497), (.str (zS "HighBitsOut.put") 498), (.str (zS "/claim/cut.py") 499), (.int 127 0), (.int 3 0), (.int 0 0), (.int 0 0), (.int 3 0), (.ref 252), (.bool true), (.int 181 0), (.ref 253), Value.none, (.ref 254), (.ref 255), (.ref 256), (.int 503 0), (.int 127 0), (.str (zS "/claim/cut.py") 504)]))
noncomputable def hp_o_306 (x0 : Params) : Obj := (zO (.type "function") (.func (FuncData.mk (zS "put") (zS "HighBitsOut.put") (zfA (zm 12 1)) (FuncBody.stmts (zfB (zm 12 1))) (zfS (zm 11 1)) 3 [] Value.none Value.none Value.none (.str (zS "paperhold.bits") 252) none (.ref 257) Value.none 0)))
noncomputable def hp_o_307 (x0 : Params) : Obj := (zO (.type "tuple") (.seq #[] 0))
noncomputable def hp_o_308 (x0 : Params) : Obj := (zO Value.none (.fields #[]))
noncomputable def hp_o_309 (x0 : Params) : Obj := (zO (.type "tuple") (.seq #[(.str (zS "self") 509)] 0))
noncomputable def hp_o_310 (x0 : Params) : Obj := (zO (.type "tuple") (.seq #[] 0))
noncomputable def hp_o_311 (x0 : Params) : Obj := (zO Value.none (.func (FuncData.mk (zS "align") (zS "HighBitsOut.align") (zfA (zm 12 2)) (FuncBody.stmts (zfB (zm 12 2))) (zfS (zm 11 2)) 0 [] Value.none Value.none Value.none Value.none none Value.none Value.none 0)))
noncomputable def hp_o_312 (x0 : Params) : Obj := (zO (.type "code") (.fields #[(.str (zS "align") 506), (.str (zS "HighBitsOut.align") 507), (.str (zS "/claim/cut.py") 508), (.int 136 0), (.int 1 0), (.int 0 0), (.int 0 0), (.int 3 0), (.ref 259), (.bool true), (.int 181 0), (.ref 260), Value.none, (.ref 261), (.ref 262), (.ref 263), (.int 510 0), (.int 136 0), (.str (zS "/claim/cut.py") 511)]))
noncomputable def hp_o_313 (x0 : Params) : Obj := (zO (.type "function") (.func (FuncData.mk (zS "align") (zS "HighBitsOut.align") (zfA (zm 12 2)) (FuncBody.stmts (zfB (zm 12 2))) (zfS (zm 11 2)) 3 [] Value.none Value.none Value.none (.str (zS "paperhold.bits") 252) none (.ref 264) Value.none 0)))
noncomputable def hp_o_314 (x0 : Params) : Obj := (zO (.type "tuple") (.seq #[] 0))
noncomputable def hp_o_315 (x0 : Params) : Obj := (zO Value.none (.fields #[]))
noncomputable def hp_o_316 (x0 : Params) : Obj := (zO (.type "tuple") (.seq #[(.str (zS "self") 516)] 0))
noncomputable def hp_o_317 (x0 : Params) : Obj := (zO (.type "tuple") (.seq #[] 0))
noncomputable def hp_o_318 (x0 : Params) : Obj := (zO Value.none (.func (FuncData.mk (zS "octets") (zS "HighBitsOut.octets") (zfA (zm 12 3)) (FuncBody.stmts (zfB (zm 12 3))) (zfS (zm 12 3)) 0 [] Value.none Value.none Value.none Value.none none Value.none Value.none 0)))
noncomputable def hp_o_319 (x0 : Params) : Obj := (zO (.type "code") (.fields #[(.str (zS "octets") 513), (.str (zS "HighBitsOut.octets") 514), (.str (zS "/claim/cut.py") 515), (.int 140 0), (.int 1 0), (.int 0 0), (.int 0 0), (.int 3 0), (.ref 266), (.bool true), (.int 181 0), (.ref 267), Value.none, (.ref 268), (.ref 269), (.ref 270), (.int 517 0), (.int 140 0), (.str (zS "/claim/cut.py") 518)]))
noncomputable def hp_o_320 (x0 : Params) : Obj := (zO (.type "function") (.func (FuncData.mk (zS "octets") (zS "HighBitsOut.octets") (zfA (zm 12 3)) (FuncBody.stmts (zfB (zm 12 3))) (zfS (zm 12 3)) 3 [] Value.none Value.none Value.none (.str (zS "paperhold.bits") 252) none (.ref 271) Value.none 0)))
noncomputable def hp_o_321 (x0 : Params) : Obj := (zO (.type "tuple") (.seq #[(.str (zS "count") 520), (.str (zS "held") 521), (.str (zS "made") 522)] 0))
noncomputable def hp_o_322 (x0 : Params) : Obj := (zO (.type "dict") (.dict #[(zE x0 "__module__" 485 (.str (zS "paperhold.bits") 252)), (zE x0 "__firstlineno__" 489 (.int 120 488)), (zE x0 "__init__" 496 (.ref 251)), (zE x0 "put" 505 (.ref 258)), (zE x0 "align" 512 (.ref 265)), (zE x0 "octets" 519 (.ref 272)), (zE x0 "__static_attributes__" 523 (.ref 273)), (zE x0 "__dict__" 525 (.ref 276)), (zE x0 "__weakref__" 527 (.ref 277)), (zE x0 "__doc__" 528 Value.none)] 4))
noncomputable def hp_o_323 (x0 : Params) : Obj := (PySem.Obj.mk (.type "type") none (.cls (PySem.ClassData.mk (zS "HighBitsOut") [(.type "object")] [(.ref 275), (.type "object")] 274 (zS "HighBitsOut") true [] [] false none false)) #[none, none, (some (.str (zS "HighBitsOut") 478)), (some (.str (zS "HighBitsOut") 486)), (some (.builtin "object.__new__")), (some (.bool true))])
noncomputable def hp_o_324 (x0 : Params) : Obj := (zO (.type "getset_descriptor") (.fields #[(.str (zS "__dict__") 524), (.ref 275), (.builtin "function.__dict__"), (.builtin "function.__dict__#set")]))
noncomputable def hp_o_325 (x0 : Params) : Obj := (zO (.type "getset_descriptor") (.fields #[(.str (zS "__weakref__") 526), (.ref 275), (.builtin "ExceptionGroup.__weakref__"), Value.none]))
noncomputable def hp_o_326 (x0 : Params) : Obj := (zO (.type "super") (.fields #[(.ref 275), (.ref 275), (.ref 275)]))
noncomputable def hp_o_327 (x0 : Params) : Obj := (zO (.type "builtin_function_or_method") (.fields #[(.builtin "object.__init_subclass__"), (.ref 275)]))
noncomputable def hp_o_328 (x0 : Params) : Obj := (zO (.type "tuple") (.seq #[] 0))
noncomputable def hp_o_329 (x0 : Params) : Obj := (zO Value.none (.fields #[]))
noncomputable def hp_o_330 (x0 : Params) : Obj := (zO Value.none (.func (FuncData.mk (zS "samples") (zS "samples") (zfA (zst 13)) (FuncBody.stmts (zfB (zst 13))) (zfS (zst 13)) 0 [] Value.none Value.none Value.none Value.none none Value.none Value.none 0)))
noncomputable def hp_o_331 (x0 : Params) : Obj := (zO (.type "code") (.fields #[(.str (zS "samples") 531), (.str (zS "samples") 532), (.str (zS "/claim/cut.py") 533), (.int 144 0), (.int 3 0), (.int 0 0), (.int 0 0), (.int 3 0), (.ref 280), (.bool true), (.int 181 0), (.ref 281), Value.none, Value.none, Value.none, (.ref 282), (.int 534 0), (.int 144 0), (.str (zS "/claim/cut.py") 535)]))
noncomputable def hp_o_332 (x0 : Params) : Obj := (zO (.type "function") (.func (FuncData.mk (zS "samples") (zS "samples") (zfA (zst 13)) (FuncBody.stmts (zfB (zst 13))) (zfS (zst 13)) 3 [] Value.none Value.none Value.none (.str (zS "paperhold.bits") 252) none (.ref 283) Value.none 0)))
noncomputable def hp_o_333 (x0 : Params) : Obj := (zO (.type "tuple") (.seq #[] 0))
noncomputable def hp_o_334 (x0 : Params) : Obj := (zO Value.none (.fields #[]))
noncomputable def hp_o_335 (x0 : Params) : Obj := (zO (.type "tuple") (.seq #[(.str (zS "values") 540), (.str (zS "bits") 541), (.str (zS "target") 542), (.str (zS "value") 543)] 0))
noncomputable def hp_o_336 (x0 : Params) : Obj := (zO (.type "tuple") (.seq #[] 0))
noncomputable def hp_o_337 (x0 : Params) : Obj := (zO Value.none (.func (FuncData.mk (zS "joined_samples") (zS "joined_samples") (zfA (zst 14)) (FuncBody.stmts (zfB (zst 14))) (zfS (zst 14)) 0 [] Value.none Value.none Value.none Value.none none Value.none Value.none 0)))
noncomputable def hp_o_338 (x0 : Params) : Obj := (zO (.type "code") (.fields #[(.str (zS "joined_samples") 537), (.str (zS "joined_samples") 538), (.str (zS "/claim/cut.py") 539), (.int 147 0), (.int 2 0), (.int 0 0), (.int 0 0), (.int 3 0), (.ref 285), (.bool true), (.int 181 0), (.ref 286), Value.none, (.ref 287), (.ref 288), (.ref 289), (.int 544 0), (.int 147 0), (.str (zS "/claim/cut.py") 545)]))
noncomputable def hp_o_339 (x0 : Params) : Obj := (zO (.type "function") (.func (FuncData.mk (zS "joined_samples") (zS "joined_samples") (zfA (zst 14)) (FuncBody.stmts (zfB (zst 14))) (zfS (zst 14)) 3 [] Value.none Value.none Value.none (.str (zS "paperhold.bits") 252) none (.ref 290) Value.none 0)))
noncomputable def hp_o_340 (x0 : Params) : Obj := (zO (.type "dict") (.dict #[(zE x0 "__name__" 165 (.str (zS "law_nn0201_01") 547)), (zE x0 "__doc__" 166 Value.none), (zE x0 "__package__" 167 Value.none), (zE x0 "__loader__" 168 (.builtin "__main__.__loader__#opaque")), (zE x0 "__spec__" 169 Value.none), (zE x0 "__annotations__" 170 (.ref 6)), (zE x0 "__builtins__" 171 (.ref 4)), (zE x0 "__file__" 173 (.str (zS "/claim/cut.py") 172)), (zE x0 "__cached__" 174 Value.none), (zE x0 "_wall" 193 (.ref 21)), (zE x0 "PaperError" 235 (.ref 46)), (zE x0 "FilterFault" 251 (.ref 59)), (zE x0 "OCTET" 255 (.int 8 254)), (zE x0 "low_bits" 263 (.ref 68)), (zE x0 "turned_about" 273 (.ref 75)), (zE x0 "check_fit" 281 (.ref 82)), (zE x0 "BitsIn" 354 (.ref 135)), (zE x0 "HighBitsIn" 409 (.ref 177)), (zE x0 "BitsOut" 477 (.ref 233)), (zE x0 "HighBitsOut" 530 (.ref 275)), (zE x0 "samples" 536 (.ref 284)), (zE x0 "joined_samples" 546 (.ref 291)), (zE x0 "_law_row" 554 (.ref 296)), (zE x0 "_law_number" 564 (.ref 303)), (zE x0 "_law_filled" 571 (.ref 310)), (zE x0 "_law_octets" 577 (.ref 315)), (zE x0 "_law_refuses" 587 (.ref 322)), (zE x0 "_law_taken" 596 (.ref 329)), (zE x0 "_law_written" 602 (.ref 334)), (zE x0 "_law_is_read" 620 (.ref 341)), (zE x0 "law" 626 (.ref 346))] 31))
noncomputable def hp_o_341 (x0 : Params) : Obj := (zO Value.none (.fields #[(.int 1 0), (.int 0 0), (.ref 20), (.int 5 0), (.int 0 0), (.ref 27), (.int 14 0), (.int 0 0), (.ref 55), (.int 18 0), (.int 0 0), (.ref 67), (.int 20 0), (.int 0 0), (.ref 74), (.int 25 0), (.int 0 0), (.ref 81), (.int 28 0), (.int 0 0), (.ref 88), (.int 63 0), (.int 0 0), (.ref 145), (.int 89 0), (.int 0 0), (.ref 187), (.int 120 0), (.int 0 0), (.ref 243), (.int 144 0), (.int 0 0), (.ref 283), (.int 147 0), (.int 0 0), (.ref 290), (.int 153 0), (.int 0 0), (.ref 295), (.int 156 0), (.int 0 0), (.ref 302), (.int 161 0), (.int 0 0), (.ref 309), (.int 163 0), (.int 0 0), (.ref 314), (.int 166 0), (.int 0 0), (.ref 321), (.int 173 0), (.int 0 0), (.ref 328), (.int 178 0), (.int 0 0), (.ref 333), (.int 210 0), (.int 0 0), (.ref 340), (.int 234 0), (.int 0 0), (.ref 345)]))
noncomputable def hp_o_342 (x0 : Params) : Obj := (zO (.type "tuple") (.seq #[] 0))
noncomputable def hp_o_343 (x0 : Params) : Obj := (zO Value.none (.fields #[]))
noncomputable def hp_o_344 (x0 : Params) : Obj := (zO Value.none (.func (FuncData.mk (zS "_law_row") (zS "_law_row") (zfA (zst 16)) (FuncBody.stmts (zfB (zst 16))) (zfS (zst 16)) 0 [] Value.none Value.none Value.none Value.none none Value.none Value.none 0)))
noncomputable def hp_o_345 (x0 : Params) : Obj := (zO (.type "code") (.fields #[(.str (zS "_law_row") 549), (.str (zS "_law_row") 550), (.str (zS "/claim/cut.py") 551), (.int 153 0), (.int 3 0), (.int 0 0), (.int 0 0), (.int 3 0), (.ref 292), (.bool true), (.int 181 0), (.ref 293), Value.none, Value.none, Value.none, (.ref 294), (.int 552 0), (.int 153 0), (.str (zS "/claim/cut.py") 553)]))
noncomputable def hp_o_346 (x0 : Params) : Obj := (zO (.type "function") (.func (FuncData.mk (zS "_law_row") (zS "_law_row") (zfA (zst 16)) (FuncBody.stmts (zfB (zst 16))) (zfS (zst 16)) 3 [] Value.none Value.none Value.none (.str (zS "law_nn0201_01") 547) none (.ref 295) Value.none 0)))
noncomputable def hp_o_347 (x0 : Params) : Obj := (zO (.type "tuple") (.seq #[] 0))
noncomputable def hp_o_348 (x0 : Params) : Obj := (zO Value.none (.fields #[]))
noncomputable def hp_o_349 (x0 : Params) : Obj := (zO (.type "tuple") (.seq #[(.str (zS "row") 558), (.str (zS "is_high") 559), (.str (zS "value") 560), (.str (zS "bit") 561)] 0))
noncomputable def hp_o_350 (x0 : Params) : Obj := (zO (.type "tuple") (.seq #[] 0))
noncomputable def hp_o_351 (x0 : Params) : Obj := (zO Value.none (.func (FuncData.mk (zS "_law_number") (zS "_law_number") (zfA (zst 17)) (FuncBody.stmts (zfB (zst 17))) (zfS (zst 17)) 0 [] Value.none Value.none Value.none Value.none none Value.none Value.none 0)))
noncomputable def hp_o_352 (x0 : Params) : Obj := (zO (.type "code") (.fields #[(.str (zS "_law_number") 555), (.str (zS "_law_number") 556), (.str (zS "/claim/cut.py") 557), (.int 156 0), (.int 2 0), (.int 0 0), (.int 0 0), (.int 3 0), (.ref 297), (.bool true), (.int 181 0), (.ref 298), Value.none, (.ref 299), (.ref 300), (.ref 301), (.int 562 0), (.int 156 0), (.str (zS "/claim/cut.py") 563)]))
noncomputable def hp_o_353 (x0 : Params) : Obj := (zO (.type "function") (.func (FuncData.mk (zS "_law_number") (zS "_law_number") (zfA (zst 17)) (FuncBody.stmts (zfB (zst 17))) (zfS (zst 17)) 3 [] Value.none Value.none Value.none (.str (zS "law_nn0201_01") 547) none (.ref 302) Value.none 0)))
noncomputable def hp_o_354 (x0 : Params) : Obj := (zO (.type "tuple") (.seq #[] 0))
noncomputable def hp_o_355 (x0 : Params) : Obj := (zO Value.none (.fields #[]))
noncomputable def hp_o_356 (x0 : Params) : Obj := (zO (.type "tuple") (.seq #[(.str (zS "row") 568)] 0))
noncomputable def hp_o_357 (x0 : Params) : Obj := (zO (.type "tuple") (.seq #[] 0))
noncomputable def hp_o_358 (x0 : Params) : Obj := (zO Value.none (.func (FuncData.mk (zS "_law_filled") (zS "_law_filled") (zfA (zst 18)) (FuncBody.stmts (zfB (zst 18))) (zfS (zst 18)) 0 [] Value.none Value.none Value.none Value.none none Value.none Value.none 0)))
noncomputable def hp_o_359 (x0 : Params) : Obj := (zO (.type "code") (.fields #[(.str (zS "_law_filled") 565), (.str (zS "_law_filled") 566), (.str (zS "/claim/cut.py") 567), (.int 161 0), (.int 1 0), (.int 0 0), (.int 0 0), (.int 3 0), (.ref 304), (.bool true), (.int 181 0), (.ref 305), Value.none, (.ref 306), (.ref 307), (.ref 308), (.int 569 0), (.int 161 0), (.str (zS "/claim/cut.py") 570)]))
noncomputable def hp_o_360 (x0 : Params) : Obj := (zO (.type "function") (.func (FuncData.mk (zS "_law_filled") (zS "_law_filled") (zfA (zst 18)) (FuncBody.stmts (zfB (zst 18))) (zfS (zst 18)) 3 [] Value.none Value.none Value.none (.str (zS "law_nn0201_01") 547) none (.ref 309) Value.none 0)))
noncomputable def hp_o_361 (x0 : Params) : Obj := (zO (.type "tuple") (.seq #[] 0))
noncomputable def hp_o_362 (x0 : Params) : Obj := (zO Value.none (.fields #[]))
noncomputable def hp_o_363 (x0 : Params) : Obj := (zO Value.none (.func (FuncData.mk (zS "_law_octets") (zS "_law_octets") (zfA (zst 19)) (FuncBody.stmts (zfB (zst 19))) (zfS (zst 19)) 0 [] Value.none Value.none Value.none Value.none none Value.none Value.none 0)))
noncomputable def hp_o_364 (x0 : Params) : Obj := (zO (.type "code") (.fields #[(.str (zS "_law_octets") 572), (.str (zS "_law_octets") 573), (.str (zS "/claim/cut.py") 574), (.int 163 0), (.int 2 0), (.int 0 0), (.int 0 0), (.int 3 0), (.ref 311), (.bool true), (.int 181 0), (.ref 312), Value.none, Value.none, Value.none, (.ref 313), (.int 575 0), (.int 163 0), (.str (zS "/claim/cut.py") 576)]))
noncomputable def hp_o_365 (x0 : Params) : Obj := (zO (.type "function") (.func (FuncData.mk (zS "_law_octets") (zS "_law_octets") (zfA (zst 19)) (FuncBody.stmts (zfB (zst 19))) (zfS (zst 19)) 3 [] Value.none Value.none Value.none (.str (zS "law_nn0201_01") 547) none (.ref 314) Value.none 0)))
noncomputable def hp_o_366 (x0 : Params) : Obj := (zO (.type "tuple") (.seq #[] 0))
noncomputable def hp_o_367 (x0 : Params) : Obj := (zO Value.none (.fields #[]))
noncomputable def hp_o_368 (x0 : Params) : Obj := (zO (.type "tuple") (.seq #[(.str (zS "writer") 581), (.str (zS "value") 582), (.str (zS "count") 583), (.str (zS "is_refused") 584)] 0))
noncomputable def hp_o_369 (x0 : Params) : Obj := (zO (.type "tuple") (.seq #[] 0))
noncomputable def hp_o_370 (x0 : Params) : Obj := (zO Value.none (.func (FuncData.mk (zS "_law_refuses") (zS "_law_refuses") (zfA (zst 20)) (FuncBody.stmts (zfB (zst 20))) (zfS (zst 20)) 0 [] Value.none Value.none Value.none Value.none none Value.none Value.none 0)))
noncomputable def hp_o_371 (x0 : Params) : Obj := (zO (.type "code") (.fields #[(.str (zS "_law_refuses") 578), (.str (zS "_law_refuses") 579), (.str (zS "/claim/cut.py") 580), (.int 166 0), (.int 3 0), (.int 0 0), (.int 0 0), (.int 3 0), (.ref 316), (.bool true), (.int 181 0), (.ref 317), Value.none, (.ref 318), (.ref 319), (.ref 320), (.int 585 0), (.int 166 0), (.str (zS "/claim/cut.py") 586)]))
noncomputable def hp_o_372 (x0 : Params) : Obj := (zO (.type "function") (.func (FuncData.mk (zS "_law_refuses") (zS "_law_refuses") (zfA (zst 20)) (FuncBody.stmts (zfB (zst 20))) (zfS (zst 20)) 3 [] Value.none Value.none Value.none (.str (zS "law_nn0201_01") 547) none (.ref 321) Value.none 0)))
noncomputable def hp_o_373 (x0 : Params) : Obj := (zO (.type "tuple") (.seq #[] 0))
noncomputable def hp_o_374 (x0 : Params) : Obj := (zO Value.none (.fields #[]))
noncomputable def hp_o_375 (x0 : Params) : Obj := (zO (.type "tuple") (.seq #[(.str (zS "reader") 591), (.str (zS "way") 592), (.str (zS "count") 593)] 0))
noncomputable def hp_o_376 (x0 : Params) : Obj := (zO (.type "tuple") (.seq #[] 0))
noncomputable def hp_o_377 (x0 : Params) : Obj := (zO Value.none (.func (FuncData.mk (zS "_law_taken") (zS "_law_taken") (zfA (zst 21)) (FuncBody.stmts (zfB (zst 21))) (zfS (zst 21)) 0 [] Value.none Value.none Value.none Value.none none Value.none Value.none 0)))
noncomputable def hp_o_378 (x0 : Params) : Obj := (zO (.type "code") (.fields #[(.str (zS "_law_taken") 588), (.str (zS "_law_taken") 589), (.str (zS "/claim/cut.py") 590), (.int 173 0), (.int 3 0), (.int 0 0), (.int 0 0), (.int 3 0), (.ref 323), (.bool true), (.int 181 0), (.ref 324), Value.none, (.ref 325), (.ref 326), (.ref 327), (.int 594 0), (.int 173 0), (.str (zS "/claim/cut.py") 595)]))
noncomputable def hp_o_379 (x0 : Params) : Obj := (zO (.type "function") (.func (FuncData.mk (zS "_law_taken") (zS "_law_taken") (zfA (zst 21)) (FuncBody.stmts (zfB (zst 21))) (zfS (zst 21)) 3 [] Value.none Value.none Value.none (.str (zS "law_nn0201_01") 547) none (.ref 328) Value.none 0)))
noncomputable def hp_o_380 (x0 : Params) : Obj := (zO (.type "tuple") (.seq #[] 0))
noncomputable def hp_o_381 (x0 : Params) : Obj := (zO Value.none (.fields #[]))
noncomputable def hp_o_382 (x0 : Params) : Obj := (zO Value.none (.func (FuncData.mk (zS "_law_written") (zS "_law_written") (zfA (zst 22)) (FuncBody.stmts (zfB (zst 22))) (zfS (zst 22)) 0 [] Value.none Value.none Value.none Value.none none Value.none Value.none 0)))
noncomputable def hp_o_383 (x0 : Params) : Obj := (zO (.type "code") (.fields #[(.str (zS "_law_written") 597), (.str (zS "_law_written") 598), (.str (zS "/claim/cut.py") 599), (.int 178 0), (.int 3 0), (.int 0 0), (.int 0 0), (.int 3 0), (.ref 330), (.bool true), (.int 181 0), (.ref 331), Value.none, Value.none, Value.none, (.ref 332), (.int 600 0), (.int 178 0), (.str (zS "/claim/cut.py") 601)]))
noncomputable def hp_o_384 (x0 : Params) : Obj := (zO (.type "function") (.func (FuncData.mk (zS "_law_written") (zS "_law_written") (zfA (zst 22)) (FuncBody.stmts (zfB (zst 22))) (zfS (zst 22)) 3 [] Value.none Value.none Value.none (.str (zS "law_nn0201_01") 547) none (.ref 333) Value.none 0)))
noncomputable def hp_o_385 (x0 : Params) : Obj := (zO (.type "tuple") (.seq #[] 0))
noncomputable def hp_o_386 (x0 : Params) : Obj := (zO Value.none (.fields #[]))
noncomputable def hp_o_387 (x0 : Params) : Obj := (zO (.type "tuple") (.seq #[(.str (zS "reader") 606), (.str (zS "data") 607), (.str (zS "row") 608), (.str (zS "cells") 609), (.str (zS "place") 610), (.str (zS "is_high") 611), (.str (zS "cell") 612), (.str (zS "way") 613), (.str (zS "count") 614), (.str (zS "behind") 615), (.str (zS "due") 616), (.str (zS "found") 617)] 0))
noncomputable def hp_o_388 (x0 : Params) : Obj := (zO (.type "tuple") (.seq #[] 0))
noncomputable def hp_o_389 (x0 : Params) : Obj := (zO Value.none (.func (FuncData.mk (zS "_law_is_read") (zS "_law_is_read") (zfA (zst 23)) (FuncBody.stmts (zfB (zst 23))) (zfS (zst 23)) 0 [] Value.none Value.none Value.none Value.none none Value.none Value.none 0)))
noncomputable def hp_o_390 (x0 : Params) : Obj := (zO (.type "code") (.fields #[(.str (zS "_law_is_read") 603), (.str (zS "_law_is_read") 604), (.str (zS "/claim/cut.py") 605), (.int 210 0), (.int 6 0), (.int 0 0), (.int 0 0), (.int 3 0), (.ref 335), (.bool true), (.int 181 0), (.ref 336), Value.none, (.ref 337), (.ref 338), (.ref 339), (.int 618 0), (.int 210 0), (.str (zS "/claim/cut.py") 619)]))
noncomputable def hp_o_391 (x0 : Params) : Obj := (zO (.type "function") (.func (FuncData.mk (zS "_law_is_read") (zS "_law_is_read") (zfA (zst 23)) (FuncBody.stmts (zfB (zst 23))) (zfS (zst 23)) 3 [] Value.none Value.none Value.none (.str (zS "law_nn0201_01") 547) none (.ref 340) Value.none 0)))
noncomputable def hp_o_392 (x0 : Params) : Obj := (zO (.type "tuple") (.seq #[] 0))
noncomputable def hp_o_393 (x0 : Params) : Obj := (zO Value.none (.fields #[]))
noncomputable def hp_o_394 (x0 : Params) : Obj := (zO Value.none (.func (FuncData.mk (zS "law") (zS "law") (zfA (zst 24)) (FuncBody.stmts (zfB (zst 24))) (zfS (zst 24)) 0 [] Value.none Value.none Value.none Value.none none Value.none Value.none 0)))
noncomputable def hp_o_395 (x0 : Params) : Obj := (zO (.type "code") (.fields #[(.str (zS "law") 621), (.str (zS "law") 622), (.str (zS "/claim/cut.py") 623), (.int 234 0), (.int 1 0), (.int 0 0), (.int 0 0), (.int 3 0), (.ref 342), (.bool true), (.int 181 0), (.ref 343), Value.none, Value.none, Value.none, (.ref 344), (.int 624 0), (.int 234 0), (.str (zS "/claim/cut.py") 625)]))
noncomputable def hp_o_396 (x0 : Params) : Obj := (zO (.type "function") (.func (FuncData.mk (zS "law") (zS "law") (zfA (zst 24)) (FuncBody.stmts (zfB (zst 24))) (zfS (zst 24)) 3 [] Value.none Value.none Value.none (.str (zS "law_nn0201_01") 547) none (.ref 345) Value.none 0)))
noncomputable def hp_tree_47 (x0 : Params) : BT := (zN (boot_o_0 x0) (zN (boot_o_1 x0) (zN (boot_o_3 x0) (zL (boot_o_7 x0)) (zL (hp_o_43 x0))) (zN (boot_o_5 x0) (zL (boot_o_9 x0)) (zL (hp_o_45 x0)))) (zN (boot_o_2 x0) (zN (boot_o_4 x0) (zL (boot_o_8 x0)) (zL (hp_o_44 x0))) (zN (boot_o_6 x0) (zL (boot_o_10 x0)) (zL (hp_o_46 x0)))))
noncomputable def hp_tree_86 (x0 : Params) : BT := (zN (boot_o_0 x0) (zN (boot_o_1 x0) (zN (hp_o_50 x0) (zN (boot_o_7 x0) (zN (hp_o_52 x0) (zL (hp_o_68 x0)) (zL (hp_o_84 x0))) (zN (hp_o_60 x0) (zL (hp_o_76 x0)) zZ)) (zN (hp_o_43 x0) (zN (hp_o_56 x0) (zL (hp_o_72 x0)) zZ) (zN (hp_o_64 x0) (zL (hp_o_80 x0)) zZ))) (zN (boot_o_5 x0) (zN (boot_o_9 x0) (zN (hp_o_54 x0) (zL (hp_o_70 x0)) (zL (hp_o_86 x0))) (zN (hp_o_62 x0) (zL (hp_o_78 x0)) zZ)) (zN (hp_o_45 x0) (zN (hp_o_58 x0) (zL (hp_o_74 x0)) zZ) (zN (hp_o_66 x0) (zL (hp_o_82 x0)) zZ)))) (zN (hp_o_49 x0) (zN (boot_o_4 x0) (zN (boot_o_8 x0) (zN (hp_o_53 x0) (zL (hp_o_69 x0)) (zL (hp_o_85 x0))) (zN (hp_o_61 x0) (zL (hp_o_77 x0)) zZ)) (zN (hp_o_51 x0) (zN (hp_o_57 x0) (zL (hp_o_73 x0)) zZ) (zN (hp_o_65 x0) (zL (hp_o_81 x0)) zZ))) (zN (boot_o_6 x0) (zN (boot_o_10 x0) (zN (hp_o_55 x0) (zL (hp_o_71 x0)) zZ) (zN (hp_o_63 x0) (zL (hp_o_79 x0)) zZ)) (zN (hp_o_46 x0) (zN (hp_o_59 x0) (zL (hp_o_75 x0)) zZ) (zN (hp_o_67 x0) (zL (hp_o_83 x0)) zZ)))))
noncomputable def hp_tree_122 (x0 : Params) : BT := (zN (boot_o_0 x0) (zN (boot_o_1 x0) (zN (hp_o_87 x0) (zN (boot_o_7 x0) (zN (hp_o_52 x0) (zN (hp_o_68 x0) (zL (hp_o_103 x0)) zZ) (zN (hp_o_84 x0) (zL (hp_o_119 x0)) zZ)) (zN (hp_o_60 x0) (zN (hp_o_76 x0) (zL (hp_o_111 x0)) zZ) (zL (hp_o_95 x0)))) (zN (hp_o_43 x0) (zN (hp_o_56 x0) (zN (hp_o_72 x0) (zL (hp_o_107 x0)) zZ) (zL (hp_o_91 x0))) (zN (hp_o_64 x0) (zN (hp_o_80 x0) (zL (hp_o_115 x0)) zZ) (zL (hp_o_99 x0))))) (zN (boot_o_5 x0) (zN (boot_o_9 x0) (zN (hp_o_54 x0) (zN (hp_o_70 x0) (zL (hp_o_105 x0)) zZ) (zN (hp_o_86 x0) (zL (hp_o_121 x0)) zZ)) (zN (hp_o_62 x0) (zN (hp_o_78 x0) (zL (hp_o_113 x0)) zZ) (zL (hp_o_97 x0)))) (zN (hp_o_45 x0) (zN (hp_o_58 x0) (zN (hp_o_74 x0) (zL (hp_o_109 x0)) zZ) (zL (hp_o_93 x0))) (zN (hp_o_66 x0) (zN (hp_o_82 x0) (zL (hp_o_117 x0)) zZ) (zL (hp_o_101 x0)))))) (zN (hp_o_49 x0) (zN (boot_o_4 x0) (zN (boot_o_8 x0) (zN (hp_o_53 x0) (zN (hp_o_69 x0) (zL (hp_o_104 x0)) zZ) (zN (hp_o_85 x0) (zL (hp_o_120 x0)) zZ)) (zN (hp_o_61 x0) (zN (hp_o_77 x0) (zL (hp_o_112 x0)) zZ) (zL (hp_o_96 x0)))) (zN (hp_o_88 x0) (zN (hp_o_57 x0) (zN (hp_o_73 x0) (zL (hp_o_108 x0)) zZ) (zL (hp_o_92 x0))) (zN (hp_o_65 x0) (zN (hp_o_81 x0) (zL (hp_o_116 x0)) zZ) (zL (hp_o_100 x0))))) (zN (boot_o_6 x0) (zN (boot_o_10 x0) (zN (hp_o_55 x0) (zN (hp_o_71 x0) (zL (hp_o_106 x0)) zZ) (zN (hp_o_90 x0) (zL (hp_o_122 x0)) zZ)) (zN (hp_o_63 x0) (zN (hp_o_79 x0) (zL (hp_o_114 x0)) zZ) (zL (hp_o_98 x0)))) (zN (hp_o_46 x0) (zN (hp_o_59 x0) (zN (hp_o_75 x0) (zL (hp_o_110 x0)) zZ) (zL (hp_o_94 x0))) (zN (hp_o_67 x0) (zN (hp_o_89 x0) (zL (hp_o_118 x0)) zZ) (zL (hp_o_102 x0)))))))
noncomputable def hp_tree_181 (x0 : Params) : BT := (zN (boot_o_0 x0) (zN (boot_o_1 x0) (zN (hp_o_123 x0) (zN (boot_o_7 x0) (zN (hp_o_52 x0) (zN (hp_o_68 x0) (zN (hp_o_103 x0) (zL (hp_o_169 x0)) zZ) (zL (hp_o_137 x0))) (zN (hp_o_84 x0) (zL (hp_o_119 x0)) (zL (hp_o_153 x0)))) (zN (hp_o_60 x0) (zN (hp_o_76 x0) (zN (hp_o_111 x0) (zL (hp_o_177 x0)) zZ) (zL (hp_o_145 x0))) (zN (hp_o_95 x0) (zL (hp_o_129 x0)) (zL (hp_o_161 x0))))) (zN (hp_o_43 x0) (zN (hp_o_56 x0) (zN (hp_o_72 x0) (zN (hp_o_107 x0) (zL (hp_o_173 x0)) zZ) (zL (hp_o_141 x0))) (zN (hp_o_91 x0) (zL (hp_o_125 x0)) (zL (hp_o_157 x0)))) (zN (hp_o_64 x0) (zN (hp_o_80 x0) (zN (hp_o_115 x0) (zL (hp_o_181 x0)) zZ) (zL (hp_o_149 x0))) (zN (hp_o_99 x0) (zL (hp_o_133 x0)) (zL (hp_o_165 x0)))))) (zN (boot_o_5 x0) (zN (boot_o_9 x0) (zN (hp_o_54 x0) (zN (hp_o_70 x0) (zN (hp_o_105 x0) (zL (hp_o_171 x0)) zZ) (zL (hp_o_139 x0))) (zN (hp_o_86 x0) (zL (hp_o_121 x0)) (zL (hp_o_155 x0)))) (zN (hp_o_62 x0) (zN (hp_o_78 x0) (zN (hp_o_113 x0) (zL (hp_o_179 x0)) zZ) (zL (hp_o_147 x0))) (zN (hp_o_97 x0) (zL (hp_o_131 x0)) (zL (hp_o_163 x0))))) (zN (hp_o_45 x0) (zN (hp_o_58 x0) (zN (hp_o_74 x0) (zN (hp_o_109 x0) (zL (hp_o_175 x0)) zZ) (zL (hp_o_143 x0))) (zN (hp_o_93 x0) (zL (hp_o_127 x0)) (zL (hp_o_159 x0)))) (zN (hp_o_66 x0) (zN (hp_o_82 x0) (zL (hp_o_117 x0)) (zL (hp_o_151 x0))) (zN (hp_o_101 x0) (zL (hp_o_135 x0)) (zL (hp_o_167 x0))))))) (zN (hp_o_49 x0) (zN (boot_o_4 x0) (zN (boot_o_8 x0) (zN (hp_o_53 x0) (zN (hp_o_69 x0) (zN (hp_o_104 x0) (zL (hp_o_170 x0)) zZ) (zL (hp_o_138 x0))) (zN (hp_o_85 x0) (zL (hp_o_120 x0)) (zL (hp_o_154 x0)))) (zN (hp_o_61 x0) (zN (hp_o_77 x0) (zN (hp_o_112 x0) (zL (hp_o_178 x0)) zZ) (zL (hp_o_146 x0))) (zN (hp_o_96 x0) (zL (hp_o_130 x0)) (zL (hp_o_162 x0))))) (zN (hp_o_124 x0) (zN (hp_o_57 x0) (zN (hp_o_73 x0) (zN (hp_o_108 x0) (zL (hp_o_174 x0)) zZ) (zL (hp_o_142 x0))) (zN (hp_o_92 x0) (zL (hp_o_126 x0)) (zL (hp_o_158 x0)))) (zN (hp_o_65 x0) (zN (hp_o_81 x0) (zL (hp_o_116 x0)) (zL (hp_o_150 x0))) (zN (hp_o_100 x0) (zL (hp_o_134 x0)) (zL (hp_o_166 x0)))))) (zN (boot_o_6 x0) (zN (boot_o_10 x0) (zN (hp_o_55 x0) (zN (hp_o_71 x0) (zN (hp_o_106 x0) (zL (hp_o_172 x0)) zZ) (zL (hp_o_140 x0))) (zN (hp_o_90 x0) (zL (hp_o_122 x0)) (zL (hp_o_156 x0)))) (zN (hp_o_63 x0) (zN (hp_o_79 x0) (zN (hp_o_114 x0) (zL (hp_o_180 x0)) zZ) (zL (hp_o_148 x0))) (zN (hp_o_98 x0) (zL (hp_o_132 x0)) (zL (hp_o_164 x0))))) (zN (hp_o_46 x0) (zN (hp_o_59 x0) (zN (hp_o_75 x0) (zN (hp_o_110 x0) (zL (hp_o_176 x0)) zZ) (zL (hp_o_144 x0))) (zN (hp_o_94 x0) (zL (hp_o_128 x0)) (zL (hp_o_160 x0)))) (zN (hp_o_67 x0) (zN (hp_o_89 x0) (zL (hp_o_118 x0)) (zL (hp_o_152 x0))) (zN (hp_o_102 x0) (zL (hp_o_136 x0)) (zL (hp_o_168 x0))))))))
noncomputable def hp_tree_225 (x0 : Params) : BT := (zN (boot_o_0 x0) (zN (boot_o_1 x0) (zN (hp_o_182 x0) (zN (boot_o_7 x0) (zN (hp_o_52 x0) (zN (hp_o_68 x0) (zN (hp_o_103 x0) (zL (hp_o_169 x0)) zZ) (zN (hp_o_137 x0) (zL (hp_o_203 x0)) zZ)) (zN (hp_o_84 x0) (zN (hp_o_119 x0) (zL (hp_o_187 x0)) zZ) (zN (hp_o_153 x0) (zL (hp_o_219 x0)) zZ))) (zN (hp_o_60 x0) (zN (hp_o_76 x0) (zN (hp_o_111 x0) (zL (hp_o_177 x0)) zZ) (zN (hp_o_145 x0) (zL (hp_o_211 x0)) zZ)) (zN (hp_o_95 x0) (zN (hp_o_129 x0) (zL (hp_o_195 x0)) zZ) (zL (hp_o_161 x0))))) (zN (hp_o_43 x0) (zN (hp_o_56 x0) (zN (hp_o_72 x0) (zN (hp_o_107 x0) (zL (hp_o_173 x0)) zZ) (zN (hp_o_141 x0) (zL (hp_o_207 x0)) zZ)) (zN (hp_o_91 x0) (zN (hp_o_125 x0) (zL (hp_o_191 x0)) zZ) (zN (hp_o_157 x0) (zL (hp_o_223 x0)) zZ))) (zN (hp_o_64 x0) (zN (hp_o_80 x0) (zN (hp_o_115 x0) (zL (hp_o_181 x0)) zZ) (zN (hp_o_149 x0) (zL (hp_o_215 x0)) zZ)) (zN (hp_o_99 x0) (zN (hp_o_133 x0) (zL (hp_o_199 x0)) zZ) (zL (hp_o_165 x0)))))) (zN (boot_o_5 x0) (zN (boot_o_9 x0) (zN (hp_o_54 x0) (zN (hp_o_70 x0) (zN (hp_o_105 x0) (zL (hp_o_171 x0)) zZ) (zN (hp_o_139 x0) (zL (hp_o_205 x0)) zZ)) (zN (hp_o_86 x0) (zN (hp_o_121 x0) (zL (hp_o_189 x0)) zZ) (zN (hp_o_155 x0) (zL (hp_o_221 x0)) zZ))) (zN (hp_o_62 x0) (zN (hp_o_78 x0) (zN (hp_o_113 x0) (zL (hp_o_179 x0)) zZ) (zN (hp_o_147 x0) (zL (hp_o_213 x0)) zZ)) (zN (hp_o_97 x0) (zN (hp_o_131 x0) (zL (hp_o_197 x0)) zZ) (zL (hp_o_163 x0))))) (zN (hp_o_45 x0) (zN (hp_o_58 x0) (zN (hp_o_74 x0) (zN (hp_o_109 x0) (zL (hp_o_175 x0)) zZ) (zN (hp_o_143 x0) (zL (hp_o_209 x0)) zZ)) (zN (hp_o_93 x0) (zN (hp_o_127 x0) (zL (hp_o_193 x0)) zZ) (zN (hp_o_159 x0) (zL (hp_o_225 x0)) zZ))) (zN (hp_o_66 x0) (zN (hp_o_82 x0) (zN (hp_o_117 x0) (zL (hp_o_185 x0)) zZ) (zN (hp_o_151 x0) (zL (hp_o_217 x0)) zZ)) (zN (hp_o_101 x0) (zN (hp_o_135 x0) (zL (hp_o_201 x0)) zZ) (zL (hp_o_167 x0))))))) (zN (hp_o_49 x0) (zN (boot_o_4 x0) (zN (boot_o_8 x0) (zN (hp_o_53 x0) (zN (hp_o_69 x0) (zN (hp_o_104 x0) (zL (hp_o_170 x0)) zZ) (zN (hp_o_138 x0) (zL (hp_o_204 x0)) zZ)) (zN (hp_o_85 x0) (zN (hp_o_120 x0) (zL (hp_o_188 x0)) zZ) (zN (hp_o_154 x0) (zL (hp_o_220 x0)) zZ))) (zN (hp_o_61 x0) (zN (hp_o_77 x0) (zN (hp_o_112 x0) (zL (hp_o_178 x0)) zZ) (zN (hp_o_146 x0) (zL (hp_o_212 x0)) zZ)) (zN (hp_o_96 x0) (zN (hp_o_130 x0) (zL (hp_o_196 x0)) zZ) (zL (hp_o_162 x0))))) (zN (hp_o_183 x0) (zN (hp_o_57 x0) (zN (hp_o_73 x0) (zN (hp_o_108 x0) (zL (hp_o_174 x0)) zZ) (zN (hp_o_142 x0) (zL (hp_o_208 x0)) zZ)) (zN (hp_o_92 x0) (zN (hp_o_126 x0) (zL (hp_o_192 x0)) zZ) (zN (hp_o_158 x0) (zL (hp_o_224 x0)) zZ))) (zN (hp_o_65 x0) (zN (hp_o_81 x0) (zN (hp_o_116 x0) (zL (hp_o_184 x0)) zZ) (zN (hp_o_150 x0) (zL (hp_o_216 x0)) zZ)) (zN (hp_o_100 x0) (zN (hp_o_134 x0) (zL (hp_o_200 x0)) zZ) (zL (hp_o_166 x0)))))) (zN (boot_o_6 x0) (zN (boot_o_10 x0) (zN (hp_o_55 x0) (zN (hp_o_71 x0) (zN (hp_o_106 x0) (zL (hp_o_172 x0)) zZ) (zN (hp_o_140 x0) (zL (hp_o_206 x0)) zZ)) (zN (hp_o_90 x0) (zN (hp_o_122 x0) (zL (hp_o_190 x0)) zZ) (zN (hp_o_156 x0) (zL (hp_o_222 x0)) zZ))) (zN (hp_o_63 x0) (zN (hp_o_79 x0) (zN (hp_o_114 x0) (zL (hp_o_180 x0)) zZ) (zN (hp_o_148 x0) (zL (hp_o_214 x0)) zZ)) (zN (hp_o_98 x0) (zN (hp_o_132 x0) (zL (hp_o_198 x0)) zZ) (zL (hp_o_164 x0))))) (zN (hp_o_46 x0) (zN (hp_o_59 x0) (zN (hp_o_75 x0) (zN (hp_o_110 x0) (zL (hp_o_176 x0)) zZ) (zN (hp_o_144 x0) (zL (hp_o_210 x0)) zZ)) (zN (hp_o_94 x0) (zN (hp_o_128 x0) (zL (hp_o_194 x0)) zZ) (zL (hp_o_160 x0)))) (zN (hp_o_67 x0) (zN (hp_o_89 x0) (zN (hp_o_118 x0) (zL (hp_o_186 x0)) zZ) (zN (hp_o_152 x0) (zL (hp_o_218 x0)) zZ)) (zN (hp_o_102 x0) (zN (hp_o_136 x0) (zL (hp_o_202 x0)) zZ) (zL (hp_o_168 x0))))))))
noncomputable def hp_tree_283 (x0 : Params) : BT := (zN (boot_o_0 x0) (zN (boot_o_1 x0) (zN (hp_o_226 x0) (zN (boot_o_7 x0) (zN (hp_o_52 x0) (zN (hp_o_68 x0) (zN (hp_o_103 x0) (zL (hp_o_169 x0)) (zL (hp_o_237 x0))) (zN (hp_o_137 x0) (zL (hp_o_203 x0)) (zL (hp_o_269 x0)))) (zN (hp_o_84 x0) (zN (hp_o_119 x0) (zL (hp_o_187 x0)) (zL (hp_o_253 x0))) (zN (hp_o_153 x0) (zL (hp_o_219 x0)) zZ))) (zN (hp_o_60 x0) (zN (hp_o_76 x0) (zN (hp_o_111 x0) (zL (hp_o_177 x0)) (zL (hp_o_245 x0))) (zN (hp_o_145 x0) (zL (hp_o_211 x0)) (zL (hp_o_277 x0)))) (zN (hp_o_95 x0) (zN (hp_o_129 x0) (zL (hp_o_195 x0)) (zL (hp_o_261 x0))) (zN (hp_o_161 x0) (zL (hp_o_229 x0)) zZ)))) (zN (hp_o_43 x0) (zN (hp_o_56 x0) (zN (hp_o_72 x0) (zN (hp_o_107 x0) (zL (hp_o_173 x0)) (zL (hp_o_241 x0))) (zN (hp_o_141 x0) (zL (hp_o_207 x0)) (zL (hp_o_273 x0)))) (zN (hp_o_91 x0) (zN (hp_o_125 x0) (zL (hp_o_191 x0)) (zL (hp_o_257 x0))) (zN (hp_o_157 x0) (zL (hp_o_223 x0)) zZ))) (zN (hp_o_64 x0) (zN (hp_o_80 x0) (zN (hp_o_115 x0) (zL (hp_o_181 x0)) (zL (hp_o_249 x0))) (zN (hp_o_149 x0) (zL (hp_o_215 x0)) (zL (hp_o_281 x0)))) (zN (hp_o_99 x0) (zN (hp_o_133 x0) (zL (hp_o_199 x0)) (zL (hp_o_265 x0))) (zN (hp_o_165 x0) (zL (hp_o_233 x0)) zZ))))) (zN (boot_o_5 x0) (zN (boot_o_9 x0) (zN (hp_o_54 x0) (zN (hp_o_70 x0) (zN (hp_o_105 x0) (zL (hp_o_171 x0)) (zL (hp_o_239 x0))) (zN (hp_o_139 x0) (zL (hp_o_205 x0)) (zL (hp_o_271 x0)))) (zN (hp_o_86 x0) (zN (hp_o_121 x0) (zL (hp_o_189 x0)) (zL (hp_o_255 x0))) (zN (hp_o_155 x0) (zL (hp_o_221 x0)) zZ))) (zN (hp_o_62 x0) (zN (hp_o_78 x0) (zN (hp_o_113 x0) (zL (hp_o_179 x0)) (zL (hp_o_247 x0))) (zN (hp_o_147 x0) (zL (hp_o_213 x0)) (zL (hp_o_279 x0)))) (zN (hp_o_97 x0) (zN (hp_o_131 x0) (zL (hp_o_197 x0)) (zL (hp_o_263 x0))) (zN (hp_o_163 x0) (zL (hp_o_231 x0)) zZ)))) (zN (hp_o_45 x0) (zN (hp_o_58 x0) (zN (hp_o_74 x0) (zN (hp_o_109 x0) (zL (hp_o_175 x0)) (zL (hp_o_243 x0))) (zN (hp_o_143 x0) (zL (hp_o_209 x0)) (zL (hp_o_275 x0)))) (zN (hp_o_93 x0) (zN (hp_o_127 x0) (zL (hp_o_193 x0)) (zL (hp_o_259 x0))) (zN (hp_o_159 x0) (zL (hp_o_225 x0)) zZ))) (zN (hp_o_66 x0) (zN (hp_o_82 x0) (zN (hp_o_117 x0) (zL (hp_o_185 x0)) (zL (hp_o_251 x0))) (zN (hp_o_151 x0) (zL (hp_o_217 x0)) (zL (hp_o_283 x0)))) (zN (hp_o_101 x0) (zN (hp_o_135 x0) (zL (hp_o_201 x0)) (zL (hp_o_267 x0))) (zN (hp_o_167 x0) (zL (hp_o_235 x0)) zZ)))))) (zN (hp_o_49 x0) (zN (boot_o_4 x0) (zN (boot_o_8 x0) (zN (hp_o_53 x0) (zN (hp_o_69 x0) (zN (hp_o_104 x0) (zL (hp_o_170 x0)) (zL (hp_o_238 x0))) (zN (hp_o_138 x0) (zL (hp_o_204 x0)) (zL (hp_o_270 x0)))) (zN (hp_o_85 x0) (zN (hp_o_120 x0) (zL (hp_o_188 x0)) (zL (hp_o_254 x0))) (zN (hp_o_154 x0) (zL (hp_o_220 x0)) zZ))) (zN (hp_o_61 x0) (zN (hp_o_77 x0) (zN (hp_o_112 x0) (zL (hp_o_178 x0)) (zL (hp_o_246 x0))) (zN (hp_o_146 x0) (zL (hp_o_212 x0)) (zL (hp_o_278 x0)))) (zN (hp_o_96 x0) (zN (hp_o_130 x0) (zL (hp_o_196 x0)) (zL (hp_o_262 x0))) (zN (hp_o_162 x0) (zL (hp_o_230 x0)) zZ)))) (zN (hp_o_227 x0) (zN (hp_o_57 x0) (zN (hp_o_73 x0) (zN (hp_o_108 x0) (zL (hp_o_174 x0)) (zL (hp_o_242 x0))) (zN (hp_o_142 x0) (zL (hp_o_208 x0)) (zL (hp_o_274 x0)))) (zN (hp_o_92 x0) (zN (hp_o_126 x0) (zL (hp_o_192 x0)) (zL (hp_o_258 x0))) (zN (hp_o_158 x0) (zL (hp_o_224 x0)) zZ))) (zN (hp_o_65 x0) (zN (hp_o_81 x0) (zN (hp_o_116 x0) (zL (hp_o_184 x0)) (zL (hp_o_250 x0))) (zN (hp_o_150 x0) (zL (hp_o_216 x0)) (zL (hp_o_282 x0)))) (zN (hp_o_100 x0) (zN (hp_o_134 x0) (zL (hp_o_200 x0)) (zL (hp_o_266 x0))) (zN (hp_o_166 x0) (zL (hp_o_234 x0)) zZ))))) (zN (boot_o_6 x0) (zN (boot_o_10 x0) (zN (hp_o_55 x0) (zN (hp_o_71 x0) (zN (hp_o_106 x0) (zL (hp_o_172 x0)) (zL (hp_o_240 x0))) (zN (hp_o_140 x0) (zL (hp_o_206 x0)) (zL (hp_o_272 x0)))) (zN (hp_o_90 x0) (zN (hp_o_122 x0) (zL (hp_o_190 x0)) (zL (hp_o_256 x0))) (zN (hp_o_156 x0) (zL (hp_o_222 x0)) zZ))) (zN (hp_o_63 x0) (zN (hp_o_79 x0) (zN (hp_o_114 x0) (zL (hp_o_180 x0)) (zL (hp_o_248 x0))) (zN (hp_o_148 x0) (zL (hp_o_214 x0)) (zL (hp_o_280 x0)))) (zN (hp_o_98 x0) (zN (hp_o_132 x0) (zL (hp_o_198 x0)) (zL (hp_o_264 x0))) (zN (hp_o_164 x0) (zL (hp_o_232 x0)) zZ)))) (zN (hp_o_46 x0) (zN (hp_o_59 x0) (zN (hp_o_75 x0) (zN (hp_o_110 x0) (zL (hp_o_176 x0)) (zL (hp_o_244 x0))) (zN (hp_o_144 x0) (zL (hp_o_210 x0)) (zL (hp_o_276 x0)))) (zN (hp_o_94 x0) (zN (hp_o_128 x0) (zL (hp_o_194 x0)) (zL (hp_o_260 x0))) (zN (hp_o_160 x0) (zL (hp_o_228 x0)) zZ))) (zN (hp_o_67 x0) (zN (hp_o_89 x0) (zN (hp_o_118 x0) (zL (hp_o_186 x0)) (zL (hp_o_252 x0))) (zN (hp_o_152 x0) (zL (hp_o_218 x0)) zZ)) (zN (hp_o_102 x0) (zN (hp_o_136 x0) (zL (hp_o_202 x0)) (zL (hp_o_268 x0))) (zN (hp_o_168 x0) (zL (hp_o_236 x0)) zZ)))))))
noncomputable def hp_tree_339 (x0 : Params) : BT := (zN (boot_o_0 x0) (zN (boot_o_1 x0) (zN (hp_o_284 x0) (zN (boot_o_7 x0) (zN (hp_o_52 x0) (zN (hp_o_68 x0) (zN (hp_o_103 x0) (zN (hp_o_169 x0) (zL (hp_o_303 x0)) zZ) (zL (hp_o_237 x0))) (zN (hp_o_137 x0) (zN (hp_o_203 x0) (zL (hp_o_335 x0)) zZ) (zL (hp_o_269 x0)))) (zN (hp_o_84 x0) (zN (hp_o_119 x0) (zN (hp_o_187 x0) (zL (hp_o_319 x0)) zZ) (zL (hp_o_253 x0))) (zN (hp_o_153 x0) (zL (hp_o_219 x0)) (zL (hp_o_287 x0))))) (zN (hp_o_60 x0) (zN (hp_o_76 x0) (zN (hp_o_111 x0) (zN (hp_o_177 x0) (zL (hp_o_311 x0)) zZ) (zL (hp_o_245 x0))) (zN (hp_o_145 x0) (zL (hp_o_211 x0)) (zL (hp_o_277 x0)))) (zN (hp_o_95 x0) (zN (hp_o_129 x0) (zN (hp_o_195 x0) (zL (hp_o_327 x0)) zZ) (zL (hp_o_261 x0))) (zN (hp_o_161 x0) (zL (hp_o_229 x0)) (zL (hp_o_295 x0)))))) (zN (hp_o_43 x0) (zN (hp_o_56 x0) (zN (hp_o_72 x0) (zN (hp_o_107 x0) (zN (hp_o_173 x0) (zL (hp_o_307 x0)) zZ) (zL (hp_o_241 x0))) (zN (hp_o_141 x0) (zN (hp_o_207 x0) (zL (hp_o_339 x0)) zZ) (zL (hp_o_273 x0)))) (zN (hp_o_91 x0) (zN (hp_o_125 x0) (zN (hp_o_191 x0) (zL (hp_o_323 x0)) zZ) (zL (hp_o_257 x0))) (zN (hp_o_157 x0) (zL (hp_o_223 x0)) (zL (hp_o_291 x0))))) (zN (hp_o_64 x0) (zN (hp_o_80 x0) (zN (hp_o_115 x0) (zN (hp_o_181 x0) (zL (hp_o_315 x0)) zZ) (zL (hp_o_249 x0))) (zN (hp_o_149 x0) (zL (hp_o_215 x0)) (zL (hp_o_281 x0)))) (zN (hp_o_99 x0) (zN (hp_o_133 x0) (zN (hp_o_199 x0) (zL (hp_o_331 x0)) zZ) (zL (hp_o_265 x0))) (zN (hp_o_165 x0) (zL (hp_o_233 x0)) (zL (hp_o_299 x0))))))) (zN (boot_o_5 x0) (zN (boot_o_9 x0) (zN (hp_o_54 x0) (zN (hp_o_70 x0) (zN (hp_o_105 x0) (zN (hp_o_171 x0) (zL (hp_o_305 x0)) zZ) (zL (hp_o_239 x0))) (zN (hp_o_139 x0) (zN (hp_o_205 x0) (zL (hp_o_337 x0)) zZ) (zL (hp_o_271 x0)))) (zN (hp_o_86 x0) (zN (hp_o_121 x0) (zN (hp_o_189 x0) (zL (hp_o_321 x0)) zZ) (zL (hp_o_255 x0))) (zN (hp_o_155 x0) (zL (hp_o_221 x0)) (zL (hp_o_289 x0))))) (zN (hp_o_62 x0) (zN (hp_o_78 x0) (zN (hp_o_113 x0) (zN (hp_o_179 x0) (zL (hp_o_313 x0)) zZ) (zL (hp_o_247 x0))) (zN (hp_o_147 x0) (zL (hp_o_213 x0)) (zL (hp_o_279 x0)))) (zN (hp_o_97 x0) (zN (hp_o_131 x0) (zN (hp_o_197 x0) (zL (hp_o_329 x0)) zZ) (zL (hp_o_263 x0))) (zN (hp_o_163 x0) (zL (hp_o_231 x0)) (zL (hp_o_297 x0)))))) (zN (hp_o_45 x0) (zN (hp_o_58 x0) (zN (hp_o_74 x0) (zN (hp_o_109 x0) (zN (hp_o_175 x0) (zL (hp_o_309 x0)) zZ) (zL (hp_o_243 x0))) (zN (hp_o_143 x0) (zL (hp_o_209 x0)) (zL (hp_o_275 x0)))) (zN (hp_o_93 x0) (zN (hp_o_127 x0) (zN (hp_o_193 x0) (zL (hp_o_325 x0)) zZ) (zL (hp_o_259 x0))) (zN (hp_o_159 x0) (zL (hp_o_225 x0)) (zL (hp_o_293 x0))))) (zN (hp_o_66 x0) (zN (hp_o_82 x0) (zN (hp_o_117 x0) (zN (hp_o_185 x0) (zL (hp_o_317 x0)) zZ) (zL (hp_o_251 x0))) (zN (hp_o_151 x0) (zL (hp_o_217 x0)) (zL (hp_o_283 x0)))) (zN (hp_o_101 x0) (zN (hp_o_135 x0) (zN (hp_o_201 x0) (zL (hp_o_333 x0)) zZ) (zL (hp_o_267 x0))) (zN (hp_o_167 x0) (zL (hp_o_235 x0)) (zL (hp_o_301 x0)))))))) (zN (hp_o_49 x0) (zN (boot_o_4 x0) (zN (boot_o_8 x0) (zN (hp_o_53 x0) (zN (hp_o_69 x0) (zN (hp_o_104 x0) (zN (hp_o_170 x0) (zL (hp_o_304 x0)) zZ) (zL (hp_o_238 x0))) (zN (hp_o_138 x0) (zN (hp_o_204 x0) (zL (hp_o_336 x0)) zZ) (zL (hp_o_270 x0)))) (zN (hp_o_85 x0) (zN (hp_o_120 x0) (zN (hp_o_188 x0) (zL (hp_o_320 x0)) zZ) (zL (hp_o_254 x0))) (zN (hp_o_154 x0) (zL (hp_o_220 x0)) (zL (hp_o_288 x0))))) (zN (hp_o_61 x0) (zN (hp_o_77 x0) (zN (hp_o_112 x0) (zN (hp_o_178 x0) (zL (hp_o_312 x0)) zZ) (zL (hp_o_246 x0))) (zN (hp_o_146 x0) (zL (hp_o_212 x0)) (zL (hp_o_278 x0)))) (zN (hp_o_96 x0) (zN (hp_o_130 x0) (zN (hp_o_196 x0) (zL (hp_o_328 x0)) zZ) (zL (hp_o_262 x0))) (zN (hp_o_162 x0) (zL (hp_o_230 x0)) (zL (hp_o_296 x0)))))) (zN (hp_o_285 x0) (zN (hp_o_57 x0) (zN (hp_o_73 x0) (zN (hp_o_108 x0) (zN (hp_o_174 x0) (zL (hp_o_308 x0)) zZ) (zL (hp_o_242 x0))) (zN (hp_o_142 x0) (zL (hp_o_208 x0)) (zL (hp_o_274 x0)))) (zN (hp_o_92 x0) (zN (hp_o_126 x0) (zN (hp_o_192 x0) (zL (hp_o_324 x0)) zZ) (zL (hp_o_258 x0))) (zN (hp_o_158 x0) (zL (hp_o_224 x0)) (zL (hp_o_292 x0))))) (zN (hp_o_65 x0) (zN (hp_o_81 x0) (zN (hp_o_116 x0) (zN (hp_o_184 x0) (zL (hp_o_316 x0)) zZ) (zL (hp_o_250 x0))) (zN (hp_o_150 x0) (zL (hp_o_216 x0)) (zL (hp_o_282 x0)))) (zN (hp_o_100 x0) (zN (hp_o_134 x0) (zN (hp_o_200 x0) (zL (hp_o_332 x0)) zZ) (zL (hp_o_266 x0))) (zN (hp_o_166 x0) (zL (hp_o_234 x0)) (zL (hp_o_300 x0))))))) (zN (boot_o_6 x0) (zN (boot_o_10 x0) (zN (hp_o_55 x0) (zN (hp_o_71 x0) (zN (hp_o_106 x0) (zN (hp_o_172 x0) (zL (hp_o_306 x0)) zZ) (zL (hp_o_240 x0))) (zN (hp_o_140 x0) (zN (hp_o_206 x0) (zL (hp_o_338 x0)) zZ) (zL (hp_o_272 x0)))) (zN (hp_o_90 x0) (zN (hp_o_122 x0) (zN (hp_o_190 x0) (zL (hp_o_322 x0)) zZ) (zL (hp_o_256 x0))) (zN (hp_o_156 x0) (zL (hp_o_222 x0)) (zL (hp_o_290 x0))))) (zN (hp_o_63 x0) (zN (hp_o_79 x0) (zN (hp_o_114 x0) (zN (hp_o_180 x0) (zL (hp_o_314 x0)) zZ) (zL (hp_o_248 x0))) (zN (hp_o_148 x0) (zL (hp_o_214 x0)) (zL (hp_o_280 x0)))) (zN (hp_o_98 x0) (zN (hp_o_132 x0) (zN (hp_o_198 x0) (zL (hp_o_330 x0)) zZ) (zL (hp_o_264 x0))) (zN (hp_o_164 x0) (zL (hp_o_232 x0)) (zL (hp_o_298 x0)))))) (zN (hp_o_46 x0) (zN (hp_o_59 x0) (zN (hp_o_75 x0) (zN (hp_o_110 x0) (zN (hp_o_176 x0) (zL (hp_o_310 x0)) zZ) (zL (hp_o_244 x0))) (zN (hp_o_144 x0) (zL (hp_o_210 x0)) (zL (hp_o_276 x0)))) (zN (hp_o_94 x0) (zN (hp_o_128 x0) (zN (hp_o_194 x0) (zL (hp_o_326 x0)) zZ) (zL (hp_o_260 x0))) (zN (hp_o_160 x0) (zL (hp_o_228 x0)) (zL (hp_o_294 x0))))) (zN (hp_o_67 x0) (zN (hp_o_89 x0) (zN (hp_o_118 x0) (zN (hp_o_186 x0) (zL (hp_o_318 x0)) zZ) (zL (hp_o_252 x0))) (zN (hp_o_152 x0) (zL (hp_o_218 x0)) (zL (hp_o_286 x0)))) (zN (hp_o_102 x0) (zN (hp_o_136 x0) (zN (hp_o_202 x0) (zL (hp_o_334 x0)) zZ) (zL (hp_o_268 x0))) (zN (hp_o_168 x0) (zL (hp_o_236 x0)) (zL (hp_o_302 x0)))))))))
noncomputable def hp_tree_396 (x0 : Params) : BT := (zN (boot_o_0 x0) (zN (boot_o_1 x0) (zN (hp_o_340 x0) (zN (boot_o_7 x0) (zN (hp_o_52 x0) (zN (hp_o_68 x0) (zN (hp_o_103 x0) (zN (hp_o_169 x0) (zL (hp_o_303 x0)) zZ) (zN (hp_o_237 x0) (zL (hp_o_369 x0)) zZ)) (zN (hp_o_137 x0) (zN (hp_o_203 x0) (zL (hp_o_335 x0)) zZ) (zL (hp_o_269 x0)))) (zN (hp_o_84 x0) (zN (hp_o_119 x0) (zN (hp_o_187 x0) (zL (hp_o_319 x0)) zZ) (zN (hp_o_253 x0) (zL (hp_o_385 x0)) zZ)) (zN (hp_o_153 x0) (zN (hp_o_219 x0) (zL (hp_o_353 x0)) zZ) (zL (hp_o_287 x0))))) (zN (hp_o_60 x0) (zN (hp_o_76 x0) (zN (hp_o_111 x0) (zN (hp_o_177 x0) (zL (hp_o_311 x0)) zZ) (zN (hp_o_245 x0) (zL (hp_o_377 x0)) zZ)) (zN (hp_o_145 x0) (zN (hp_o_211 x0) (zL (hp_o_345 x0)) zZ) (zL (hp_o_277 x0)))) (zN (hp_o_95 x0) (zN (hp_o_129 x0) (zN (hp_o_195 x0) (zL (hp_o_327 x0)) zZ) (zN (hp_o_261 x0) (zL (hp_o_393 x0)) zZ)) (zN (hp_o_161 x0) (zN (hp_o_229 x0) (zL (hp_o_361 x0)) zZ) (zL (hp_o_295 x0)))))) (zN (hp_o_43 x0) (zN (hp_o_56 x0) (zN (hp_o_72 x0) (zN (hp_o_107 x0) (zN (hp_o_173 x0) (zL (hp_o_307 x0)) zZ) (zN (hp_o_241 x0) (zL (hp_o_373 x0)) zZ)) (zN (hp_o_141 x0) (zN (hp_o_207 x0) (zL (hp_o_339 x0)) zZ) (zL (hp_o_273 x0)))) (zN (hp_o_91 x0) (zN (hp_o_125 x0) (zN (hp_o_191 x0) (zL (hp_o_323 x0)) zZ) (zN (hp_o_257 x0) (zL (hp_o_389 x0)) zZ)) (zN (hp_o_157 x0) (zN (hp_o_223 x0) (zL (hp_o_357 x0)) zZ) (zL (hp_o_291 x0))))) (zN (hp_o_64 x0) (zN (hp_o_80 x0) (zN (hp_o_115 x0) (zN (hp_o_181 x0) (zL (hp_o_315 x0)) zZ) (zN (hp_o_249 x0) (zL (hp_o_381 x0)) zZ)) (zN (hp_o_149 x0) (zN (hp_o_215 x0) (zL (hp_o_349 x0)) zZ) (zL (hp_o_281 x0)))) (zN (hp_o_99 x0) (zN (hp_o_133 x0) (zN (hp_o_199 x0) (zL (hp_o_331 x0)) zZ) (zL (hp_o_265 x0))) (zN (hp_o_165 x0) (zN (hp_o_233 x0) (zL (hp_o_365 x0)) zZ) (zL (hp_o_299 x0))))))) (zN (boot_o_5 x0) (zN (boot_o_9 x0) (zN (hp_o_54 x0) (zN (hp_o_70 x0) (zN (hp_o_105 x0) (zN (hp_o_171 x0) (zL (hp_o_305 x0)) zZ) (zN (hp_o_239 x0) (zL (hp_o_371 x0)) zZ)) (zN (hp_o_139 x0) (zN (hp_o_205 x0) (zL (hp_o_337 x0)) zZ) (zL (hp_o_271 x0)))) (zN (hp_o_86 x0) (zN (hp_o_121 x0) (zN (hp_o_189 x0) (zL (hp_o_321 x0)) zZ) (zN (hp_o_255 x0) (zL (hp_o_387 x0)) zZ)) (zN (hp_o_155 x0) (zN (hp_o_221 x0) (zL (hp_o_355 x0)) zZ) (zL (hp_o_289 x0))))) (zN (hp_o_62 x0) (zN (hp_o_78 x0) (zN (hp_o_113 x0) (zN (hp_o_179 x0) (zL (hp_o_313 x0)) zZ) (zN (hp_o_247 x0) (zL (hp_o_379 x0)) zZ)) (zN (hp_o_147 x0) (zN (hp_o_213 x0) (zL (hp_o_347 x0)) zZ) (zL (hp_o_279 x0)))) (zN (hp_o_97 x0) (zN (hp_o_131 x0) (zN (hp_o_197 x0) (zL (hp_o_329 x0)) zZ) (zN (hp_o_263 x0) (zL (hp_o_395 x0)) zZ)) (zN (hp_o_163 x0) (zN (hp_o_231 x0) (zL (hp_o_363 x0)) zZ) (zL (hp_o_297 x0)))))) (zN (hp_o_45 x0) (zN (hp_o_58 x0) (zN (hp_o_74 x0) (zN (hp_o_109 x0) (zN (hp_o_175 x0) (zL (hp_o_309 x0)) zZ) (zN (hp_o_243 x0) (zL (hp_o_375 x0)) zZ)) (zN (hp_o_143 x0) (zN (hp_o_209 x0) (zL (hp_o_343 x0)) zZ) (zL (hp_o_275 x0)))) (zN (hp_o_93 x0) (zN (hp_o_127 x0) (zN (hp_o_193 x0) (zL (hp_o_325 x0)) zZ) (zN (hp_o_259 x0) (zL (hp_o_391 x0)) zZ)) (zN (hp_o_159 x0) (zN (hp_o_225 x0) (zL (hp_o_359 x0)) zZ) (zL (hp_o_293 x0))))) (zN (hp_o_66 x0) (zN (hp_o_82 x0) (zN (hp_o_117 x0) (zN (hp_o_185 x0) (zL (hp_o_317 x0)) zZ) (zN (hp_o_251 x0) (zL (hp_o_383 x0)) zZ)) (zN (hp_o_151 x0) (zN (hp_o_217 x0) (zL (hp_o_351 x0)) zZ) (zL (hp_o_283 x0)))) (zN (hp_o_101 x0) (zN (hp_o_135 x0) (zN (hp_o_201 x0) (zL (hp_o_333 x0)) zZ) (zL (hp_o_267 x0))) (zN (hp_o_167 x0) (zN (hp_o_235 x0) (zL (hp_o_367 x0)) zZ) (zL (hp_o_301 x0)))))))) (zN (hp_o_49 x0) (zN (boot_o_4 x0) (zN (boot_o_8 x0) (zN (hp_o_53 x0) (zN (hp_o_69 x0) (zN (hp_o_104 x0) (zN (hp_o_170 x0) (zL (hp_o_304 x0)) zZ) (zN (hp_o_238 x0) (zL (hp_o_370 x0)) zZ)) (zN (hp_o_138 x0) (zN (hp_o_204 x0) (zL (hp_o_336 x0)) zZ) (zL (hp_o_270 x0)))) (zN (hp_o_85 x0) (zN (hp_o_120 x0) (zN (hp_o_188 x0) (zL (hp_o_320 x0)) zZ) (zN (hp_o_254 x0) (zL (hp_o_386 x0)) zZ)) (zN (hp_o_154 x0) (zN (hp_o_220 x0) (zL (hp_o_354 x0)) zZ) (zL (hp_o_288 x0))))) (zN (hp_o_61 x0) (zN (hp_o_77 x0) (zN (hp_o_112 x0) (zN (hp_o_178 x0) (zL (hp_o_312 x0)) zZ) (zN (hp_o_246 x0) (zL (hp_o_378 x0)) zZ)) (zN (hp_o_146 x0) (zN (hp_o_212 x0) (zL (hp_o_346 x0)) zZ) (zL (hp_o_278 x0)))) (zN (hp_o_96 x0) (zN (hp_o_130 x0) (zN (hp_o_196 x0) (zL (hp_o_328 x0)) zZ) (zN (hp_o_262 x0) (zL (hp_o_394 x0)) zZ)) (zN (hp_o_162 x0) (zN (hp_o_230 x0) (zL (hp_o_362 x0)) zZ) (zL (hp_o_296 x0)))))) (zN (hp_o_341 x0) (zN (hp_o_57 x0) (zN (hp_o_73 x0) (zN (hp_o_108 x0) (zN (hp_o_174 x0) (zL (hp_o_308 x0)) zZ) (zN (hp_o_242 x0) (zL (hp_o_374 x0)) zZ)) (zN (hp_o_142 x0) (zN (hp_o_208 x0) (zL (hp_o_342 x0)) zZ) (zL (hp_o_274 x0)))) (zN (hp_o_92 x0) (zN (hp_o_126 x0) (zN (hp_o_192 x0) (zL (hp_o_324 x0)) zZ) (zN (hp_o_258 x0) (zL (hp_o_390 x0)) zZ)) (zN (hp_o_158 x0) (zN (hp_o_224 x0) (zL (hp_o_358 x0)) zZ) (zL (hp_o_292 x0))))) (zN (hp_o_65 x0) (zN (hp_o_81 x0) (zN (hp_o_116 x0) (zN (hp_o_184 x0) (zL (hp_o_316 x0)) zZ) (zN (hp_o_250 x0) (zL (hp_o_382 x0)) zZ)) (zN (hp_o_150 x0) (zN (hp_o_216 x0) (zL (hp_o_350 x0)) zZ) (zL (hp_o_282 x0)))) (zN (hp_o_100 x0) (zN (hp_o_134 x0) (zN (hp_o_200 x0) (zL (hp_o_332 x0)) zZ) (zL (hp_o_266 x0))) (zN (hp_o_166 x0) (zN (hp_o_234 x0) (zL (hp_o_366 x0)) zZ) (zL (hp_o_300 x0))))))) (zN (boot_o_6 x0) (zN (boot_o_10 x0) (zN (hp_o_55 x0) (zN (hp_o_71 x0) (zN (hp_o_106 x0) (zN (hp_o_172 x0) (zL (hp_o_306 x0)) zZ) (zN (hp_o_240 x0) (zL (hp_o_372 x0)) zZ)) (zN (hp_o_140 x0) (zN (hp_o_206 x0) (zL (hp_o_338 x0)) zZ) (zL (hp_o_272 x0)))) (zN (hp_o_90 x0) (zN (hp_o_122 x0) (zN (hp_o_190 x0) (zL (hp_o_322 x0)) zZ) (zN (hp_o_256 x0) (zL (hp_o_388 x0)) zZ)) (zN (hp_o_156 x0) (zN (hp_o_222 x0) (zL (hp_o_356 x0)) zZ) (zL (hp_o_290 x0))))) (zN (hp_o_63 x0) (zN (hp_o_79 x0) (zN (hp_o_114 x0) (zN (hp_o_180 x0) (zL (hp_o_314 x0)) zZ) (zN (hp_o_248 x0) (zL (hp_o_380 x0)) zZ)) (zN (hp_o_148 x0) (zN (hp_o_214 x0) (zL (hp_o_348 x0)) zZ) (zL (hp_o_280 x0)))) (zN (hp_o_98 x0) (zN (hp_o_132 x0) (zN (hp_o_198 x0) (zL (hp_o_330 x0)) zZ) (zN (hp_o_264 x0) (zL (hp_o_396 x0)) zZ)) (zN (hp_o_164 x0) (zN (hp_o_232 x0) (zL (hp_o_364 x0)) zZ) (zL (hp_o_298 x0)))))) (zN (hp_o_46 x0) (zN (hp_o_59 x0) (zN (hp_o_75 x0) (zN (hp_o_110 x0) (zN (hp_o_176 x0) (zL (hp_o_310 x0)) zZ) (zN (hp_o_244 x0) (zL (hp_o_376 x0)) zZ)) (zN (hp_o_144 x0) (zN (hp_o_210 x0) (zL (hp_o_344 x0)) zZ) (zL (hp_o_276 x0)))) (zN (hp_o_94 x0) (zN (hp_o_128 x0) (zN (hp_o_194 x0) (zL (hp_o_326 x0)) zZ) (zN (hp_o_260 x0) (zL (hp_o_392 x0)) zZ)) (zN (hp_o_160 x0) (zN (hp_o_228 x0) (zL (hp_o_360 x0)) zZ) (zL (hp_o_294 x0))))) (zN (hp_o_67 x0) (zN (hp_o_89 x0) (zN (hp_o_118 x0) (zN (hp_o_186 x0) (zL (hp_o_318 x0)) zZ) (zN (hp_o_252 x0) (zL (hp_o_384 x0)) zZ)) (zN (hp_o_152 x0) (zN (hp_o_218 x0) (zL (hp_o_352 x0)) zZ) (zL (hp_o_286 x0)))) (zN (hp_o_102 x0) (zN (hp_o_136 x0) (zN (hp_o_202 x0) (zL (hp_o_334 x0)) zZ) (zL (hp_o_268 x0))) (zN (hp_o_168 x0) (zN (hp_o_236 x0) (zL (hp_o_368 x0)) zZ) (zL (hp_o_302 x0)))))))))
noncomputable def hp_heap_46 (x0 : Params) : Heap := (Heap.mk (Array.mk [(boot_o_0 x0), (boot_o_1 x0), (boot_o_2 x0), (boot_o_3 x0), (boot_o_4 x0), (boot_o_5 x0), (boot_o_6 x0), (boot_o_7 x0), (boot_o_8 x0), (boot_o_9 x0), (boot_o_10 x0), (hp_o_43 x0), (hp_o_44 x0), (hp_o_45 x0), (hp_o_46 x0)]) zLife)
noncomputable def hp_heap_397 (x0 : Params) : Heap := (Heap.mk (Array.mk [(boot_o_0 x0), (boot_o_1 x0), (hp_o_49 x0), (hp_o_340 x0), (boot_o_4 x0), (boot_o_5 x0), (boot_o_6 x0), (boot_o_7 x0), (boot_o_8 x0), (boot_o_9 x0), (boot_o_10 x0), (hp_o_43 x0), (hp_o_341 x0), (hp_o_45 x0), (hp_o_46 x0), (hp_o_52 x0), (hp_o_53 x0), (hp_o_54 x0), (hp_o_55 x0), (hp_o_56 x0), (hp_o_57 x0), (hp_o_58 x0), (hp_o_59 x0), (hp_o_60 x0), (hp_o_61 x0), (hp_o_62 x0), (hp_o_63 x0), (hp_o_64 x0), (hp_o_65 x0), (hp_o_66 x0), (hp_o_67 x0), (hp_o_68 x0), (hp_o_69 x0), (hp_o_70 x0), (hp_o_71 x0), (hp_o_72 x0), (hp_o_73 x0), (hp_o_74 x0), (hp_o_75 x0), (hp_o_76 x0), (hp_o_77 x0), (hp_o_78 x0), (hp_o_79 x0), (hp_o_80 x0), (hp_o_81 x0), (hp_o_82 x0), (hp_o_89 x0), (hp_o_84 x0), (hp_o_85 x0), (hp_o_86 x0), (hp_o_90 x0), (hp_o_91 x0), (hp_o_92 x0), (hp_o_93 x0), (hp_o_94 x0), (hp_o_95 x0), (hp_o_96 x0), (hp_o_97 x0), (hp_o_98 x0), (hp_o_99 x0), (hp_o_100 x0), (hp_o_101 x0), (hp_o_102 x0), (hp_o_103 x0), (hp_o_104 x0), (hp_o_105 x0), (hp_o_106 x0), (hp_o_107 x0), (hp_o_108 x0), (hp_o_109 x0), (hp_o_110 x0), (hp_o_111 x0), (hp_o_112 x0), (hp_o_113 x0), (hp_o_114 x0), (hp_o_115 x0), (hp_o_116 x0), (hp_o_117 x0), (hp_o_118 x0), (hp_o_119 x0), (hp_o_120 x0), (hp_o_121 x0), (hp_o_122 x0), (hp_o_125 x0), (hp_o_126 x0), (hp_o_127 x0), (hp_o_128 x0), (hp_o_129 x0), (hp_o_130 x0), (hp_o_131 x0), (hp_o_132 x0), (hp_o_133 x0), (hp_o_134 x0), (hp_o_135 x0), (hp_o_136 x0), (hp_o_137 x0), (hp_o_138 x0), (hp_o_139 x0), (hp_o_140 x0), (hp_o_141 x0), (hp_o_142 x0), (hp_o_143 x0), (hp_o_144 x0), (hp_o_145 x0), (hp_o_146 x0), (hp_o_147 x0), (hp_o_148 x0), (hp_o_149 x0), (hp_o_150 x0), (hp_o_151 x0), (hp_o_152 x0), (hp_o_153 x0), (hp_o_154 x0), (hp_o_155 x0), (hp_o_156 x0), (hp_o_157 x0), (hp_o_158 x0), (hp_o_159 x0), (hp_o_160 x0), (hp_o_161 x0), (hp_o_162 x0), (hp_o_163 x0), (hp_o_164 x0), (hp_o_165 x0), (hp_o_166 x0), (hp_o_167 x0), (hp_o_168 x0), (hp_o_169 x0), (hp_o_170 x0), (hp_o_171 x0), (hp_o_172 x0), (hp_o_173 x0), (hp_o_174 x0), (hp_o_175 x0), (hp_o_176 x0), (hp_o_177 x0), (hp_o_178 x0), (hp_o_179 x0), (hp_o_180 x0), (hp_o_181 x0), (hp_o_184 x0), (hp_o_185 x0), (hp_o_186 x0), (hp_o_187 x0), (hp_o_188 x0), (hp_o_189 x0), (hp_o_190 x0), (hp_o_191 x0), (hp_o_192 x0), (hp_o_193 x0), (hp_o_194 x0), (hp_o_195 x0), (hp_o_196 x0), (hp_o_197 x0), (hp_o_198 x0), (hp_o_199 x0), (hp_o_200 x0), (hp_o_201 x0), (hp_o_202 x0), (hp_o_203 x0), (hp_o_204 x0), (hp_o_205 x0), (hp_o_206 x0), (hp_o_207 x0), (hp_o_208 x0), (hp_o_209 x0), (hp_o_210 x0), (hp_o_211 x0), (hp_o_212 x0), (hp_o_213 x0), (hp_o_214 x0), (hp_o_215 x0), (hp_o_216 x0), (hp_o_217 x0), (hp_o_218 x0), (hp_o_219 x0), (hp_o_220 x0), (hp_o_221 x0), (hp_o_222 x0), (hp_o_223 x0), (hp_o_224 x0), (hp_o_225 x0), (hp_o_228 x0), (hp_o_229 x0), (hp_o_230 x0), (hp_o_231 x0), (hp_o_232 x0), (hp_o_233 x0), (hp_o_234 x0), (hp_o_235 x0), (hp_o_236 x0), (hp_o_237 x0), (hp_o_238 x0), (hp_o_239 x0), (hp_o_240 x0), (hp_o_241 x0), (hp_o_242 x0), (hp_o_243 x0), (hp_o_244 x0), (hp_o_245 x0), (hp_o_246 x0), (hp_o_247 x0), (hp_o_248 x0), (hp_o_249 x0), (hp_o_250 x0), (hp_o_251 x0), (hp_o_252 x0), (hp_o_253 x0), (hp_o_254 x0), (hp_o_255 x0), (hp_o_256 x0), (hp_o_257 x0), (hp_o_258 x0), (hp_o_259 x0), (hp_o_260 x0), (hp_o_261 x0), (hp_o_262 x0), (hp_o_263 x0), (hp_o_264 x0), (hp_o_265 x0), (hp_o_266 x0), (hp_o_267 x0), (hp_o_268 x0), (hp_o_269 x0), (hp_o_270 x0), (hp_o_271 x0), (hp_o_272 x0), (hp_o_273 x0), (hp_o_274 x0), (hp_o_275 x0), (hp_o_276 x0), (hp_o_277 x0), (hp_o_278 x0), (hp_o_279 x0), (hp_o_280 x0), (hp_o_281 x0), (hp_o_282 x0), (hp_o_283 x0), (hp_o_286 x0), (hp_o_287 x0), (hp_o_288 x0), (hp_o_289 x0), (hp_o_290 x0), (hp_o_291 x0), (hp_o_292 x0), (hp_o_293 x0), (hp_o_294 x0), (hp_o_295 x0), (hp_o_296 x0), (hp_o_297 x0), (hp_o_298 x0), (hp_o_299 x0), (hp_o_300 x0), (hp_o_301 x0), (hp_o_302 x0), (hp_o_303 x0), (hp_o_304 x0), (hp_o_305 x0), (hp_o_306 x0), (hp_o_307 x0), (hp_o_308 x0), (hp_o_309 x0), (hp_o_310 x0), (hp_o_311 x0), (hp_o_312 x0), (hp_o_313 x0), (hp_o_314 x0), (hp_o_315 x0), (hp_o_316 x0), (hp_o_317 x0), (hp_o_318 x0), (hp_o_319 x0), (hp_o_320 x0), (hp_o_321 x0), (hp_o_322 x0), (hp_o_323 x0), (hp_o_324 x0), (hp_o_325 x0), (hp_o_326 x0), (hp_o_327 x0), (hp_o_328 x0), (hp_o_329 x0), (hp_o_330 x0), (hp_o_331 x0), (hp_o_332 x0), (hp_o_333 x0), (hp_o_334 x0), (hp_o_335 x0), (hp_o_336 x0), (hp_o_337 x0), (hp_o_338 x0), (hp_o_339 x0), (hp_o_342 x0), (hp_o_343 x0), (hp_o_344 x0), (hp_o_345 x0), (hp_o_346 x0), (hp_o_347 x0), (hp_o_348 x0), (hp_o_349 x0), (hp_o_350 x0), (hp_o_351 x0), (hp_o_352 x0), (hp_o_353 x0), (hp_o_354 x0), (hp_o_355 x0), (hp_o_356 x0), (hp_o_357 x0), (hp_o_358 x0), (hp_o_359 x0), (hp_o_360 x0), (hp_o_361 x0), (hp_o_362 x0), (hp_o_363 x0), (hp_o_364 x0), (hp_o_365 x0), (hp_o_366 x0), (hp_o_367 x0), (hp_o_368 x0), (hp_o_369 x0), (hp_o_370 x0), (hp_o_371 x0), (hp_o_372 x0), (hp_o_373 x0), (hp_o_374 x0), (hp_o_375 x0), (hp_o_376 x0), (hp_o_377 x0), (hp_o_378 x0), (hp_o_379 x0), (hp_o_380 x0), (hp_o_381 x0), (hp_o_382 x0), (hp_o_383 x0), (hp_o_384 x0), (hp_o_385 x0), (hp_o_386 x0), (hp_o_387 x0), (hp_o_388 x0), (hp_o_389 x0), (hp_o_390 x0), (hp_o_391 x0), (hp_o_392 x0), (hp_o_393 x0), (hp_o_394 x0), (hp_o_395 x0), (hp_o_396 x0)]) zLife)
noncomputable def zEnv : Env := ⟨zP.main.scope, mainNs, mainNs, [], PySem.Str.empty, none, .ref 13, some 14, 0⟩
noncomputable def zC : Code := .body (behindTheImports zP) zEnv
noncomputable def zT (t : Params → BT) (n k : Nat) (w : World) (os : OsState) : SharedT := ⟨t w.params, n, zLife, #[], ⟨0, 0, 0, 0⟩, k, os⟩
noncomputable def zH (h : Params → Heap) (k : Nat) (w : World) (os : OsState) : Shared := ⟨h w.params, #[], ⟨0, 0, 0, 0⟩, k, os⟩
noncomputable def zs1 : List Stmt := [(zst 0), (zst 1), (zst 2)]
noncomputable def zs2 : List Stmt := [(zst 3), (zst 4), (zst 5), (zst 6), (zst 7), (zst 8)]
noncomputable def zs3 : List Stmt := [(zst 9)]
noncomputable def zs4 : List Stmt := [(zst 10)]
noncomputable def zs5 : List Stmt := [(zst 11)]
noncomputable def zs6 : List Stmt := [(zst 12), (zst 13), (zst 14), (zst 15)]
noncomputable def zs7 : List Stmt := [(zst 16), (zst 17), (zst 18), (zst 19), (zst 20), (zst 21), (zst 22), (zst 23), (zst 24)]
theorem hpre (w : World) : (fun os => topGo treeTable zP w 11 (some (.ref 6)) 12 ⟨boot_heap w.params, #[], boot_drawn, boot_toks, os⟩ (topStub zP)) = fun os => some (zH hp_heap_46 187 w os, ⟨denote treeTable zC, zC, ⟨0, 0, 0, 0⟩, [topFrame ⟨0, 0, 0, 0⟩]⟩) := by kernel_rfl
theorem hblk (w : World) : (fun os => segRun treeTable zP w 11 (some (.ref 6)) 1 1 (zH hp_heap_46 187 w os) (blockOf (behindTheImports zP) zEnv zC ⟨0, 0, 0, 0⟩ [topFrame ⟨0, 0, 0, 0⟩])) = fun os => some (.next, (zT hp_tree_47 15 187 w os).abs, zC, ⟨0, 0, 0, 0⟩) := by kernel_rfl
theorem hseg1 (w : World) : (fun os => segRunT treeTable zP w 11 (some (.ref 6)) 1 307 (zT hp_tree_47 15 187 w os) (piecesOf zs1 zEnv zC ⟨0, 0, 0, 0⟩ [topFrame ⟨0, 0, 0, 0⟩])) = fun os => some (.next, zT hp_tree_86 50 236 w os, zC, ⟨5, 0, 13, 16⟩) := by kernel_rfl
theorem hseg2 (w : World) : (fun os => segRunT treeTable zP w 11 (some (.ref 6)) 1 324 (zT hp_tree_86 50 236 w os) (piecesOf zs2 zEnv zC ⟨5, 0, 13, 16⟩ [topFrame ⟨0, 0, 0, 0⟩])) = fun os => some (.next, zT hp_tree_122 83 282 w os, zC, ⟨25, 0, 27, 69⟩) := by kernel_rfl
theorem hseg3 (w : World) : (fun os => segRunT treeTable zP w 11 (some (.ref 6)) 1 388 (zT hp_tree_122 83 282 w os) (piecesOf zs3 zEnv zC ⟨25, 0, 27, 69⟩ [topFrame ⟨0, 0, 0, 0⟩])) = fun os => some (.next, zT hp_tree_181 140 355 w os, zC, ⟨28, 0, 62, 56⟩) := by kernel_rfl
theorem hseg4 (w : World) : (fun os => segRunT treeTable zP w 11 (some (.ref 6)) 1 321 (zT hp_tree_181 140 355 w os) (piecesOf zs4 zEnv zC ⟨28, 0, 62, 56⟩ [topFrame ⟨0, 0, 0, 0⟩])) = fun os => some (.next, zT hp_tree_225 182 410 w os, zC, ⟨63, 0, 88, 22⟩) := by kernel_rfl
theorem hseg5 (w : World) : (fun os => segRunT treeTable zP w 11 (some (.ref 6)) 1 382 (zT hp_tree_225 182 410 w os) (piecesOf zs5 zEnv zC ⟨63, 0, 88, 22⟩ [topFrame ⟨0, 0, 0, 0⟩])) = fun os => some (.next, zT hp_tree_283 238 478 w os, zC, ⟨89, 0, 119, 52⟩) := by kernel_rfl
theorem hseg6 (w : World) : (fun os => segRunT treeTable zP w 11 (some (.ref 6)) 1 386 (zT hp_tree_283 238 478 w os) (piecesOf zs6 zEnv zC ⟨89, 0, 119, 52⟩ [topFrame ⟨0, 0, 0, 0⟩])) = fun os => some (.next, zT hp_tree_339 292 549 w os, zC, ⟨152, 0, 152, 8⟩) := by kernel_rfl
theorem hseg7 (w : World) : (fun os => segRunT treeTable zP w 11 (some (.ref 6)) 1 269 (zT hp_tree_339 292 549 w os) (piecesOf zs7 zEnv zC ⟨152, 0, 152, 8⟩ [topFrame ⟨0, 0, 0, 0⟩])) = fun os => some (.next, zT hp_tree_396 347 627 w os, zC, ⟨234, 0, 254, 131⟩) := by kernel_rfl
theorem hfin (w : World) : (fun os => topRun treeTable zP w 11 (some (.ref 6)) 2 (zT hp_tree_396 347 627 w os).abs ⟨doneF .next, zC, ⟨234, 0, 254, 131⟩, [topFrame ⟨0, 0, 0, 0⟩]⟩) = fun os => some (zH hp_heap_397 627 w os) := by kernel_rfl
theorem hbody : behindTheImports zP = zs1 ++ (zs2 ++ (zs3 ++ (zs4 ++ (zs5 ++ (zs6 ++ (zs7 ++ [])))))) := by kernel_rfl
theorem hrun (w : World) (os : OsState) : topRun treeTable zP w 11 (some (.ref 6)) (12 + (1 + (307 + (324 + (388 + (321 + (382 + (386 + (269 + 2))))))))) ⟨boot_heap w.params, #[], boot_drawn, boot_toks, os⟩ (topStub zP) = some (zH hp_heap_397 627 w os) := by
  refine go_top (congrFun (hpre w) os) ?_
  refine piece_block (congrFun (hblk w) os) ?_
  rw [hbody]
  refine piece_app (segRun_of (congrFun (hseg1 w) os)) ?_
  refine piece_app (segRun_of (congrFun (hseg2 w) os)) ?_
  refine piece_app (segRun_of (congrFun (hseg3 w) os)) ?_
  refine piece_app (segRun_of (congrFun (hseg4 w) os)) ?_
  refine piece_app (segRun_of (congrFun (hseg5 w) os)) ?_
  refine piece_app (segRun_of (congrFun (hseg6 w) os)) ?_
  refine piece_app (segRun_of (congrFun (hseg7 w) os)) ?_
  exact piece_nil (congrFun (hfin w) os)
theorem hopen : ∀ w : World, (fencedOpening treeTable zP w 4866).map (fun s => (s.heap, s.gens, s.drawn, s.toks)) = some (boot_heap w.params, Array.mk [], boot_drawn, boot_toks) :=
  boot_open (by kernel_rfl) (by decide) (fun s => by kernel_rfl)
theorem hsize (w : World) : ((boot_heap w.params).isNs mainGlobals && (#[] : Array GenState).size == 0, (boot_heap w.params).objs.size, (boot_heap w.params).nsMap mainGlobals "__annotations__") = (true, 11, some (.ref 6)) := by kernel_rfl
end Mine
end
section -- Hd
open PySem PySem.W PyProof.Rows
set_option maxRecDepth 100000
set_option maxHeartbeats 8000000
namespace Mine.PySem.W
theorem holds_open {r : OpenRow} {q : Program} {loose : List PySem.Str} {Xt : Shared → Bool} {XP : (PySem.Str → Option Value) → Heap → Prop} {α : Type} {Yf : Shared → α} {Ya : World → α} {YP : World → Heap → Prop} {d : DefRec} {kwd : List (PySem.Str × Expr)} {N : Nat}
    (left : LeftO r.prog q loose Xt Yf Ya N) (hY : ∀ w s, Yf s = Ya w → YP w s.heap) (hYk : ∀ w h h', YP w h → (∀ b o, h.get? b = some o → h'.get? b = some o) → YP w h')
    (hX : ∀ s, Xt s = true → XP (s.heap.nsMap mainGlobals) s.heap) (hXk : ∀ mg h h', XP mg h → (∀ b o, h.get? b = some o → h'.get? b = some o) → XP mg h')
    (hdef : defOf q r.name = some (d, kwd)) (hp : r.prog.theDef r.name = some (d.params, d.body, d.scope)) (hk : kwWritten? d.params.kwonlyargs d.params.kw_defaults = some kwd) (hRf : ∀ s, Xt s = true → RecFacts r.records s.heap) (hwr : (!r.writes || r.records.isEmpty) = true)
    (k1 : r.wellSaid = true) (ok : (chainsOk q && opensWell r.prog && (frees r.toRowW && r.within.isEmpty)) = true) (hb : r.prog.bare) (hw : r.toRowW.promised)
    (call : WalkR q loose XP YP r.toRowW d kwd) : r.Holds :=
  ends_R left hY hYk hX hXk hdef hp hk hRf hwr k1 ok hb hw call
end Mine.PySem.W
namespace Mine
local macro_rules | `(tactic| o_head $H) => `(tactic| (
  refine Mine.PySem.W.holds_open (q := Mine.qv) (loose := [PySem.Str.ofString "PaperError"]) (Xt := fun s => xlAt Mine.qv [] s && recOk (RowW.records (OpenRow.toRowW (OpenLaw.row PySem.Challenge.rw_nn0201_01))) s) (XP := XL Mine.qv []) (Yf := Hook.obs $H) (Ya := Hook.val $H) (YP := Hook.says $H) (N := 4866) ?hl (Hook.of $H) (Hook.keeps $H) (fun s e => xl_of s (Bool.and_eq_true_iff.mp e).1) XL.keeps (by rfl) (by rfl) (by rfl) (fun s e => recFacts_of (Bool.and_eq_true_iff.mp e).2) (by rfl) (by first | assumption | decide +kernel) (by decide +kernel) ⟨rfl, rfl, rfl, rfl, rfl, by decide +kernel⟩ ?hw ?hc;
  (case hl => exact LeftO.of_pieces Mine.hopen Mine.hsize Mine.hrun (by decide) (fun w => by kernel_rfl))))
open_top hd for PySem.Challenge.rw_nn0201_01
end Mine
end
section
open PySem PySem.W PyProof.Rows PySem.Calls
namespace Mine
theorem dummyHd (P : Params) : Mine.hd.heap_39 P = Mine.hd.heap_39 P → Challenge.rw_nn0201_01 = Challenge.rw_nn0201_01 := by
  k_fill
  w_top off
  intro _; rfl
local macro_rules | `(tactic| k_ne) => `(tactic| first | assumption | exact Ne.symm (by assumption) | exact Nat.ne_of_lt (by omega) | exact Nat.ne_of_gt (by omega))
local macro_rules | `(tactic| k_all) => `(tactic| assumption)
section -- Ba
set_option maxRecDepth 100000
set_option maxHeartbeats 4000000
open Sem (wp)

theorem ba_mro : mroOf (.type "bytearray") = pure [.type "bytearray", .type "object"] := by rw [mroOf_type]; kernel_rfl
theorem ba_lookup_new : typeLookup (.type "bytearray") "__new__" = pure (some (.builtin "bytearray.__new__")) := by rw [typeLookup_type, builtinLookup_eq_fast]; kernel_rfl
theorem ba_sub : isSubtype (.type "bytearray") (.type "bytearray") = pure true := by rw [isSubtype_type]; kernel_rfl
theorem ba_slot_init : Slot "bytearray" "__init__" "bytearray.__init__" :=
  .of (owner := "bytearray") (n := "__init__") (by rw [typeLookup_type, builtinLookup_eq_fast]; kernel_rfl) (by decide +kernel) (by decide +kernel) (by decide +kernel)
    (by first | exact .inl (by decide +kernel) | exact .inr (by decide +kernel)) (by rw [isSubtype_type]; kernel_rfl)
theorem ba_slot_len : Slot "bytearray" "__len__" "bytearray.__len__" :=
  .of (owner := "bytearray") (n := "__len__") (by rw [typeLookup_type, builtinLookup_eq_fast]; kernel_rfl) (by decide +kernel) (by decide +kernel) (by decide +kernel)
    (by first | exact .inl (by decide +kernel) | exact .inr (by decide +kernel)) (by rw [isSubtype_type]; kernel_rfl)
theorem ba_slot_append : Slot "bytearray" "append" "bytearray.append" :=
  .of (owner := "bytearray") (n := "append") (by rw [typeLookup_type, builtinLookup_eq_fast]; kernel_rfl) (by decide +kernel) (by decide +kernel) (by decide +kernel)
    (by first | exact .inl (by decide +kernel) | exact .inr (by decide +kernel)) (by rw [isSubtype_type]; kernel_rfl)
theorem ba_slot_extend : Slot "bytearray" "extend" "bytearray.extend" :=
  .of (owner := "bytearray") (n := "extend") (by rw [typeLookup_type, builtinLookup_eq_fast]; kernel_rfl) (by decide +kernel) (by decide +kernel) (by decide +kernel)
    (by first | exact .inl (by decide +kernel) | exact .inr (by decide +kernel)) (by rw [isSubtype_type]; kernel_rfl)
theorem ba_called : TypeCalled "bytearray" "bytearray.__new__" "bytearray.__init__" :=
  ⟨by decide +kernel, by decide +kernel, ⟨_, _, ba_mro⟩, madeBy_type ba_mro ba_lookup_new (by decide +kernel), by decide +kernel, by rw [isSubtype_type]; kernel_rfl, ba_slot_init⟩
theorem ba_typeCall : checkTypeCall "bytearray" ⟨[], []⟩ = pure () := by kernel_rfl
theorem ba_newCall : checkBuiltinCall "bytearray.__new__" ⟨[.type "bytearray"], []⟩ = pure () := by kernel_rfl
theorem ba_plain_new : plainId "bytearray.__new__" = true := by decide +kernel
theorem ba_entry_new : entryFor table "bytearray.__new__" = some Builtin.«list.__new__» :=
  entryFor_alias (id' := "list.__new__") (by kernel_rfl) (by first | rfl | decide +kernel) (by decide +kernel) (by kernel_rfl)
theorem ba_entry_init : entryFor table "bytearray.__init__" = some Builtin.«bytearray.__init__» := by first | exact entryFor_of_fast (by kernel_rfl) | exact entryFor_of_tree (by kernel_rfl)
theorem ba_entry_len : entryFor table "bytearray.__len__" = some Builtin.«bytearray.__len__» := by first | exact entryFor_of_fast (by kernel_rfl) | exact entryFor_of_tree (by kernel_rfl)
theorem ba_entry_append : entryFor table "bytearray.append" = some Builtin.«bytearray.append» := by first | exact entryFor_of_fast (by kernel_rfl) | exact entryFor_of_tree (by kernel_rfl)
theorem ba_entry_extend : entryFor table "bytearray.extend" = some Builtin.«bytearray.extend» := by first | exact entryFor_of_fast (by kernel_rfl) | exact entryFor_of_tree (by kernel_rfl)
set_option maxRecDepth 1000000 in
theorem ba_owner : ("bytearray.__new__".splitOn ".__new__").headD "" = "bytearray" := by simp +decide [String.splitOn, String.splitOnAux]
theorem ba_args_init (a : Value) : argsOk "bytearray.__init__" ⟨[a], []⟩ := by unfold argsOk; kernel_rfl
theorem ba_args_len (a : Value) : argsOk "bytearray.__len__" ⟨[a], []⟩ := by unfold argsOk; kernel_rfl
theorem ba_args_append (a b : Value) : argsOk "bytearray.append" ⟨[a, b], []⟩ := by unfold argsOk; kernel_rfl
theorem ba_args_extend (a b : Value) : argsOk "bytearray.extend" ⟨[a, b], []⟩ := by unfold argsOk; kernel_rfl
theorem ba_getattribute : typeLookup (.type "bytearray") "__getattribute__" = pure (some (.builtin "bytearray.__getattribute__")) := by rw [typeLookup_type, builtinLookup_eq_fast]; kernel_rfl
theorem ba_canon : (Manifest.canonical "bytearray.__getattribute__" != "object.__getattribute__") = false := by decide +kernel
theorem ba_getattr_none : typeLookup (.type "bytearray") "__getattr__" = pure none := by rw [typeLookup_type, builtinLookup_eq_fast]; kernel_rfl
theorem ba_type_append : typeOf (.builtin "bytearray.append") = pure (.type "method_descriptor") := by show builtinType _ = _; rw [builtinType_eq_fast]; kernel_rfl
theorem ba_type_extend : typeOf (.builtin "bytearray.extend") = pure (.type "method_descriptor") := by show builtinType _ = _; rw [builtinType_eq_fast]; kernel_rfl

section
variable {prog : Program} {w : World} {A : Around} {E : Value → Shared → Prop} {s : Shared}
theorem code_bytearray_new {Q₁ : Value → Shared → Prop}
    (h : Q₁ (.ref s.heap.objs.size) { s with heap := s.heap.push { cls := .type "bytearray", data := .bytearray #[] } }) :
    codeAny (model prog w) A (.call (.builtin "bytearray.__new__") ⟨[.type "bytearray"], []⟩) (wants Q₁ E) s := by
  refine codeAny_of_tree ?_
  show wpAny _ A.in1 (do checkBuiltinCall "bytearray.__new__" ⟨[.type "bytearray"], []⟩; again (.builtin "bytearray.__new__" ⟨[.type "bytearray"], []⟩)) _ _ s
  refine wpAny_bind (wpAny_of_eq ba_newCall (wpAny_pure ⟨plainId_quiet ba_plain_new _, codeAny_builtin_stack ba_entry_new rfl fun p st => ?_⟩))
  rw [Around.under_plainId ba_plain_new _]
  have hsub := ba_sub
  have hown := ba_owner
  obtain ⟨hp, g, d, tk, os⟩ := s
  simp only [hown]
  wp_walk
  exact h
end
end
section -- Bb
set_option maxRecDepth 100000
set_option maxHeartbeats 4000000
open Sem (wp)
section
variable {prog : Program} {w : World} {A : Around} {E : Value → Shared → Prop} {R : Result → Shared → Prop} {s : Shared}
theorem codeR_builtin {id : String} {args : Args} {b : Builtin} (hok : okC (.builtin id args) = true) (hb : entryFor table id = some b)
    (h : wpR (model prog w) (A.under (.builtin id args)) (b args)
      (fun fin s' => match fin with | .done f => R (.ok f) s' | .again c' => c'.quiet = true ∧ codeR (model prog w) A c' R s') (fun e s' => R (.error e) s') s) :
    codeR (model prog w) A (.builtin id args) R s := by
  refine codeR_tree hok ?_
  show wpR _ _ (match entryFor table id with | some b => b args | none => unsupported ((withoutEnding? id "#data").getD id)) _ _ s
  rw [hb]; exact h
theorem codeR_call_builtin_at {id : String} {args : Args} {b : Builtin} (hok : okC (.builtin id args) = true) (hq : (Code.builtin id args).quiet = true) (hb : entryFor table id = some b)
    (h : wpAny (model prog w) A.in1 (checkBuiltinCall id args) (fun _ s₁ => wpR (model prog w) (A.under (.builtin id args)) (b args)
      (fun fin s' => match fin with | .done f => R (.ok f) s' | .again c' => c'.quiet = true ∧ codeR (model prog w) A c' R s') (fun e s' => R (.error e) s') s₁)
      (fun e s' => R (.error e) s') s) : codeR (model prog w) A (.call (.builtin id) args) R s := by
  refine codeR_tree rfl ?_
  show wpR _ A.in1 (do checkBuiltinCall id args; again (.builtin id args)) _ _ s
  exact wpR_lead (wpAny_mono h (fun _ s₁ h₁ => wpR_pure (And.intro hq (codeR_builtin hok hb h₁))) fun _ _ h' => h')
theorem codeR_call_builtin {id : String} {args : Args} {b : Builtin} (hok : okC (.builtin id args) = true) (hq : plainId id = true) (hb : entryFor table id = some b)
    (h : wpAny (model prog w) A.in1 (checkBuiltinCall id args) (fun _ s₁ => wpR (model prog w) A.in1 (b args)
      (fun fin s' => match fin with | .done f => R (.ok f) s' | .again c' => c'.quiet = true ∧ codeR (model prog w) A c' R s') (fun e s' => R (.error e) s') s₁)
      (fun e s' => R (.error e) s') s) : codeR (model prog w) A (.call (.builtin id) args) R s :=
  codeR_call_builtin_at hok (plainId_quiet hq args) hb (by rw [Around.under_plainId hq args]; exact h)

theorem ite_false_R {α : Type} {c : Prop} [Decidable c] {a b : Sem α} {Q : α → Shared → Prop} {M : Model} (hc : ¬ c) (h : wpR M A b Q E s) : wpR M A (if c then a else b) Q E s := by rw [if_neg hc]; exact h
theorem ite_true_R {α : Type} {c : Prop} [Decidable c] {a b : Sem α} {Q : α → Shared → Prop} {M : Model} (hc : c) (h : wpR M A a Q E s) : wpR M A (if c then a else b) Q E s := by rw [if_pos hc]; exact h

theorem ba_look_release : typeLookup (.type "bytearray") "__release_buffer__" = pure (some (.builtin "bytearray.__release_buffer__")) := by rw [typeLookup_type, builtinLookup_eq_fast]; kernel_rfl
theorem ba_look_buffer : typeLookup (.type "bytearray") "__buffer__" = pure (some (.builtin "bytearray.__buffer__")) := by rw [typeLookup_type, builtinLookup_eq_fast]; kernel_rfl
theorem ba_ends_release : ("bytearray.__release_buffer__".endsWith ("." ++ "__release_buffer__")) = true := by decide +kernel
theorem ba_ends_buffer : ("bytearray.__buffer__".endsWith ("." ++ "__buffer__")) = true := by decide +kernel
theorem ba_drop_release : "bytearray.__release_buffer__".dropRight ("__release_buffer__".length + 1) = "bytearray" := by decide +kernel
theorem ba_drop_buffer : "bytearray.__buffer__".dropRight ("__buffer__".length + 1) = "bytearray" := by decide +kernel
theorem own_release_ba {M : Model} {v : Value} {Q : Bool → Shared → Prop} (hT : s.TypeIs v "bytearray") (h : Q false s) : wpAny M A (Builtin.Bytes.ownRelease v) Q E s := by
  unfold Builtin.Bytes.ownRelease Builtin.Bytes.slotIsOwn
  refine wpAny_bind (wpAny_bind (wpAny_specialOf hT ba_look_release ?_))
  dsimp only
  rw [ba_ends_release, ba_drop_release]
  exact wpAny_isInstance hT ba_sub (wpAny_pure h)
theorem own_buffer_ba {M : Model} {v : Value} {Q : Bool → Shared → Prop} (hT : s.TypeIs v "bytearray") (h : Q true s) : wpAny M A (Builtin.Bytes.slotIsOwn v "__buffer__") Q E s := by
  unfold Builtin.Bytes.slotIsOwn
  refine wpAny_bind (wpAny_specialOf hT ba_look_buffer ?_)
  dsimp only
  rw [ba_ends_buffer, ba_drop_buffer]
  exact wpAny_isInstance hT ba_sub h
theorem ba_bind : Builtin.Bytes.bindOptional "bytearray.__init__" "bytearray" ["source", "encoding", "errors"] [] [] = pure [none, none, none] := by kernel_rfl

theorem init_run {a : Addr} {o : Obj} {Q : Fin → Shared → Prop} (ho : s.heap.get? a = some o) (hd : o = { cls := .type "bytearray", data := .bytearray #[] 0 })
    (h : ∀ h', Heap.SameBut a s.heap h' → h'.get? a = some { cls := .type "bytearray", data := .bytearray #[] 0 } → Q (.done (.ret .none)) { s with heap := h' }) :
    wpR (model prog w) A (Builtin.«bytearray.__init__» ⟨[.ref a], []⟩) Q E s := by
  have hT : s.TypeIs (.ref a) "bytearray" := ⟨_, ho, by rw [hd]⟩
  unfold Builtin.«bytearray.__init__»
  refine wpR_lead (own_release_ba hT ?_)
  refine ite_false_R Bool.false_ne_true ?_
  refine wpR_lead (wpAny_of_eq ba_bind ?_)
  refine wpR_lead (wpAny_of_eq (a := ()) rfl ?_)
  refine wpR_lead (wpAny_of_eq (a := ()) rfl ?_)
  refine wpR_bind (wpR_bind (exported_false ?_))
  refine wpR_lead (wpAny_bind (wpAny_load ho ?_))
  rw [hd]
  refine wpAny_pure (wpR_pure ?_)
  refine ite_false_R (by decide) ?_
  refine wpR_lead (write_R ho hd (Nat.zero_le _) fun h' e1 e2 => ?_)
  exact wpR_pure (h h' e1 e2)
end
end
section -- Bc
set_option maxRecDepth 100000
set_option maxHeartbeats 4000000
open Sem (wp)
section
variable {prog : Program} {w : World} {A : Around} {E : Value → Shared → Prop} {R : Result → Shared → Prop} {s : Shared} {h₀ : Heap} {L : Addr} {m : PySem.Str → Option Value} {news : List (Addr × Obj)}

theorem okC_of {id : String} {a : Args} (h : exIds.contains id = false) : okC (.builtin id a) = true := by show (!exIds.contains id) = true; rw [h]; rfl
abbrev baObj (b : Array UInt8) : Obj := { cls := .type "bytearray", data := .bytearray b 0 }

theorem call_bytearray {Q : Value → Shared → Prop}
    (h : ∀ h', (∀ b o, s.heap.get? b = some o → h'.get? b = some o) → h'.get? s.heap.objs.size = some (baObj #[]) → Q (.ref s.heap.objs.size) { s with heap := h' }) :
    wpR (model prog w) A (call (.type "bytearray") []) Q E s := by
  obtain ⟨c, tl, hmro⟩ := ba_called.mro
  have hmade := ba_called.made
  have hsub := ba_called.sub
  refine wpR_call (codeR_tree rfl ?_)
  show wpR _ _ (callAny (.type "bytearray") _) _ _ _
  refine wpR_pure ⟨Code.quiet_builtin _ (by decide +kernel), codeR_builtin (by decide +kernel) F.entry_type_call ?_⟩
  rw [Around.under_plain (weight_type_call_type "bytearray" [] []) rfl]
  have h1 := ba_called.notType
  have h2 := ba_called.canCreate
  have hct := ba_typeCall
  unfold Builtin.«type.__call__»
  dsimp only
  refine ite_false_R (by decide) ?_
  refine ite_false_R (by rw [h2]; decide) ?_
  refine wpR_lead (wpAny_of_eq hct ?_)
  refine wpR_lead (wpAny_of_eq hmro ?_)
  refine ite_false_R (by simp) ?_
  refine wpR_lead (wpAny_of_eq hmade ?_)
  refine wpR_lead (wpAny_pure ?_)
  refine wpR_lead (wpAny_holding (wpAny_call (codeAny_mono (code_bytearray_new (E := E) (Q₁ := fun obj s₁ => obj = .ref s.heap.objs.size ∧ s₁ = { s with heap := s.heap.push (baObj #[]) }) ⟨rfl, rfl⟩) fun r s₁ hr => ?_)))
  cases r with
  | error e => exact hr
  | ok fl =>
    cases fl with
    | ret obj =>
      obtain ⟨rfl, rfl⟩ := hr
      have ho : (s.heap.push (baObj #[])).get? s.heap.objs.size = some (baObj #[]) := Heap.get?_push_size _ rfl
      have hT : Shared.TypeIs { s with heap := s.heap.push (baObj #[]) } (.ref s.heap.objs.size) "bytearray" := ⟨_, ho, rfl⟩
      dsimp only
      refine wpR_lead (wpAny_isInstance hT ba_sub ?_)
      refine ite_false_R (by decide) ?_
      refine wpR_bind (wpR_holding ?_)
      unfold callSpecial?
      refine wpR_lead (wpAny_specialOf hT ba_slot_init.lookup ?_)
      dsimp only
      refine wpR_holding (wpR_lead (wpAny_of_eq (ba_slot_init.bind _) ?_))
      dsimp only
      refine wpR_bind (wpR_call (codeR_call_builtin (okC_of (by decide +kernel)) ba_slot_init.plain ba_entry_init (ba_slot_init.check _ _ _ _ _ _ _ _ hT (ba_args_init _) ?_)))
      refine init_run ho rfl fun h' e1 e2 => ?_
      refine wpR_pure ?_
      refine wpR_pure (h h' (fun b o e => ?_) e2)
      exact e1.extBut b o (Nat.ne_of_lt (Heap.lt_size e)) (Heap.get?_push_of_some _ e)
    | _ => exact hr.elim

theorem call_bytearray_N {Q : Value → Shared → Prop} (F : Fr h₀ L s.heap m) (N : News h₀ L s.heap news)
    (h : ∀ b h', Fr h₀ L h' m → News h₀ L h' ((b, baObj #[]) :: news) → (∀ p ∈ news, p.1 < b) → Q (.ref b) { s with heap := h' }) :
    wpR (model prog w) A (call (.type "bytearray") []) Q E s :=
  call_bytearray fun h' k e => h _ h' (F.keeps k) (news_pushed F N k e rfl) fun q hq => Heap.lt_size (N q hq).1

theorem getMethod_ba {l : Addr} {o : Obj} {pl : Sem Bool} {x id : String} {M : Model} {Q : Value × List Value → Shared → Prop} (ho : s.heap.get? l = some o) (hc : o.cls = .type "bytearray") (hd : o.dict = none)
    (hl : Slot "bytearray" x id) (ht : typeOf (.builtin id) = pure (.type "method_descriptor"))
    (h : Q (.builtin id, [.ref l]) s) : wpAny M A (getMethod (.ref l) x pl) Q E s := by
  have hT : s.TypeIs (.ref l) "bytearray" := ⟨o, ho, hc⟩
  unfold getMethod
  refine wpAny_bind (wpAny_specialOf hT ba_getattribute ?_)
  show wpAny M A (if (Manifest.canonical "bytearray.__getattribute__" != "object.__getattribute__") = true then _ else _) Q E s
  rw [ba_canon, if_neg Bool.false_ne_true]
  refine wpAny_bind (wpAny_specialOf hT ba_getattr_none ?_)
  refine wpAny_bind (wpAny_specialOf hT hl.lookup ?_)
  refine wpAny_bind (wpAny_of_eq ht ?_)
  refine wpAny_bind (wpAny_load ho ?_)
  rw [hd]
  exact wpAny_bind (wpAny_rule (wpAny_pure h))

theorem byteValue_int {M : Model} {i : Int} {t : Tok} {Q : UInt8 → Shared → Prop} (h0 : 0 ≤ i) (h1 : i < 256) (h : Q i.toNat.toUInt8 s) : wpAny M A (Builtin.Bytes.byteValue (.int i t)) Q E s := by
  unfold Builtin.Bytes.byteValue asIndex
  refine wpAny_bind (wpAny_bind (wpAny_of_eq (a := some i) rfl (wpAny_pure ?_)))
  have e : (decide (i < 0) || decide (i ≥ 256)) = false := by
    rw [decide_eq_false (by omega), decide_eq_false (by omega)]; rfl
  rw [e]
  exact wpAny_pure h

theorem append_ba {a : Addr} {b : Array UInt8} {i : Int} {t : Tok} {Q : Value → Shared → Prop} (ho : s.heap.get? a = some (baObj b)) (h0 : 0 ≤ i) (h1 : i < 256) (hz : b.size < sizeLine)
    (h : ∀ h', Heap.SameBut a s.heap h' → h'.get? a = some (baObj (b.push i.toNat.toUInt8)) → Q .none { s with heap := h' }) :
    wpR (model prog w) A (call (.builtin "bytearray.append") [.ref a, .int i t]) Q E s := by
  have hT : s.TypeIs (.ref a) "bytearray" := ⟨_, ho, rfl⟩
  refine wpR_call (codeR_call_builtin (okC_of (by decide +kernel)) ba_slot_append.plain ba_entry_append (ba_slot_append.check _ _ _ _ _ _ _ _ hT (ba_args_append _ _) ?_))
  unfold Builtin.«bytearray.append»
  refine wpR_lead (wpAny_of_eq (a := (.ref a, .int i t)) rfl ?_)
  dsimp only
  refine wpR_lead (byteValue_int h0 h1 ?_)
  refine wpR_bind (checkResize_R ho rfl ?_)
  refine wpR_lead (write_R ho rfl (by rw [Array.size_push]; omega) fun h' e1 e2 => ?_)
  exact wpR_pure (h h' e1 e2)

theorem append_ba_N {a : Addr} {b : Array UInt8} {i : Int} {t : Tok} {news' : List (Addr × Obj)} {Q : Value → Shared → Prop} (F : Fr h₀ L s.heap m) (N : News h₀ L s.heap news)
    (U : Upd a (baObj b) (baObj (b.push i.toNat.toUInt8)) news news') (h0 : 0 ≤ i) (h1 : i < 256) (hz : b.size < sizeLine)
    (h : ∀ h', Fr h₀ L h' m → News h₀ L h' news' → Q .none { s with heap := h' }) :
    wpR (model prog w) A (call (.builtin "bytearray.append") [.ref a, .int i t]) Q E s := by
  obtain ⟨pre, post, rfl, rfl, u1, u2⟩ := U.split
  have z := N (a, baObj b) (List.mem_append.mpr (.inr (.head _)))
  exact append_ba z.1 h0 h1 hz fun h' hs ho' => h h' (F.change hs z.2.1 z.2.2) (news_set N u1 u2 hs ho')

theorem takeBuffer_bytes {b : Array UInt8} {u : Tok} : Builtin.Bytes.takeBuffer? "bytearray.extend" (.bytes b u) 0 = pure (some (b, none)) := by
  unfold Builtin.Bytes.takeBuffer?
  have e : ((0 : Int) == Builtin.Bytes.fullReadOnly) = false := by decide
  rw [KBy.special_eq KBy.look_buffer, KBy.own_buffer, e, KBy.buffer_eq]
  rfl
theorem takeBufferQuiet_bytes {b : Array UInt8} {u : Tok} : Builtin.Bytes.takeBufferQuiet? "bytearray.extend" (.bytes b u) 0 = pure (some (b, none)) := by
  unfold Builtin.Bytes.takeBufferQuiet?
  rw [takeBuffer_bytes]
  rfl
theorem payload_ba {M : Model} {a : Addr} {b : Array UInt8} {Q : Array UInt8 → Shared → Prop} (ho : s.heap.get? a = some (baObj b)) (h : Q b s) : wpAny M A (Builtin.Bytes.payload (.ref a)) Q E s := by
  unfold Builtin.Bytes.payload Builtin.Bytes.payload?
  exact wpAny_bind (wpAny_bind (wpAny_load ho (wpAny_pure (wpAny_pure h))))
theorem extend_ba {a : Addr} {b c : Array UInt8} {u : Tok} {Q : Value → Shared → Prop} (ho : s.heap.get? a = some (baObj b)) (hz : b.size + c.size ≤ sizeLine)
    (h : ∀ h', Heap.SameBut a s.heap h' → h'.get? a = some (baObj (b ++ c)) → Q .none { s with heap := h' }) :
    wpR (model prog w) A (call (.builtin "bytearray.extend") [.ref a, .bytes c u]) Q E s := by
  have hT : s.TypeIs (.ref a) "bytearray" := ⟨_, ho, rfl⟩
  refine wpR_call (codeR_call_builtin (okC_of (by decide +kernel)) ba_slot_extend.plain ba_entry_extend (ba_slot_extend.check _ _ _ _ _ _ _ _ hT (ba_args_extend _ _) ?_))
  unfold Builtin.«bytearray.extend»
  refine wpR_lead (wpAny_of_eq (a := (.ref a, .bytes c u)) rfl ?_)
  dsimp only
  refine wpR_lead (wpAny_of_eq (KBy.special_eq KBy.look_buffer) ?_)
  refine ite_true_R rfl ?_
  refine wpR_lead (wpAny_rule ?_)
  refine wpR_lead (payload_ba ho ?_)
  refine wpR_lead (wpAny_of_eq takeBufferQuiet_bytes ?_)
  dsimp only
  refine ite_true_R rfl ?_
  show wpR _ _ (if (!c.isEmpty) = true then (Builtin.Bytes.checkResize (.ref a) >>= fun _ => (Builtin.Bytes.write (.ref a) (· ++ c) >>= fun _ => ret .none)) else (Builtin.Bytes.write (.ref a) (· ++ c) >>= fun _ => ret .none)) _ _ _
  have k : ∀ (Q' : Fin → Shared → Prop), (∀ s', Q .none s' → Q' (.done (.ret .none)) s') → wpR (model prog w) A.in1 (Builtin.Bytes.write (.ref a) (· ++ c) >>= fun _ => ret .none) Q' (fun e s' => E e s') s :=
    fun Q' hq => wpR_lead (write_R ho rfl (by rw [Array.size_append]; exact hz) fun h' e1 e2 => wpR_pure (hq _ (h h' e1 e2)))
  by_cases hc : (!c.isEmpty) = true
  · exact ite_true_R hc (wpR_bind (checkResize_R ho rfl (k _ fun _ x => x)))
  · exact ite_false_R hc (k _ fun _ x => x)
theorem len_ba {a : Addr} {b : Array UInt8} {Q : Value → Shared → Prop} (ho : s.heap.get? a = some (baObj b)) (hfit : (b.size : Int) < 2 ^ 63)
    (h : Q (.int b.size (s.toks + 1)) { s with toks := s.toks + 1 + 1 }) : wpAny (model prog w) A (call (.builtin "len") [.ref a]) Q E s := by
  have hT : s.TypeIs (.ref a) "bytearray" := ⟨_, ho, rfl⟩
  refine call_function_entry kind_len plain_len entry_len (args_len1 _) ?_
  unfold Builtin.«len»
  refine wpAny_bind (m := oneArg "len" _) (wpAny_pure ?_)
  refine wpAny_bind (m := callSpecial? (.ref a) (Str.ofString "__len__")) (wpAny_callSpecial?_slot (name := Str.ofString "__len__") hT ba_slot_len
    (wpAny_call_entry ba_slot_len hT ba_entry_len ?_ (ba_args_len _)))
  · unfold Builtin.«bytearray.__len__»
    refine wpAny_bind (wpAny_of_eq (a := (.ref a, [])) rfl ?_)
    dsimp only
    refine wpAny_bind (payload_ba ho ?_)
    refine wpAny_bind (wpAny_mkInt (wpAny_pure ⟨_, rfl, ?_⟩))
    refine wpAny_bind (wpAny_holding (wpAny_pure ?_))
    refine wpAny_bind (wpAny_letGo ?_)
    show wpAny _ _ (if ((b.size : Nat) : Int) < 0 then _ else _) _ _ _
    rw [if_neg (by omega)]
    show wpAny _ _ (if ((b.size : Nat) : Int) ≥ 2 ^ 63 then _ else _) _ _ _
    rw [if_neg (by omega)]
    exact wpAny_bind (wpAny_mkInt (wpAny_pure ⟨_, rfl, h⟩))
end
end
section -- Bd
set_option maxRecDepth 100000
set_option maxHeartbeats 4000000
open Sem (wp)
section
variable {prog : Program} {w : World} {A : Around} {E : Value → Shared → Prop} {R : Result → Shared → Prop} {s : Shared} {h₀ : Heap} {L : Addr} {m : PySem.Str → Option Value} {news : List (Addr × Obj)}

theorem ba_no_bytes : typeLookup (.type "bytearray") "__bytes__" = pure none := by rw [typeLookup_type, builtinLookup_eq_fast]; kernel_rfl
theorem ba_no_index : typeLookup (.type "bytearray") "__index__" = pure none := by rw [typeLookup_type, builtinLookup_eq_fast]; kernel_rfl
theorem bytes_bytes : typeLookup (.type "bytes") "__bytes__" = pure (some (.builtin "bytes.__bytes__")) := by rw [typeLookup_type, builtinLookup_eq_fast]; kernel_rfl

theorem buffer_ba {M : Model} {id : String} {full : Bool} {a : Addr} {b : Array UInt8} {Q : Option (Array UInt8) → Shared → Prop} (ho : s.heap.get? a = some (baObj b)) (h : Q (some b) s) :
    wpAny M A (Builtin.Bytes.buffer? id (.ref a) full) Q E s := by
  have hT : s.TypeIs (.ref a) "bytearray" := ⟨_, ho, rfl⟩
  unfold Builtin.Bytes.buffer?
  refine wpAny_bind (wpAny_specialOf hT ba_look_buffer ?_)
  refine wpAny_bind (own_buffer_ba hT ?_)
  refine bm_if_false rfl ?_
  refine wpAny_bind (wpAny_specialOf hT ba_look_buffer ?_)
  dsimp only
  refine wpAny_bind (own_release_ba hT ?_)
  refine bm_if_false rfl ?_
  exact wpAny_bind (payload_ba ho (wpAny_pure h))

theorem call_bytes_via {x : Value} {Q : Value → Shared → Prop}
    (h : wpAny (model prog w) A.in1.in1 (Builtin.«bytes.__new__» ⟨[.type "bytes", x], []⟩)
      (fun fin s' => ∃ b t, fin = .done (.ret (.bytes b t)) ∧ Q (.bytes b t) s') E s) : wpAny (model prog w) A (call (.type "bytes") [x]) Q E s := by
  refine callType_codes (Q₁ := fun obj s₁ => s₁.TypeIs obj "bytes" ∧ Q obj s₁) F.bm_called (F.bm_typeCall _) F.entry_object_init ?_ fun obj s₁ h₁ => ?_
  · refine codeAny_of_tree ?_
    show wpAny _ A.in1.in1 (do checkBuiltinCall "bytes.__new__" ⟨[.type "bytes", x], []⟩; again (.builtin "bytes.__new__" ⟨[.type "bytes", x], []⟩)) _ _ s
    refine wpAny_bind (wpAny_of_eq (F.bm_newCall _) (wpAny_pure ⟨plainId_quiet F.bm_plain _, codeAny_builtin F.bm_entry ?_⟩))
    rw [Around.under_plainId F.bm_plain _]
    refine wpAny_mono h (fun fin s' hq => ?_) fun _ _ e => e
    obtain ⟨b, t, rfl, hq⟩ := hq
    exact ⟨PySem.W.typeIs_bytes _ _ _, hq⟩
  · exact ⟨h₁.1, F.args_object_init_2 obj _, object_init_meets F.bm_called.init.lookup F.bm_called.made (by decide) prog w A.in1 _ s₁ ⟨h₁.1, rfl, h₁.2⟩⟩

theorem bytes_of_ba {a : Addr} {b : Array UInt8} {Q : Value → Shared → Prop} (ho : s.heap.get? a = some (baObj b)) (hz : b.size ≤ sizeLine)
    (h : ∀ t k, Q (.bytes b t) { s with toks := k }) : wpAny (model prog w) A (call (.type "bytes") [.ref a]) Q E s := by
  have hT : s.TypeIs (.ref a) "bytearray" := ⟨_, ho, rfl⟩
  refine call_bytes_via ?_
  unfold Builtin.«bytes.__new__»
  refine wpAny_bind (wpAny_of_eq (a := true) rfl ?_)
  refine bm_if_false rfl ?_
  refine wpAny_bind (wpAny_of_eq F.bm_sub ?_)
  refine bm_if_false rfl ?_
  refine wpAny_bind (wpAny_of_eq (F.bm_bind _) ?_)
  refine wpAny_bind (wpAny_of_eq (a := ()) rfl ?_)
  refine wpAny_bind (wpAny_of_eq (a := ()) rfl ?_)
  refine bm_if_false rfl ?_
  refine wpAny_bind (wpAny_specialOf hT ba_no_bytes ?_)
  refine wpAny_bind (wpAny_bind ?_)
  show wpAny _ _ (load a >>= _) _ _ _
  refine wpAny_bind (wpAny_load ho ?_)
  refine wpAny_pure (wpAny_pure ?_)
  refine bm_if_false rfl ?_
  refine wpAny_bind (wpAny_specialOf hT ba_no_index ?_)
  refine bm_if_true rfl ?_
  show wpAny _ _ (Builtin.Bytes.buffer? "bytes.__new__" (.ref a) true >>= _) _ _ _
  refine wpAny_bind (buffer_ba ho ?_)
  dsimp only
  refine wpAny_bind (wpAny_rule ?_)
  refine wpAny_bind ?_
  refine wpAny_mkBytes ?_ hz
  exact wpAny_pure ⟨_, _, rfl, h _ _⟩
theorem bytes_of_bytes {b : Array UInt8} {u : Tok} {Q : Value → Shared → Prop}
    (h : Q (.bytes b u) s) : wpAny (model prog w) A (call (.type "bytes") [.bytes b u]) Q E s := by
  refine call_bytes_via ?_
  unfold Builtin.«bytes.__new__»
  refine wpAny_bind (wpAny_of_eq (a := true) rfl ?_)
  refine bm_if_false rfl ?_
  refine wpAny_bind (wpAny_of_eq F.bm_sub ?_)
  refine bm_if_false rfl ?_
  refine wpAny_bind (wpAny_of_eq (F.bm_bind _) ?_)
  refine wpAny_bind (wpAny_of_eq (a := ()) rfl ?_)
  refine wpAny_bind (wpAny_of_eq (a := ()) rfl ?_)
  refine bm_if_false rfl ?_
  refine wpAny_bind (wpAny_of_eq (KBy.special_eq bytes_bytes) ?_)
  dsimp only
  refine wpAny_bind (wpAny_rule ?_)
  refine wpAny_bind (wpAny_of_eq (a := .type "bytes") rfl ?_)
  refine bm_if_true rfl ?_
  exact wpAny_pure ⟨_, _, rfl, h⟩
end
end
section -- Ls
set_option maxRecDepth 100000
set_option maxHeartbeats 4000000
open Sem (wp)

section
variable {b : Bool} {M : Model} {A : Around} {E : Value → Shared → Prop} {s : Shared} {env : Env}
theorem execsM_nil {Q : Flow → Shared → Prop} (h : Q .next s) : wpM b M A (execs [] env) Q E s := fun _ _ _ _ => h
theorem execsM_cons {st : Stmt} {rest : List Stmt} {Q : Flow → Shared → Prop}
    (h : wpM b M A (exec st env) (fun f s' => match f with | .next => wpM b M A (execs rest env) Q E s' | f => Q f s') E s) :
    wpM b M A (execs (st :: rest) env) Q E s := fun Γ p hΓ ho => by
  rw [execs_cons, Sem.wp_bind']
  refine Sem.wp_mono M Γ _ (fun f p' s' h' => ?_) (fun _ _ _ h' => h') _ _ (h Γ p hΓ ho)
  cases f <;> first | exact h' Γ p' hΓ ho | exact h'
theorem execsM_any {st : Stmt} {rest : List Stmt} {Q : Flow → Shared → Prop}
    (h : wpAny M A (exec st env) (fun f s' => match f with | .next => wpM b M A (execs rest env) Q E s' | f => Q f s') E s) :
    wpM b M A (execs (st :: rest) env) Q E s := execsM_cons (wpR_any h)
theorem IfM {test : Expr} {body orelse : List Stmt} {pos : Pos} {Q : Flow → Shared → Prop}
    (h : wpAny M A (isTrue test env (eval test env))
      (fun c s₂ => if c = true then wpM b M A (execs body env) Q E s₂ else wpM b M A (execs orelse env) Q E s₂) E s) :
    wpM b M A (exec (.If test body orelse pos) env) Q E s := fun Γ p hΓ ho => by
  simp only [exec_If, Sem.wp_bind', Sem.wp_cmd_standAt]
  refine Sem.wp_mono M Γ _ (fun c p₂ s₂ h₂ => ?_) (fun _ _ _ h' => h') _ _ (h Γ _ hΓ)
  cases c <;> exact h₂ Γ p₂ hΓ ho
theorem ExprM {e : Expr} {pos : Pos} {Q : Flow → Shared → Prop} (h : wpM b M A (eval e env) (fun v s' => v = .none ∧ Q .next s') E s)
    (hi : interactive env = false := by rfl) (hs : swapsWith e none pos.line env = pure false := by rfl) :
    wpM b M A (exec (.Expr e pos) env) Q E s := by
  rw [exec_Expr env e pos hi hs]
  refine wpR_at (wpR_bind (wpR_mono h (fun v s' h' => ?_) fun _ _ x => x))
  obtain ⟨rfl, h'⟩ := h'
  rw [dropValue_plain (fun a => by intro x; cases x)]
  exact wpR_pure h'
theorem AssignM {x : PySem.Str} {pos' pos : Pos} {value : Expr} {Q : Flow → Shared → Prop}
    (h : wpM b M A (eval value env) (fun v s₁ => wpAny M A (storeName env x v) (fun _ => Q .next) E s₁) E s)
    (hs : swapsWith value (some (.Name x pos')) pos.line env = pure false := by rfl) :
    wpM b M A (exec (.Assign [.Name x pos'] value pos) env) Q E s := fun Γ p hΓ ho => by
  simp only [exec_Assign_Name env x pos' value pos hs, Sem.wp_bind', Sem.wp_cmd_standAt, Sem.wp_bindName, Sem.wp_pure']
  exact Sem.wp_mono M Γ _ (fun v _ s₁ h₁ => h₁ Γ _ hΓ) (fun _ _ _ h' => h') _ _ (h Γ _ hΓ ho)
theorem AssignAttrM {o : Expr} {attr : PySem.Str} {pos' pos : Pos} {value : Expr} {Q : Flow → Shared → Prop}
    (h : wpM b M A (eval value env) (fun v s₁ => wpAny M A (eval o env) (fun ov s₂ => wpAny M A (setAttr ov attr v) (fun _ => Q .next) E s₂) E s₁) E s)
    (hs : swapsWith value (some (.Attribute o attr pos')) pos.line env = pure false := by rfl) :
    wpM b M A (exec (.Assign [.Attribute o attr pos'] value pos) env) Q E s := fun Γ p hΓ ho => by
  simp only [plainObj_exec_Assign_Attribute o attr pos' value pos hs, assign_Attribute, Sem.wp_bind', Sem.wp_holding, Sem.wp_cmd_standAt, Sem.wp_release, Sem.wp_pure']
  exact Sem.wp_mono M Γ _ (fun v p₁ s₁ h₁ => Sem.wp_mono M Γ _ (fun ov _ s₂ h₂ => h₂ Γ _ hΓ) (fun _ _ _ h' => h') _ _ (h₁ Γ p₁ hΓ)) (fun _ _ _ h' => h') _ _ (h Γ _ hΓ ho)
theorem ReturnM {e : Expr} {pos : Pos} {Q : Flow → Shared → Prop} (h : wpM b M A (eval e env) (fun v => Q (.ret v)) E s) :
    wpM b M A (exec (.Return (some e) pos) env) Q E s := fun Γ p hΓ ho => by
  simp only [exec_Return_some, Sem.wp_bind', Sem.wp_cmd_standAt, Sem.wp_pure']; exact h Γ _ hΓ ho

theorem splicedM_cons {x : Sem Value} {rest : List (Bool × Sem Value)} {Q : List Value → Shared → Prop}
    (h : wpM b M A x (fun v s₁ => wpM b M A (spliced rest) (fun vs s₂ => Q (v :: vs) s₂) E s₁) E s) : wpM b M A (spliced ((false, x) :: rest)) Q E s := by
  rw [spliced]
  refine wpR_bind (wpR_mono h (fun v s₁ h₁ => ?_) fun _ _ x => x)
  simp only [Bool.false_eq_true, if_false]
  exact wpR_bind (wpR_pure (wpR_bind (wpR_holding (wpR_mono h₁ (fun vs s₂ h₂ => wpR_pure h₂) fun _ _ x => x))))
theorem evalArgsM_plain {f : Value} {x : Sem Value} {rest : List (Bool × Sem Value)} {Q : Args → Shared → Prop}
    (h : wpM b M A (spliced ((false, x) :: rest)) (fun vs s' => Q ⟨vs, []⟩ s') E s) : wpM b M A (evalArgs f true ((false, x) :: rest) []) Q E s := by
  unfold evalArgs
  show wpM b M A (spliced ((false, x) :: rest) >>= _) Q E s
  refine wpR_bind (wpR_mono h (fun vs s' h' => ?_) fun _ _ x => x)
  refine wpR_holding ?_
  exact wpR_bind (wpR_pure (wpR_bind (wpR_pure (wpR_pure h'))))
theorem keepM {α : Type} {vs : List Value} {m : Sem α} {Q : α → Shared → Prop} (h : wpM b M A m Q E s) : wpM b M A (m.keep vs) Q E s :=
  fun Γ p hΓ ho => by rw [Sem.wp_keep]; exact h Γ p hΓ ho
theorem callWithM_of {P : Heap → Prop} {f : Value} {first : List Value} {pos : Pos} {args : List (Bool × Sem Value)} {Q : Value → Shared → Prop} (hplain : args.any (·.1) = false)
    (hk : ∀ h, P h → ∃ k, (k = Keeper.frame ∨ k = Keeper.machine ∨ k = Keeper.boundFrame) ∧ Looks M h (keeperOf f) k)
    (h : wpM b M A (evalArgs f true args []) (fun a s₁ => P s₁.heap ∧ wpM b M A (call f (first ++ a.pos) a.kw) Q E s₁) E s) : wpM b M A (callWith pos f first args []) Q E s := by
  unfold callWith
  refine wpR_bind (wpR_holding (wpR_mono h (fun a s₁ h₁ => wpR_at ?_) fun _ _ x => x))
  obtain ⟨k, hk', L⟩ := hk _ h₁.1
  have hp : (args.any (·.1) || ([] : List (Option PySem.Str × Sem Value)).any (·.1.isNone)) = false := by rw [hplain]; rfl
  simp only [hp]
  refine wpR_lead (L.here ?_)
  have tail : ∀ {t : Sem Value}, wpM b M A t Q E s₁ → wpM b M A (t >>= fun r => holding [r] point >>= fun _ => pure r) Q E s₁ :=
    fun ht => wpR_bind (wpR_mono ht (fun r s₂ hr => wpR_lead (wpAny_holding (wpAny_point (wpR_pure hr)))) fun _ _ x => x)
  have marked (mk : Value) : wpM b M A (callMarked mk f (first ++ a.pos) a.kw) Q E s₁ := by unfold callMarked; exact keepM h₁.2
  rcases hk' with rfl | rfl | rfl <;> dsimp only <;> first | exact tail h₁.2 | (split <;> first | exact tail h₁.2 | exact tail (marked _))
theorem callWithM_builtin {id : String} {first : List Value} {pos : Pos} {args : List (Bool × Sem Value)} {Q : Value → Shared → Prop} (hplain : args.any (·.1) = false)
    (h : wpM b M A (evalArgs (.builtin id) true args []) (fun a s₁ => wpM b M A (call (.builtin id) (first ++ a.pos) a.kw) Q E s₁) E s) : wpM b M A (callWith pos (.builtin id) first args []) Q E s :=
  callWithM_of (P := fun _ => True) hplain (fun _ _ => ⟨.machine, .inr (.inl rfl), Looks.of_pure rfl⟩) (wpR_mono h (fun _ _ x => ⟨trivial, x⟩) fun _ _ x => x)
theorem callWithM_type {T : String} {first : List Value} {pos : Pos} {args : List (Bool × Sem Value)} {Q : Value → Shared → Prop} (hplain : args.any (·.1) = false)
    (h : wpM b M A (evalArgs (.type T) true args []) (fun a s₁ => wpM b M A (call (.type T) (first ++ a.pos) a.kw) Q E s₁) E s) : wpM b M A (callWith pos (.type T) first args []) Q E s :=
  callWithM_of (P := fun _ => True) hplain (fun _ _ => ⟨.machine, .inr (.inl rfl), Looks.of_pure rfl⟩) (wpR_mono h (fun _ _ x => ⟨trivial, x⟩) fun _ _ x => x)
theorem evalArgsM_nil {f : Value} {Q : Args → Shared → Prop} (h : Q ⟨[], []⟩ s) : wpM b M A (evalArgs f true [] []) Q E s := wpR_any (evalArgs_nil3 h)
theorem CallNameM {id : PySem.Str} {p pos : Pos} {args : List Expr} {Q : Value → Shared → Prop}
    (h : wpAny M A (eval (.Name id p) env) (fun f s₁ => wpM b M A (callWith pos f [] (backTo pos (starEach args env)) []) Q E s₁) E s) :
    wpM b M A (eval (.Call (.Name id p) args [] pos) env) Q E s := by
  rw [arm_eval_Call_Name']
  exact wpR_lead h
theorem MethodM {o : Expr} {name : PySem.Str} {apos pos : Pos} {args : List Expr} {pl : Sem Bool} {Q : Value → Shared → Prop}
    (h : wpAny M A (eval o env) (fun ov s₁ => wpAny M A (getMethod ov name pl) (fun fx s₂ => wpM b M A (callWith pos fx.1 fx.2 (backTo pos (starEach args env)) []) Q E s₂) E s₁) E s)
    (he : eval (.Call (.Attribute o name apos) args [] pos) env = (do
      let ov ← eval o env
      standAt apos.atName
      let (f, first) ← holding [ov] (getMethod ov name pl)
      callWith pos f first (backTo pos (starEach args env)) []) := by rfl) :
    wpM b M A (eval (.Call (.Attribute o name apos) args [] pos) env) Q E s := by
  rw [he]
  refine wpR_lead (wpAny_mono h (fun ov s₁ h₁ => wpR_at (wpR_lead (wpAny_holding (wpAny_mono h₁ (fun fx s₂ h₂ => ?_) fun _ _ x => x)))) fun _ _ x => x)
  exact h₂

theorem noNote {α : Type} {m : Sem α} {Q : α → Shared → Prop} {k : Value → Sem Unit} (h : wpM b M A m Q (fun _ _ => False) s) : wpM b M A (m.onRaise k) Q E s :=
  wpR_onRaise (wpR_mono h (fun _ _ x => x) fun _ _ x => x.elim)
end
section
variable {b : Bool} {prog : Program} {w : World} {A : Around} {E : Value → Shared → Prop} {s : Shared} {env : Env}
theorem loopM {c : Code} {R : Result → Shared → Prop} (hc : A.under c = A) (hok : okC c = true) (hq : c.quiet = true) (I : Nat → Shared → Prop)
    (turn : ∀ n s, I n s → wpM b (model prog w) A ((model prog w).den c)
      (fun fin s' => match fin with | .done f => R (.ok f) s' | .again c' => (c' = c ∧ ∃ m, m < n ∧ I m s') ∨ (c'.quiet = true ∧ codeM b (model prog w) A c' R s')) (fun e s' => R (.error e) s') s)
    (n : Nat) (h : I n s) : codeM b (model prog w) A c R s := codeR_loop hok hq I (fun n s hI => by rw [hc]; exact turn n s hI) n h

/- A while, no exception within. -/
theorem WhileM {test : Expr} {body : List Stmt} {pos : Pos} {Q : Flow → Shared → Prop} (I : Nat → Shared → Prop) (n : Nat) (hI : I n s)
    (turn : ∀ n s, I n s → wpAny (model prog w) A (isTrue test env (eval test env)) (fun c s₂ =>
      if c = true then wpM b (model prog w) A (execs body env) (fun f s₃ => f = .next ∧ ∃ m, m < n ∧ I m s₃) (fun _ _ => False) s₂ else Q .next s₂) (fun _ _ => False) s) :
    wpM b (model prog w) A (exec (.While test body [] pos) env) Q E s := by
  rw [exec_While]
  refine wpR_at ?_
  unfold runOwn
  refine noNote (wpR_run (loopM (Around.under_of_weight rfl) rfl rfl I (fun n s hI => ?_) n hI))
  show wpM b _ A ((whileTurn test body [] env).onRaise (fun x => do noteFrame x env; theTreesLotGoes x)) _ _ s
  refine noNote ?_
  simp only [whileTurn]
  refine wpR_lead (wpAny_mono (turn n s hI) (fun c s₂ h₂ => ?_) fun _ _ x => x)
  cases c with
  | false =>
    simp only [Bool.false_eq_true, if_false] at h₂ ⊢
    exact wpR_bind (execsM_nil (wpR_pure h₂))
  | true =>
    simp only [if_true] at h₂ ⊢
    refine wpR_bind (wpR_mono h₂ (fun f s₃ h₃ => ?_) fun _ _ x => x)
    obtain ⟨rfl, h₃⟩ := h₃
    exact wpR_pure (.inl ⟨rfl, h₃⟩)

/- A for, no exception within; a turn goes on or returns. -/
theorem forLoopM {target : Expr} {it : Value} {body : List Stmt} {Q : Flow → Shared → Prop} (I : Nat → Shared → Prop) (n : Nat) (hI : I n s)
    (turn : ∀ n s, I n s → wpAny (model prog w) A (pyNext it) (fun r s₁ => match r with
      | none => Q .next s₁
      | some v => wpAny (model prog w) A (letOwnedTupleGo target it v) (fun _ s₁' => wpAny (model prog w) A (assign target env v) (fun _ s₂ =>
          wpM b (model prog w) A (execs body env) (fun f s₃ => match f with
            | .next => ∃ m, m < n ∧ I m s₃
            | .ret v => Q (.ret v) s₃
            | _ => False) (fun _ _ => False) s₂) (fun _ _ => False) s₁') (fun _ _ => False) s₁) (fun _ _ => False) s) :
    wpM b (model prog w) A (runOwn (.forLoop target it body [] env) env) Q E s := by
  unfold runOwn
  refine noNote (wpR_run (loopM (Around.under_of_weight rfl) rfl rfl I (fun n s hI => ?_) n hI))
  show wpM b _ A ((forTurn target it body [] env).onRaise (fun x => do noteFrame x env; theTreesLotGoes x)) _ _ s
  refine noNote ?_
  simp only [forTurn]
  refine wpR_at (wpR_bind (noNote (wpR_any (wpAny_mono (turn n s hI) (fun r s₁ h₁ => ?_) fun _ _ x => x))))
  cases r with
  | none =>
    refine wpR_pure (.inr ⟨rfl, codeR_tree rfl ?_⟩)
    rw [Around.under_of_weight rfl]
    show wpM b _ _ (do return Fin.done (← (execs [] env).onRaise (fun x => do noteFrame x env; theTreesLotGoes x))) _ _ s₁
    exact wpR_bind (noNote (execsM_nil (wpR_pure h₁)))
  | some v =>
    refine wpR_lead (wpAny_mono h₁ (fun _ s₁' h₁' => ?_) fun _ _ x => x)
    refine wpR_lead (wpAny_mono h₁' (fun _ s₂ h₂ => ?_) fun _ _ x => x)
    refine wpR_bind (wpR_mono h₂ (fun f s₃ h₃ => ?_) fun _ _ x => x)
    cases f with
    | next => exact wpR_pure (.inl ⟨rfl, h₃⟩)
    | ret v => exact wpR_pure h₃
    | cont => exact h₃.elim
    | brk => exact h₃.elim
theorem ForM {target iter : Expr} {body : List Stmt} {pos : Pos} {Q : Flow → Shared → Prop}
    (h : wpAny (model prog w) A (eval iter env) (fun x s₁ => wpAny (model prog w) A (pyIter x) (fun it s₂ => wpM b (model prog w) A (runOwn (.forLoop target it body [] env) env) Q E s₂) E s₁) E s)
    (hs : ∀ x, foldedSetIterable iter env x = pure x := by intro _; rfl) :
    wpM b (model prog w) A (exec (.For target iter body [] pos) env) Q E s := by
  rw [exec_For]
  exact wpR_at (wpR_lead (wpAny_mono h (fun x s₁ h₁ => wpR_lead (wpAny_of_eq (hs x) (wpR_at (wpR_lead (wpAny_holding
    (wpAny_mono h₁ (fun it s₂ h₂ => h₂) fun _ _ x => x)))))) fun _ _ x => x))
end
end
section -- Le
set_option maxRecDepth 100000
set_option maxHeartbeats 4000000
set_option linter.unusedVariables false
open Sem (wp)

section
variable {b : Bool} {prog : Program} {w : World} {A₀ A : Around} {s : Shared} {base h₀ : Heap} {outer : List Env} {L : Addr} {m : PySem.Str → Option Value} {env : Env} {news : List (Addr × Obj)} {K : Frag}
  {R : Result → Shared → Prop} {name qual : PySem.Str} {params : Arguments} {body : List Stmt} {scope : Scope} {dV kV doc pm cdv ct oc : Value} {an od : Option Addr} {osl : Array (Option Value)} {f : Addr} {args : Args} {binds : List (PySem.Str × Value)}
  {p : Program} {loose : List PySem.Str} {mean : ExcName → Option Value} {mg mb : PySem.Str → Option Value}

theorem codeM_func (h : wpM b (model prog w) (A.deeper env) (execs body env) (fun f s' => R (.ok (.ret (match f with | .ret v => v | _ => .none))) s')
      (fun e s' => wpAny (model prog w) (A.deeper env) (leaving env e) (fun _ s'' => R (.error e) s'') (fun e' s'' => R (.error e') s'') s') s) :
    codeM b (model prog w) A (.func body env) R s := by
  refine codeR_tree rfl ?_
  show wpM b _ (A.deeper env) (do point; match ← (execs body env).onRaise (leaving env) with | .ret v => ret v | _ => ret .none) _ _ s
  refine wpR_lead (wpAny_point (wpR_bind (wpR_onRaise (wpR_mono h (fun f s' h' => ?_) fun _ _ h' => wpR_any h'))))
  cases f <;> exact wpR_pure h'
theorem codeM_function {a : Addr} {o : Obj} {fd : FuncData} (hroom : A.depth < recursionLimit) (ho : s.heap.get? a = some o)
    (hd' : o.data = .func fd) (hco : fd.scope.isCoroutine = false) (hgen : fd.scope.isGenerator = false) (hbody : fd.body = .stmts body) (hcd : s.heap.CodeRec fd.code fd.qualname)
    (h : wpAny (model prog w) A.in1 (bindArgs fd args) (fun binds s₁ =>
      wpAny (model prog w) A.in1 (newFunctionEnv fd.scope fd.globals fd.closure binds (fd.qualname ++ ".<locals>.") (some a) fd.code none fd.builtins)
        (fun env s₂ => s₂.heap.NoLimit ∧ codeM b (model prog w) A (.func body env) R s₂) (fun e s' => R (.error e) s') s₁) (fun e s' => R (.error e) s') s) :
    codeM b (model prog w) A (.call (.ref a) args) R s := by
  refine codeR_tree rfl ?_
  show wpM b _ A.in1 (callAny (.ref a) args) _ _ s
  simp only [callAny]
  refine wpR_lead (wpAny_load ho ?_)
  obtain ⟨c, oc, vs, tq, hc, hoc, hdc, hq⟩ := hcd
  simp only [hd', callFunction, hco, hgen, hbody, hc]
  rw [hc] at h
  refine wpR_lead (m := field (.ref c) 1) (wpAny_field hoc hdc hq (wpR_lead (wpAny_pure ?_)))
  exact wpR_lead (wpAny_mono h (fun binds s₁ h₁ => wpR_lead (wpAny_mono h₁ (fun env s₂ h₂ => wpR_lead (wpAny_enterFrame h₂.1 hroom
    (wpR_pure (And.intro rfl h₂.2)))) fun _ _ h' => h')) fun _ _ h' => h')

theorem enterM_plain (Lv : Heap → Value → Shared → Prop) (B : Below A₀ base outer h₀) (F : Fr h₀ L s.heap m) (X₀ : K.In h₀) (N : News h₀ L s.heap news) (T : Top p loose mean mg mb h₀) (hA : A.frames = some (env :: outer)) (hf : env.frame = some L) (hke : env.scope.kind = .function)
    (ho : K.lookup f = some ⟨oc, od, .func (fnOf name qual params body scope dV kV doc pm an cdv ct), osl⟩) (hcd : codeIn K cdv qual = true) (hroom : A.depth < recursionLimit)
    (hbind : BindsTo s (fnOf name qual params body scope dV kV doc pm an cdv ct) args binds) (hloc : ∀ y ∈ binds, scope.names.lookup y.1 = some .local)
    (hlv : ∀ v s', Lv (hideAll s.heap (news.map (·.1))) v s' → R (.ok (.ret v)) s')
    (h : ∀ g L' h₁, g = hideAll s.heap (news.map (·.1)) → Fr h₀ L g m → Fr g L' h₁ (fun y => binds.reverse.lookup y) → News g L' h₁ news → Below A base (env :: outer) g → K.In g → Top p loose mean mg mb g → (∀ p ∈ news, p.1 < L') →
      wpM b (model prog w) (A.deeper (envOf qual scope L' f cdv)) (execs body (envOf qual scope L' f cdv))
        (fun fl s' => Lv g (match fl with | .ret v => v | _ => .none) s')
        (fun e s' => wpAny (model prog w) (A.deeper (envOf qual scope L' f cdv)) (leaving (envOf qual scope L' f cdv) e) (fun _ s'' => R (.error e) s'') (fun e' s'' => R (.error e') s'') s')
        { s with heap := h₁, toks := s.toks + binds.length })
    (hco : scope.isCoroutine = false) (hgen : scope.isGenerator = false) (hk : scope.kind = .function)
    (hcell : ∀ x ∈ scope.names, x.2 ≠ .cell) : codeM b (model prog w) A (.call (.ref f) args) R s := by
  obtain ⟨FG, BG, st, _⟩ := groundX (R := R) B F N hA hf hke
  have X := X₀.keeps F.keep
  refine codeM_function (fd := fnOf name qual params body scope dV kV doc pm an cdv ct) hroom (X _ _ ho) rfl hco hgen rfl (codeRec_of X hcd) (hbind _ _ _ _ ?_)
  refine wpAny_newFunctionEnv hcell hloc (fun h₁ hns hsb => ⟨(T.nolimit.keeps F.keep).fresh _ hsb, codeM_func ?_⟩) hk
  have hk₁ : ∀ b o, s.heap.get? b = some o → h₁.get? b = some o := fun b o e => hsb.extBut b o (Nat.ne_of_lt (Heap.lt_size e)) (Heap.get?_push_of_some _ e)
  exact wpR_mono (h _ s.heap.objs.size h₁ rfl FG ⟨hns, fun b o e => hk₁ b o (of_hideAll _ e), Nat.le_of_eq (hideAll_size _ _)⟩
    (fun p hp => ⟨hk₁ _ _ (N p hp).1, Nat.ne_of_lt (Heap.lt_size (N p hp).1), hideAll_none _ (List.mem_map_of_mem hp)⟩) BG (X₀.keeps st) (T.keeps st) (fun p hp => Heap.lt_size (N p hp).1)) (fun fl s' hl => hlv _ _ hl) fun _ _ y => y

theorem enterM_cells (Lv : Heap → Value → Shared → Prop) (B : Below A₀ base outer h₀) (F : Fr h₀ L s.heap m) (X₀ : K.In h₀) (N : News h₀ L s.heap news) (T : Top p loose mean mg mb h₀) (hA : A.frames = some (env :: outer)) (hf : env.frame = some L) (hke : env.scope.kind = .function)
    (ho : K.lookup f = some ⟨oc, od, .func (fnOf name qual params body scope dV kV doc pm an cdv ct), osl⟩) (hcd : codeIn K cdv qual = true) (hroom : A.depth < recursionLimit)
    (hbind : BindsTo s (fnOf name qual params body scope dV kV doc pm an cdv ct) args binds) (hkind : (binds.all fun y => scope.names.lookup y.1 == some .local || scope.names.lookup y.1 == some .cell) = true)
    (hnd : ((cellsFrom 0 scope.names []).map (·.1)).Nodup)
    (hlv : ∀ v s', Lv (hideAll s.heap (news.map (·.1))) v s' → R (.ok (.ret v)) s')
    (h : ∀ g L' h₁ tk cells, g = hideAll s.heap (news.map (·.1)) → Fr h₀ L g m → Fr g L' h₁ (bindL (envOfC qual scope L' f cdv).kindOf binds fun _ => none) → News g L' h₁ (cells ++ news) →
      CellsAre (bindC (envOfC qual scope L' f cdv).kindOf binds fun _ => none) (cellsFrom (L' + 1) scope.names []) cells → Below A base (env :: outer) g → K.In g → Top p loose mean mg mb g → (∀ p ∈ news, p.1 < L') →
      wpM b (model prog w) (A.deeper (envOfC qual scope L' f cdv)) (execs body (envOfC qual scope L' f cdv))
        (fun fl s' => Lv g (match fl with | .ret v => v | _ => .none) s')
        (fun e s' => wpAny (model prog w) (A.deeper (envOfC qual scope L' f cdv)) (leaving (envOfC qual scope L' f cdv) e) (fun _ s'' => R (.error e) s'') (fun e' s'' => R (.error e') s'') s')
        { s with heap := h₁, toks := tk })
    (hco : scope.isCoroutine = false) (hgen : scope.isGenerator = false) (hk : scope.kind = .function) : codeM b (model prog w) A (.call (.ref f) args) R s := by
  obtain ⟨FG, BG, st, _⟩ := groundX (R := R) B F N hA hf hke
  have X := X₀.keeps F.keep
  refine codeM_function (fd := fnOf name qual params body scope dV kV doc pm an cdv ct) hroom (X _ _ ho) rfl hco hgen rfl (codeRec_of X hcd) (hbind _ _ _ _ ?_)
  refine wpAny_newFunctionEnv_cells hk (kindsX hkind _) fun env' he s' x => ?_
  subst he
  refine ⟨(T.nolimit.keeps F.keep).keeps x.toInCall.keep, codeM_func ?_⟩
  obtain ⟨h₁, tk, rfl, _⟩ := x.done
  have hk₁ := x.toInCall.keep
  obtain ⟨cells, NC, Y⟩ := Cl.news (h₀ := s.heap) (Nat.le_refl _) fun n c hm => ⟨x.cell n c (lookup_of_mem_nodup (cellsFrom_names scope.names 0 (s.heap.objs.size + 1) [] [] rfl ▸ hnd) hm), x.above n c hm⟩
  refine wpR_mono (h _ s.heap.objs.size h₁ tk cells rfl FG ⟨x.toInCall.ns, fun b o e => hk₁ b o (of_hideAll _ e), Nat.le_of_eq (hideAll_size _ _)⟩ (fun p hp => ?_) Y BG (X₀.keeps st) (T.keeps st) (fun p hp => Heap.lt_size (N p hp).1)) (fun fl s' hl => hlv _ _ hl) fun _ _ y => y
  rcases List.mem_append.mp hp with hp | hp
  · refine ⟨(NC p hp).1, (NC p hp).2.1, ?_⟩
    cases q : (hideAll s.heap (news.map (·.1))).get? p.1 with
    | none => rfl
    | some o => have := of_hideAll _ q; rw [(NC p hp).2.2] at this; cases this
  · exact ⟨hk₁ _ _ (N p hp).1, Nat.ne_of_lt (Heap.lt_size (N p hp).1), hideAll_none _ (List.mem_map_of_mem hp)⟩

/- leaving: the frames below as they were -/
theorem lvK (B : Below A₀ base outer h₀) (F : Fr h₀ L s.heap m) (N : News h₀ L s.heap news) (hA : A.frames = some (env :: outer)) (hf : env.frame = some L) (hke : env.scope.kind = .function) :
    ∀ v s', LeaveK h₀ L m (hideAll s.heap (news.map (·.1))) R v s' → R (.ok (.ret v)) s' := (groundX (R := R) B F N hA hf hke).2.2.2

/- leaving: the frames below up to their slots -/
def framesOf (l : List Env) : List Addr := l.filterMap (·.frame)
def LeaveT (A₀ : Around) (base : Heap) (env : Env) (outer : List Env) (K : Frag) (p : Program) (loose : List PySem.Str) (mean : ExcName → Option Value) (mg mb : PySem.Str → Option Value) (h₀ : Heap) (L : Addr) (m : PySem.Str → Option Value) (R : Result → Shared → Prop) (g : Heap) (v : Value) (s' : Shared) : Prop :=
  ∃ g' L' m' news', KtsTurn (framesOf (env :: outer)) g g' ∧ Fr g' L' s'.heap m' ∧ News g' L' s'.heap news' ∧ ∀ h₀', KtsTurn (framesOf outer) h₀ h₀' → Fr h₀' L s'.heap m → News h₀' L s'.heap news' → Below A₀ base outer h₀' → K.In h₀' → Top p loose mean mg mb h₀' →
    KtsDicts (framesOf outer) h₀' → R (.ok (.ret v)) s'
theorem mem_framesOf {bb : Addr} (hf : env.frame = some L) (hm : bb ∈ framesOf (env :: outer)) : bb = L ∨ bb ∈ framesOf outer := by
  obtain ⟨e', he, hf'⟩ := List.mem_filterMap.mp hm
  rcases List.mem_cons.mp he with rfl | he
  · exact .inl (Option.some.inj (hf.symm.trans hf')).symm
  · exact .inr (List.mem_filterMap.mpr ⟨e', he, hf'⟩)
theorem dictsT (B : Below A₀ base outer h₀) (F : Fr h₀ L s.heap m) (N : News h₀ L s.heap news) (hf : env.frame = some L) (D : KtsDicts (framesOf outer) h₀) :
    KtsDicts (framesOf (env :: outer)) (hideAll s.heap (news.map (·.1))) := by
  intro bb hb
  rcases mem_framesOf hf hb with rfl | hb
  · obtain ⟨oL, es, ep, hL, hLd, _⟩ := F.ns
    refine ⟨oL, es, ep, hideAll_get _ hL fun q => ?_, hLd⟩
    obtain ⟨p, hp, e⟩ := List.mem_map.mp q
    exact (N p hp).2.1 e
  · obtain ⟨o, es', n', ho', hd'⟩ := D bb hb
    refine ⟨o, es', n', hideAll_get _ (F.keep _ _ ho') fun q => ?_, hd'⟩
    obtain ⟨p, hp, rfl⟩ := List.mem_map.mp q
    rw [(N p hp).2.2] at ho'; cases ho'
theorem lvT (B : Below A₀ base outer h₀) (F : Fr h₀ L s.heap m) (N : News h₀ L s.heap news) (XB : K.In base) (TB : Top p loose mean mg mb base) (D : KtsDicts (framesOf outer) h₀) (hf : env.frame = some L) :
    ∀ v s', LeaveT A₀ base env outer K p loose mean mg mb h₀ L m R (hideAll s.heap (news.map (·.1))) v s' → R (.ok (.ret v)) s' := by
  intro v s' hl
  obtain ⟨g', L', m', news', T', F', N', k⟩ := hl
  have nm : ∀ b o, h₀.get? b = some o → b ∉ news.map (·.1) := fun b o e q => by
    obtain ⟨p, hp, rfl⟩ := List.mem_map.mp q
    rw [(N p hp).2.2] at e; cases e
  have st : h₀.StaysIn (hideAll s.heap (news.map (·.1))) := fun b o e => hideAll_get _ (F.keep b o e) (nm b o e)
  obtain ⟨oL, es, ep, hL, hLd, hLk, hLf⟩ := F.ns
  have nL : L ∉ news.map (·.1) := fun q => by
    obtain ⟨p, hp, e⟩ := List.mem_map.mp q
    exact (N p hp).2.1 e
  have hLg := hideAll_get (news.map (·.1)) hL nL
  have nL₀ : h₀.get? L = none := kts_self F
  obtain ⟨sl, hs⟩ := T'.up hLg
  obtain ⟨T₁, S₁⟩ := kts_turn_at (h := s'.heap) (fs := framesOf outer) (g := h₀)
    (fun b hb => by
      obtain ⟨_, o, ho', _⟩ := B.frames.mem hb
      exact ⟨o, ho'⟩)
    (fun b o e nmem => F'.keep b o (T'.other b o (st b o e) (fun q => by
      rcases mem_framesOf hf q with z | z
      · rw [z, nL₀] at e
        cases e
      · exact nmem z)))
    (fun b o e hm => by
      obtain ⟨sl', hs'⟩ := T'.up (st b o e)
      exact ⟨sl', F'.keep _ _ hs'⟩)
  have B₃ : Below A₀ base outer (ktsHeap s'.heap (framesOf outer) h₀) := ⟨B.stack, fun b o e => T₁.other b o (B.stays b o e) (fun hm => by
    rw [(B.frames.mem hm).1] at e
    cases e), B.frames.of_keeps fun b o e _ => by
    obtain ⟨sl', hs'⟩ := T₁.up e
    exact ⟨_, hs', rfl⟩⟩
  refine k _ T₁ ⟨⟨_, es, ep, F'.keep _ _ hs, hLd, hLk, hLf⟩, S₁, by rw [T₁.size]; exact F.above⟩ (fun p hp => ⟨(N' p hp).1, fun q => ?_, ?_⟩) B₃ (XB.keeps B₃.stays) (TB.keeps B₃.stays) (D.turn T₁)
  · have := (N' p hp).2.2; rw [q, hs] at this; cases this
  · refine T₁.none_ _ ?_
    cases q : h₀.get? p.1 with
    | none => rfl
    | some o =>
      obtain ⟨sl', hs'⟩ := T'.up (st _ _ q)
      have := (N' p hp).2.2
      rw [hs'] at this
      cases this
end
end
section -- Wh
set_option maxRecDepth 100000
set_option maxHeartbeats 4000000
set_option linter.unusedVariables false
open Sem (wp)
def Turned (I : Nat → Shared → Prop) (n : Nat) (f : Flow) (s : Shared) : Prop := f = .next ∧ ∃ m, m < n ∧ I m s
theorem turned_ {I : Nat → Shared → Prop} {n m : Nat} {s : Shared} (h : m < n) (i : I m s) : Turned I n .next s := ⟨rfl, m, h, i⟩
def Stop (P : Prop) : Prop := P
theorem of_stop {P : Prop} (h : Stop P) : P := h
theorem go_on {P : Prop} (h : P) : Stop P := h
def NoErr (_ : Value) (_ : Shared) : Prop := False
section
variable {b : Bool} {prog : Program} {w : World} {A : Around} {E : Value → Shared → Prop} {s : Shared} {env : Env}
theorem WhileAny {test : Expr} {body : List Stmt} {pos : Pos} {Q : Flow → Shared → Prop} (I : Nat → Shared → Prop) (n : Nat) (hI : I n s)
    (turn : ∀ n s, I n s → wpAny (model prog w) A (isTrue test env (eval test env)) (fun c s₂ =>
      if c = true then wpAny (model prog w) A (execs body env) (Turned I n) NoErr s₂ else Q .next s₂) NoErr s) :
    wpAny (model prog w) A (exec (.While test body [] pos) env) Q E s :=
  any_of_M (WhileM I n hI fun n s hI => wpAny_mono (turn n s hI) (fun c s₂ h => by
    cases c with
    | true =>
      simp only [if_true] at h ⊢
      exact wpR_any h
    | false => exact h) fun _ _ x => x)
end
end
section -- Hg
theorem hideG {P : Prop} (h : ∀ G : Prop, (P → G) → G) : P := h P id
section
variable {α : Type} {b : Bool} {M : Model} {A : Around} {t : Sem α} {Q : α → Shared → Prop} {E : Value → Shared → Prop} {s : Shared}
theorem hideQ (h : ∀ Q' : α → Shared → Prop, (∀ a s, Q a s → Q' a s) → wpAny M A t Q' E s) : wpAny M A t Q E s := h Q fun _ _ x => x
end
/-- what a turn of a loop leaves behind, the ground kept -/
inductive TurnE (J : (PySem.Str → Option Value) → List (Addr × Obj) → Prop) (g : Heap) (L : Addr) (tl : List (Addr × Obj)) (s s₃ : Shared) : Prop
  | mk (m : PySem.Str → Option Value) (ch : List (Addr × Obj)) (h : Heap) (tk : Nat) (e : s₃ = { s with heap := h, toks := tk }) (j : J m ch) (F : Fr g L h m) (N : News g L h (ch ++ tl)) : TurnE J g L tl s s₃
/-- the same, the ground turned -/
inductive TurnG (J : Heap → (PySem.Str → Option Value) → List (Addr × Obj) → Prop) (L : Addr) (tl : List (Addr × Obj)) (s s₃ : Shared) : Prop
  | mk (g : Heap) (m : PySem.Str → Option Value) (ch : List (Addr × Obj)) (h : Heap) (tk : Nat) (e : s₃ = { s with heap := h, toks := tk }) (j : J g m ch) (F : Fr g L h m) (N : News g L h (ch ++ tl)) : TurnG J L tl s s₃
inductive TurnH (J : Heap → (PySem.Str → Option Value) → Prop) (L : Addr) (tl : List (Addr × Obj)) (s s₃ : Shared) : Prop
  | mk (g : Heap) (m : PySem.Str → Option Value) (h : Heap) (tk : Nat) (e : s₃ = { s with heap := h, toks := tk }) (j : J g m) (F : Fr g L h m) (N : News g L h tl) : TurnH J L tl s s₃
/-- what a stretch of statements leaves behind -/
inductive WPost (I : (PySem.Str → Option Value) → List (Addr × Obj) → Prop) (g : Heap) (L : Addr) (tl : List (Addr × Obj)) (s : Shared) (f : Flow) (s₃ : Shared) : Prop
  | mk (n : f = .next) (m : PySem.Str → Option Value) (ch : List (Addr × Obj)) (h : Heap) (tk : Nat) (e : s₃ = { s with heap := h, toks := tk }) (F : Fr g L h m) (N : News g L h (ch ++ tl)) (i : I m ch) : WPost I g L tl s f s₃
/-- the ground of a turn -/
structure Gnd (w : World) (p : Program) (loose : List PySem.Str) (mean : ExcName → Option Value) (mg mb : PySem.Str → Option Value) (A : Around) (base : Heap) (ev : List Env) (g' g : Heap) : Prop where
  kT : KtsTurn (ev.filterMap (·.frame)) g' g
  kB : Below A base ev g
  kX : (Mine.hd.heap_39 w.params).In g
  kP : Top p loose mean mg mb g
  kD : KtsDicts (ev.filterMap (·.frame)) g
inductive RTurn (G : Heap → Prop) (I : (PySem.Str → Option Value) → List (Addr × Obj) → Prop) (L' : Addr) (tl : List (Addr × Obj)) (h : Heap) : Prop
  | mk (g : Heap) (m : PySem.Str → Option Value) (ch : List (Addr × Obj)) (k : G g) (i : I m ch) (F : Fr g L' h m) (N : News g L' h (ch ++ tl)) : RTurn G I L' tl h
structure TJ (w : World) (p : Program) (loose : List PySem.Str) (mean : ExcName → Option Value) (mg mb : PySem.Str → Option Value) (A : Around) (base : Heap) (ev : List Env) (g' : Heap) (x lr : Addr) (hi : Bool) (g : Heap) (m : PySem.Str → Option Value) : Prop where
  kT : KtsTurn (ev.filterMap (·.frame)) g' g
  kB : Below A base ev g
  kX : (Mine.hd.heap_39 w.params).In g
  kP : Top p loose mean mg mb g
  kD : KtsDicts (ev.filterMap (·.frame)) g
  w1 : m (PySem.Str.ofString "writer") = some (.ref x)
  w2 : m (PySem.Str.ofString "is_high") = some (.bool hi)
  w3 : m (PySem.Str.ofString "row") = some (.ref lr)
end
section -- Ex1
set_option maxRecDepth 100000
set_option maxHeartbeats 4000000
set_option linter.unusedVariables false
open Sem (wp)

/- An own exception class whose line of classes is known: its «new». -/
section
variable {prog : Program} {w : World} {A : Around} {E : Value → Shared → Prop} {R : Result → Shared → Prop} {h : Heap} {g : Array GenState} {d : Drawn} {t : Nat} {os : OsState}
variable {nm q : PySem.Str} {C N : Addr} {bs bm : List Value} {hdct : Bool} {sn : List PySem.Str} {sub : List Value} {ab : Bool} {col : Option Bool} {dd : Option Addr} {k0 k1 k2 k3 k5 : Option Value}

theorem own_check_new {M : Model} (hE : bm.contains (.type "Exception") = true) {rest : List Value} {Q : Unit → Shared → Prop} (hC : h.get? C = some (excClassObj nm q C N bs bm hdct sn sub ab col dd k0 k1 k2 k3 k5 "Exception.__new__"))
    (hq : Q () ⟨h, g, d, t, os⟩) : wpAny M A (checkBuiltinCall "Exception.__new__" ⟨.ref C :: rest, []⟩) Q E ⟨h, g, d, t, os⟩ := by
  have hcont : (Value.ref C :: bm).contains (.type "Exception") = true := by rw [List.contains_cons, hE, Bool.or_true]
  have hstar := F.excBase_Exception.noStar
  simp only [checkBuiltinCall, F.excBase_Exception.newKind, F.excBase_Exception.newSplit, F.excBase_Exception.newRow]
  repeat (first | refine wpAny_loadPart_at hC ?_ | (refine wpAny_isSubtype_exc hC ?_; rw [hcont]) | refine wpAny_staticBase_exc hC ?_ | refine wpAny_madeBy_exc hC ?_ | simp only [bne_self_eq_false, Bool.false_eq_true, if_false] | wp_step)
  exact hq
theorem own_new (hE : bm.contains (.type "Exception") = true) (hAt : bm.contains (.type "AttributeError") = false) (hNm : bm.contains (.type "NameError") = false) {rest : List Value} (hC : h.get? C = some (excClassObj nm q C N bs bm hdct sn sub ab col dd k0 k1 k2 k3 k5 "Exception.__new__"))
    (hq : R (.ok (.ret (.ref (h.objs.size + 1)))) ⟨(h.push { cls := .type "tuple", data := .seq rest.toArray }).push
      { cls := .ref C, data := .fields #[.ref h.objs.size, .none, .none, .none, .bool false, .none] }, g, d, t, os⟩) (hrest : rest.length ≤ sizeLine) :
    codeAny (model prog w) A (.builtin "Exception.__new__" ⟨.ref C :: rest, []⟩) R ⟨h, g, d, t, os⟩ := by
  have hends := F.excBase_Exception.ends
  have hcB : (Value.ref C :: bm).contains (.type "Exception") = true := by rw [List.contains_cons, hE, Bool.or_true]
  have hcA : (Value.ref C :: bm).contains (.type "AttributeError") = false := by rw [List.contains_cons, hAt]; rfl
  have hcN : (Value.ref C :: bm).contains (.type "NameError") = false := by rw [List.contains_cons, hNm]; rfl
  refine codeAny_builtinAt F.excBase_Exception.entry ?_
  unfold Builtin.«BaseException.__new__»
  refine PySem.wpAt_bind ?_
  show PySem.wpAt _ _ _ (stack >>= _) _ _ _
  refine PySem.wpAt_bind (PySem.wpAt_stack fun p below => PySem.wpAt_of_wpAny ?_)
  wp_walk
  refine PySem.wpAt_of_wpAny ?_
  rw [F.excBase_Exception.owner]
  repeat (first | with_reducible refine wpAny_madeHere_exc F.excBase_Exception.canon hC ?_ | with_reducible refine wpAny_loadPart_at hC ?_ | (with_reducible refine wpAny_isSubtype_exc hC ?_; first | rw [hcB] | rw [hcA] | rw [hcN]) | wp_step)
  show R _ _
  rw [Heap.size_push]
  exact hq

/- The class called: what is left is its own «init» upon the new object. -/
theorem own_call (hE : bm.contains (.type "Exception") = true) (hAt : bm.contains (.type "AttributeError") = false) (hNm : bm.contains (.type "NameError") = false) {rest : List Value} {fI : Value} {Q : Value → Shared → Prop}
    (hC : h.get? C = some (excClassObj nm q C N bs bm hdct sn sub ab col dd k0 k1 k2 k3 k5 "Exception.__new__")) (hrest : rest.length ≤ sizeLine)
    (hi : Looks (model prog w) h (typeLookup (.ref C) "__init__") (some fI)) (hb : ∀ self, Looks (model prog w) h (bindSpecial fI self) (fI, [self]))
    (hq : codeAny (model prog w) (A.under (.builtin "type.__call__" ⟨.ref C :: rest, []⟩)) (.call fI ⟨.ref (h.objs.size + 1) :: rest, []⟩)
      (fun r s' => match r with | .ok (.ret v) => v = .none ∧ Q (.ref (h.objs.size + 1)) s' | .ok _ => False | .error e => E e s')
      ⟨(h.push { cls := .type "tuple", data := .seq rest.toArray }).push { cls := .ref C, data := .fields #[.ref h.objs.size, .none, .none, .none, .bool false, .none] }, g, d, t, os⟩) :
    wpAny (model prog w) A (call (.ref C) rest) Q E ⟨h, g, d, t, os⟩ := by
  have f1 := tc_lookup
  have f2 := tc_bind (.ref C)
  have hT : (⟨h, g, d, t, os⟩ : Shared).TypeIs (.ref C) "type" := ⟨_, hC, rfl⟩
  refine wpAny_call (codeAny_of_tree ?_)
  show wpAny _ _ (callAny (.ref C) _) _ _ _
  repeat (any_goals (first | assumption | with_reducible refine wpAny_loadPart_at hC ?_ | wp_step))
  refine ⟨rfl, ?_⟩
  refine codeAny_call_builtin_at (Code.quiet_builtin _ (by decide +kernel)) entry_typeCall (wpAny_check_type_call_sub hC ?_)
  repeat (first | with_reducible refine wpAny_loadPart_at hC ?_ | with_reducible refine wpAny_madeBy_exc hC ?_ | wp_step)
  refine codeAny_call_builtin_code (Code.quiet_builtin _ F.excBase_Exception.quiet) (own_check_new hE hC ?_)
  refine own_new hE hAt hNm hC ?_ hrest
  show wpAny _ _ _ _ _ _
  have hC₁ := Heap.get?_push_of_some { cls := .ref C, data := .fields #[.ref h.objs.size, .none, .none, .none, .bool false, .none] }
    (Heap.get?_push_of_some { cls := .type "tuple", data := .seq rest.toArray } hC)
  have hget : ((h.push { cls := .type "tuple", data := .seq rest.toArray }).push
      { cls := .ref C, data := .fields #[.ref h.objs.size, .none, .none, .none, .bool false, .none] }).get? (h.objs.size + 1) = some
      { cls := .ref C, data := .fields #[.ref h.objs.size, .none, .none, .none, .bool false, .none] } := by heap_get
  have hcC : (Value.ref C :: bm).contains (.ref C) = true := by simp
  have k : ∀ b o, h.get? b = some o → ((h.push { cls := .type "tuple", data := .seq rest.toArray }).push { cls := .ref C, data := .fields #[.ref h.objs.size, .none, .none, .none, .bool false, .none] }).get? b = some o := fun b o e => Heap.get?_push_of_some _ (Heap.get?_push_of_some _ e)
  have i1 := hi.keeps k
  have b1 := (hb (.ref (h.objs.size + 1))).keeps k
  unfold isInstance
  repeat (first | with_reducible refine wpAny_loadPart_at hget ?_ | (with_reducible refine wpAny_isSubtype_exc hC₁ ?_; rw [hcC]) | wp_step)
  unfold callSpecial? specialOf
  have t1 : Looks (model prog w) ((h.push { cls := .type "tuple", data := .seq rest.toArray }).push { cls := .ref C, data := .fields #[.ref h.objs.size, .none, .none, .none, .bool false, .none] }) (typeOf (.ref (h.objs.size + 1))) (.ref C) := (Looks.ld hget).andThen .now
  show wpAny _ _ (isSubtype (.ref C) (.ref C)) _ _ _
  refine wpAny_isSubtype_exc hC₁ ?_
  rw [hcC]
  simp only [Bool.not_true, Bool.false_eq_true, if_false]
  refine wpAny_bind (wpAny_holding (wpAny_bind ((t1.andThen i1).here ?_)))
  dsimp only
  refine wpAny_holding (wpAny_bind (b1.here ?_))
  dsimp only
  refine wpAny_bind (wpAny_call ?_)
  refine codeAny_mono hq fun r s' z => ?_
  rcases r with e | (v | _ | _ | _) <;> first | exact z | exact z.elim | skip
  obtain ⟨rfl, z⟩ := z
  exact wpAny_pure (wpAny_pure z)
end
end
section -- Ex2
open Builtin Builtin.ObjectAttr
set_option maxRecDepth 100000
set_option maxHeartbeats 4000000
set_option linter.unusedVariables false
open Sem (wp)

abbrev excObj (C tp : Addr) (od : Option Addr) : Obj := { cls := .ref C, dict := od, data := .fields #[.ref tp, .none, .none, .none, .bool false, .none] }

structure ExcK (K : Frag) (C fI : Addr) (bm : List Value) : Prop where
  obj : ∃ nm q N bs sn sub ab col dd k0 k1 k2 k3 k5, K.lookup C = some (excClassObj nm q C N bs bm true sn sub ab col dd k0 k1 k2 k3 k5 "Exception.__new__")
  hE : bm.contains (.type "Exception") = true
  hB : bm.contains (.type "BaseException") = true
  hO : bm.contains (.type "object") = true
  hAt : bm.contains (.type "AttributeError") = false
  hNm : bm.contains (.type "NameError") = false
  passes : ∀ self, refuseLoop self "__setattr__" bm = pure ()
  ini : findIn K (.ref C) "__init__" = some (some (.ref fI))
  fn : typeIn K (.ref fI) = some (.type "function")
  sa : findIn K (.ref C) "__setattr__" = some (some (.builtin "object.__setattr__"))

section
variable {prog : Program} {w : World} {A : Around} {E : Value → Shared → Prop} {R : Result → Shared → Prop} {s : Shared} {K : Frag} {C fI e tp : Addr} {bm : List Value}
  {h₀ : Heap} {L : Addr} {m : PySem.Str → Option Value} {news pre post : List (Addr × Obj)}

theorem exc_init {a : Value} {od : Option Addr} {Q : Value → Shared → Prop} (Y : ExcK K C fI bm) (F : Fr h₀ L s.heap m) (N : News h₀ L s.heap (pre ++ (e, excObj C tp od) :: post)) (X : K.In s.heap)
    (h1 : ∀ p ∈ pre, p.1 ≠ e) (h2 : ∀ p ∈ post, p.1 ≠ e)
    (hq : ∀ h' tp', Fr h₀ L h' m → News h₀ L h' (pre ++ (e, excObj C tp' od) :: post) → Q .none { s with heap := h' }) :
    wpAny (model prog w) A (call (.builtin "Exception.__init__") [.ref e, a]) Q E s := by
  obtain ⟨nm, q, Ns, bs, sn, sub, ab, col, dd, k0, k1, k2, k3, k5, ho⟩ := Y.obj
  have hC := X _ _ ho
  have z := N (e, excObj C tp od) (List.mem_append.mpr (.inr (.head _)))
  have he := z.1
  obtain ⟨h, g, d, t, os⟩ := s
  dsimp only at F N X hC z he
  have FF := PySem.F.excBase_Exception
  have hcB : (Value.ref C :: bm).contains (.type "Exception") = true := by rw [List.contains_cons, Y.hE, Bool.or_true]
  refine wpAny_call (codeAny_call_builtin FF.init.plain FF.initEntry ?_)
  have hshort := FF.noStar
  simp only [checkBuiltinCall, FF.initKind, FF.initSplit, FF.initRow]
  repeat (first | (with_reducible refine wpAny_loadPart_at he ?_) | with_reducible refine wpAny_loadPart_at hC ?_ | (with_reducible refine wpAny_isSubtype_exc hC ?_; rw [hcB]) | wp_step)
  have N1 := N.pushKeep { cls := Value.type "tuple", data := Data.seq #[a] }
  obtain ⟨U1, U2⟩ := news_upd (f := Obj.mapFields fun x => x.setIfInBounds 0 (Value.ref h.objs.size)) (o' := excObj C h.objs.size od) (F.push _) N1 h1 h2 rfl rfl
  exact hq _ _ U1 U2

theorem store_N {dx : Addr} {name : PySem.Str} {tk : Tok} {v : Value} {es : List DictEntry} {n : Nat} {Q : Fin → Shared → Prop} (F : Fr h₀ L s.heap m) (N : News h₀ L s.heap (pre ++ (dx, dictOf es n) :: post))
    (hl : (lookIn name (dictOf es n)).isSome = true) (h1 : ∀ p ∈ pre, p.1 ≠ dx) (h2 : ∀ p ∈ post, p.1 ≠ dx) (hz : es.length ≤ 900)
    (h : ∀ h' hs, Fr h₀ L h' m → News h₀ L h' (pre ++ (dx, dictOf (putL name hs (.str name s.toks) v es) (putN name es n)) :: post) → Q (.done (.ret .none)) { s with heap := h', toks := s.toks + 1 }) :
    wpAny (model prog w) A (storeInDict dx (.str name tk) name v) Q E s := by
  have e : Obj.putName name (PyData.keyHash w.params name) (.str name s.toks) v (dictOf es n) = dictOf (putL name (PyData.keyHash w.params name) (.str name s.toks) v es) (putN name es n) := putName_dict ..
  obtain ⟨U1, U2⟩ := news_upd (f := Obj.putName name (PyData.keyHash w.params name) (.str name s.toks) v) F N h1 h2 e rfl
  have D := (N (dx, dictOf es n) (by simp)).1
  have D' := (U2 (dx, _) (List.mem_append.mpr (.inr (.head _)))).1
  refine wpAny_bind (wpAny_pure (wpAny_bind ?_))
  unfold nsSet
  refine wpAny_bind (wpAny_bind (wpAny_askSetting (wpAny_pure (wpAny_bind (wpAny_mkText (wpAny_bind (wpAny_loadPart D ?_)))))))
  unfold lookIn at hl
  dsimp only at hl ⊢
  have c : (!es.toArray.any (·.key.isStr name) && es.toArray.any (·.refKey)) = false := by
    rw [← Array.any_toList, ← Array.any_toList]
    split at hl
    · rename_i en he
      rw [List.any_eq_true.mpr ⟨en, List.mem_of_find?_eq_some he, List.find?_some he⟩]; rfl
    · split at hl
      · cases hl
      · rename_i z; rw [Bool.not_eq_true] at z; rw [z, Bool.and_false]
  rw [aRefKeyMayBeTheName_at, c]
  refine wpAny_updatePart D ?_
  have len : ∀ (hs : Int) (k v : Value) (es : List DictEntry), (putL name hs k v es).length ≤ es.length + 1 := fun hs k v es => by
    induction es with
    | nil => exact Nat.le_refl _
    | cons a r ih => unfold putL; split <;> simp only [List.length_cons] <;> omega
  refine wpAny_bind (wpAny_lookBehind D' (pastItsLine_dict (by rw [List.size_toArray, sizeLine_eq]; have := len (PyData.keyHash w.params name) (.str name s.toks) v es; omega)) ?_)
  exact wpAny_pure (h _ _ U1 U2)

theorem osa_openE {ox : Obj} {od : Option Obj} {name : PySem.Str} {tk : Tok} {v : Value} (Y : ExcK K C fI bm) (X : K.In s.heap) (I : InstAt s.heap e ox C od) (ht : findIn K (.ref C) name = some none)
    (h : wpAny (model prog w) A.in1 (storeInOwnDict (.ref e) (.ref C) (.str name tk) name v false)
      (fun fin s' => match fin with | .done f => R (.ok f) s' | .again c' => c'.quiet = true ∧ codeAny (model prog w) A c' R s') (fun e s' => R (.error e) s') s) :
    codeAny (model prog w) A (.call (.builtin "object.__setattr__") ⟨[.ref e, .str name tk, v], []⟩) R s := by
  have SF := PySem.F.store_object
  obtain ⟨nm, q, Ns, bs, sn, sub, ab, col, dd, k0, k1, k2, k3, k5, ho⟩ := Y.obj
  have hc : clsIn K C = some { name := nm, bases := bs, mro := .ref C :: bm, ns := Ns, qualname := q, hasDict := true, slotNames := sn, subclasses := sub, abstract := ab, collection := col, hasDel := false } := by unfold clsIn; rw [ho]
  have hcO : (Value.ref C :: bm).contains (.type "object") = true := by rw [List.contains_cons, Y.hO, Bool.or_true]
  have sub' : Looks (model prog w) s.heap (isInstance (.ref e) (.type "object")) true := I.type.andThen (looks_mroIn X (by unfold mroIn; rw [hc, Option.bind_some, if_neg (by intro x; cases x), hcO]))
  refine codeAny_call_builtin SF.slot.plain SF.entry (@check_slot (model prog w) _ _ s "object.__setattr__" "object" "__setattr__" (.ref e) [.str name tk, v] [] _ SF.kind SF.split sub' (SF.args (.ref e) (.str name tk) v) ?_)
  have hm : Looks (model prog w) s.heap (mroOf (.ref C)) (.ref C :: bm) := (looks_clsIn X hc).andThen .now
  rw [osa_eq, refuse_eq]
  refine wpAny_bind (wpAny_bind (I.type.here (wpAny_bind (hm.here ?_))))
  rw [refuseLoop_ref, Y.passes]
  refine wpAny_pure (wpAny_bind (I.type.here (wpAny_bind ((looks_findIn X ht).here (wpAny_bind (wpAny_pure ?_))))))
  exact h

theorem exc_set_new {name : PySem.Str} {v : Value} {Q : Unit → Shared → Prop} (Y : ExcK K C fI bm) (ht : findIn K (.ref C) name = some none) (F : Fr h₀ L s.heap m) (N : News h₀ L s.heap (pre ++ (e, excObj C tp none) :: post)) (X₀ : K.In h₀)
    (h1 : ∀ p ∈ pre, p.1 ≠ e) (h2 : ∀ p ∈ post, p.1 ≠ e)
    (hq : ∀ h' tk dx hs k, Fr h₀ L h' m → News h₀ L h' ((dx, dictOf [⟨hs, .str name k, v⟩] 1) :: (pre ++ (e, excObj C tp (some dx)) :: post)) → (∀ p ∈ pre ++ (e, excObj C tp (some dx)) :: post, p.1 ≠ dx) → Q () { s with heap := h', toks := tk }) :
    wpAny (model prog w) A (setAttr (.ref e) name v) Q E s := by
  obtain ⟨nm, q, Ns, bs, sn, sub, ab, col, dd, k0, k1, k2, k3, k5, ho⟩ := Y.obj
  have hc : clsIn K C = some { name := nm, bases := bs, mro := .ref C :: bm, ns := Ns, qualname := q, hasDict := true, slotNames := sn, subclasses := sub, abstract := ab, collection := col, hasDel := false } := by unfold clsIn; rw [ho]
  have z := N (e, excObj C tp none) (List.mem_append.mpr (.inr (.head _)))
  have I : InstAt s.heap e (excObj C tp none) C none := ⟨z.1, rfl, rfl, trivial⟩
  have X := X₀.keeps F.keep
  refine set_plain X I Y.sa (osa_openE (s := { s with toks := s.toks + 1 }) Y X I ht ?_)
  refine wpAny_bind (wpAny_pure (wpAny_bind (wpAny_bind (wpAny_loadPart z.1 (wpAny_bind ((looks_clsIn X hc).at ?_))))))
  dsimp only
  simp only [Bool.not_true, Bool.false_eq_true, if_false, typeHasDict, Bool.or_false]
  refine wpAny_bind (wpAny_alloc ?_)
  have N1 := (N.push F emptyDict)
  have nd : ∀ p ∈ pre ++ (e, excObj C tp none) :: post, p.1 ≠ s.heap.objs.size := fun p hp => Nat.ne_of_lt (Heap.lt_size (N p hp).1)
  obtain ⟨U1, U2⟩ := news_upd (pre := (s.heap.objs.size, emptyDict) :: pre) (f := fun o => { o with dict := some s.heap.objs.size }) (o' := excObj C tp (some s.heap.objs.size)) (F.push emptyDict) N1
    (fun p hp => by
      rcases List.mem_cons.mp hp with rfl | hp
      · exact (nd (e, _) (List.mem_append.mpr (.inr (.head _)))).symm
      · exact h1 p hp) h2 rfl rfl
  refine wpAny_bind (wpAny_update (N1 (e, excObj C tp none) (List.mem_cons_of_mem _ (List.mem_append.mpr (.inr (.head _))))).1 ?_)
  refine wpAny_pure ?_
  have nd' : ∀ p ∈ pre ++ (e, excObj C tp (some s.heap.objs.size)) :: post, p.1 ≠ s.heap.objs.size := fun p hp => by
    rcases List.mem_append.mp hp with hp | hp
    · exact nd p (List.mem_append.mpr (.inl hp))
    · rcases List.mem_cons.mp hp with rfl | hp
      · exact nd (e, excObj C tp none) (List.mem_append.mpr (.inr (.head _)))
      · exact nd p (List.mem_append.mpr (.inr (.tail _ hp)))
  exact store_N (pre := []) (es := []) (n := 0) U1 U2 rfl (fun p hp => nomatch hp) nd' (by decide) fun h' hs F' N' => hq h' _ _ hs _ F' N' nd'

theorem exc_set_old {dx : Addr} {name : PySem.Str} {v : Value} {es : List DictEntry} {n : Nat} {Q : Unit → Shared → Prop} (Y : ExcK K C fI bm) (ht : findIn K (.ref C) name = some none) (F : Fr h₀ L s.heap m) (N : News h₀ L s.heap ((dx, dictOf es n) :: post)) (he : (e, excObj C tp (some dx)) ∈ post) (X₀ : K.In h₀)
    (h2 : ∀ p ∈ post, p.1 ≠ dx) (hl : (lookIn name (dictOf es n)).isSome = true) (hz : es.length ≤ 900)
    (hq : ∀ h' tk, Fr h₀ L h' m → News h₀ L h' post → Q () { s with heap := h', toks := tk }) :
    wpAny (model prog w) A (setAttr (.ref e) name v) Q E s := by
  obtain ⟨nm, q, Ns, bs, sn, sub, ab, col, dd, k0, k1, k2, k3, k5, ho⟩ := Y.obj
  have hc : clsIn K C = some { name := nm, bases := bs, mro := .ref C :: bm, ns := Ns, qualname := q, hasDict := true, slotNames := sn, subclasses := sub, abstract := ab, collection := col, hasDel := false } := by unfold clsIn; rw [ho]
  have z := N _ (.tail _ he)
  have I : InstAt s.heap e (excObj C tp (some dx)) C (some (dictOf es n)) := ⟨z.1, rfl, rfl, (N _ (.head _)).1⟩
  have X := X₀.keeps F.keep
  refine set_plain X I Y.sa (osa_openE (s := { s with toks := s.toks + 1 }) Y X I ht ?_)
  refine wpAny_bind (wpAny_pure (wpAny_bind (wpAny_bind (wpAny_loadPart z.1 (wpAny_bind ((looks_clsIn X hc).at ?_))))))
  dsimp only
  simp only [Bool.not_true, Bool.false_eq_true, if_false]
  refine wpAny_pure ?_
  exact store_N (pre := []) F N hl (fun p hp => nomatch hp) h2 hz fun h' hs F' N' => hq h' _ F' fun p hp => N' p (.tail _ hp)
end
end
section -- F1
set_option maxRecDepth 100000
set_option maxHeartbeats 8000000
set_option linter.unusedVariables false
theorem mk_obj {K : Frag} {C N : Addr} {nm q : PySem.Str} {bs bm sub : List Value} {sn : List PySem.Str} {ab : Bool} {col : Option Bool} {dd : Option Addr} {k0 k1 k2 k3 k5 : Option Value}
    (h : List.lookup C K = some (excClassObj nm q C N bs bm true sn sub ab col dd k0 k1 k2 k3 k5 "Exception.__new__")) :
    ∃ nm q N bs sn sub ab col dd k0 k1 k2 k3 k5, List.lookup C K = some (excClassObj nm q C N bs bm true sn sub ab col dd k0 k1 k2 k3 k5 "Exception.__new__") :=
  ⟨_, _, _, _, _, _, _, _, _, _, _, _, _, _, h⟩
theorem FF_obj (P : Params) : ∃ nm q N bs sn sub ab col dd k0 k1 k2 k3 k5, List.lookup 59 (Mine.hd.heap_39 P) = some (excClassObj nm q 59 N bs [.ref 46, .type "Exception", .type "BaseException", .type "object"] true sn sub ab col dd k0 k1 k2 k3 k5 "Exception.__new__") := by
  refine' mk_obj ?h
  case h => k_is
theorem FF_K (P : Params) : ExcK (Mine.hd.heap_39 P) 59 36 [.ref 46, .type "Exception", .type "BaseException", .type "object"] where
  obj := FF_obj P
  hE := by decide +kernel
  hB := by decide +kernel
  hO := by decide +kernel
  hAt := by decide +kernel
  hNm := by decide +kernel
  passes := fun self => by rw [refuseLoop_ref]; exact PySem.F.store_Exception.passes self
  ini := by k_is
  fn := by k_is
  sa := by k_is
theorem FF_what (P : Params) : findIn (Mine.hd.heap_39 P) (.ref 59) "what" = some none := by k_is
theorem FF_at (P : Params) : findIn (Mine.hd.heap_39 P) (.ref 59) "at" = some none := by k_is
theorem FF_exm (P : Params) : exmOne (Mine.hd.heap_39 P) (.ref 59) (.ref 59) = some true := by
  kts_exm
end
section -- F2
set_option maxRecDepth 100000
set_option maxHeartbeats 8000000
set_option linter.unusedVariables false

section
variable {w : World} {p : Program} {loose : List PySem.Str} {mean : ExcName → Option Value} {mg mb : PySem.Str → Option Value}
  {dp un : Nat} {gd : Option (List Code)} {cn : PySem.Str} {cs : Scope} {a : Addr} {ccd : Value} {cl : List (PySem.Str × Addr)} {outer : List Env} {A₀ : Around} {base h₀ : Heap} {L : Addr} {m : PySem.Str → Option Value} {news : List (Addr × Obj)} {s : Shared} {Q E : Value → Shared → Prop} {R : Result → Shared → Prop}

theorem paper_init1 {e tp : Addr} {what : Value} (B : Below A₀ base outer h₀) (F : Fr h₀ L s.heap m) (X : (Mine.hd.heap_39 w.params).In h₀) (N : News h₀ L s.heap ((e, excObj 59 tp none) :: news)) (T : Top p loose mean mg mb h₀) (hk : cs.kind = .function)
    (hd : dp + 2 < recursionLimit) (hu : un + 20 < cLine) (hne : ∀ p ∈ news, p.1 ≠ e)
    (h : ∀ h' tk tp' dx, Fr h₀ L h' m → News h₀ L h' ((e, excObj 59 tp' (some dx)) :: news) → R (.ok (.ret .none)) { s with heap := h', toks := tk }) :
    codeAny (model Challenge.rw_nn0201_01.row.prog w) (ktrTop dp un gd cn cs L a ccd cl outer) (.call (.ref 36) ⟨[.ref e, what], []⟩) R s := by
  k_dflt (refine' code_def (binds := [(PySem.Str.ofString "self", .ref e), (PySem.Str.ofString "what", what), (PySem.Str.ofString "at", .int (-1) 209)]) ?k1 ?k2 ?k3 ?k4 ?k5 ?kA ?kF ?kK ?k6 ?k7 ?k8 ?k9 ?kB ?_ ?c2 ?c3 ?c4 ?c5; (case kA => exact rfl); (case kF => exact rfl); (case kK => assumption); (case k1 => k_asm); (case k2 => k_asm); (case k3 => k_asm); (case k4 => k_asm); (case k5 => k_asm); (case k6 => k_is); (case k7 => k_is); (case k8 => ktr_room); (case k9 => first | exact binds_K (by k_in) rfl (by k_is) rfl rfl rfl | exact BindsTo.of_eq rfl); (case c5 => decide); (case kB => exact locs rfl); (case c2 => exact rfl); (case c3 => exact rfl); (case c4 => exact rfl); k_whole; intro g' L' h' FG' F' N' B' X' T'; (try dsimp only); (try k_lift B'); (try k_fold))
  k_steps
  refine' method_type (v := .builtin "Exception.__init__") ?F ?X ?ht ?hs ?e ?hh ?_
  case F => k_asm
  case X => k_asm
  case ht => kernel_rfl
  case hs => decide +kernel
  case e => k_is
  case hh => decide +kernel
  k_steps
  refine' exc_init (pre := []) (FF_K w.params) ?F ?N ?X ?h1 ?h2 ?_
  case F => k_asm
  case N => k_asm
  case X => exact Frag.In.keeps (by assumption) (Fr.keep (by assumption))
  case h1 => exact fun p hp => nomatch hp
  case h2 => exact hne
  intro h2 tp2 F2 N2
  dsimp only [List.nil_append] at N2
  k_steps
  refine' exc_set_new (pre := []) (FF_K w.params) (FF_what _) ?F ?N ?X ?h1 ?h2 ?_
  case F => k_asm
  case N => k_asm
  case X => k_asm
  case h1 => exact fun p hp => nomatch hp
  case h2 => exact hne
  intro h3 tk3 dx3 hs3 k3 F3 N3 nd3
  dsimp only [List.nil_append] at N3 nd3
  k_steps
  refine' exc_set_old (e := e) (tp := tp2) (FF_K w.params) (FF_at _) ?F ?N ?he ?X ?h2 ?hl ?hz ?_
  case F => k_asm
  case N => k_asm
  case X => k_asm
  case he => exact .head _
  case h2 => exact nd3
  case hl => rfl
  case hz => exact (by decide : 1 ≤ 900)
  intro h4 tk4 F4 N4
  k_steps
  exact h _ _ _ _ (by k_asm) (by k_asm)
end
section
variable {w : World} {p : Program} {loose : List PySem.Str} {mean : ExcName → Option Value} {mg mb : PySem.Str → Option Value}
  {dp un : Nat} {gd : Option (List Code)} {cn : PySem.Str} {cs : Scope} {a : Addr} {ccd : Value} {cl : List (PySem.Str × Addr)} {outer : List Env} {A₀ : Around} {base h₀ : Heap} {L : Addr} {m : PySem.Str → Option Value} {news : List (Addr × Obj)} {s : Shared} {Q E : Value → Shared → Prop} {R : Result → Shared → Prop}

theorem paper_init2 {e tp : Addr} {what : Value} {av : Int} {at_ : Tok} (B : Below A₀ base outer h₀) (F : Fr h₀ L s.heap m) (X : (Mine.hd.heap_39 w.params).In h₀) (N : News h₀ L s.heap ((e, excObj 59 tp none) :: news)) (T : Top p loose mean mg mb h₀) (hk : cs.kind = .function)
    (hd : dp + 2 < recursionLimit) (hu : un + 20 < cLine) (hne : ∀ p ∈ news, p.1 ≠ e)
    (h : ∀ h' tk tp' dx, Fr h₀ L h' m → News h₀ L h' ((e, excObj 59 tp' (some dx)) :: news) → R (.ok (.ret .none)) { s with heap := h', toks := tk }) :
    codeAny (model Challenge.rw_nn0201_01.row.prog w) (ktrTop dp un gd cn cs L a ccd cl outer) (.call (.ref 36) ⟨[.ref e, what, .int av at_], []⟩) R s := by
  k_dflt (refine' code_def (binds := [(PySem.Str.ofString "self", .ref e), (PySem.Str.ofString "what", what), (PySem.Str.ofString "at", .int av at_)]) ?k1 ?k2 ?k3 ?k4 ?k5 ?kA ?kF ?kK ?k6 ?k7 ?k8 ?k9 ?kB ?_ ?c2 ?c3 ?c4 ?c5; (case kA => exact rfl); (case kF => exact rfl); (case kK => assumption); (case k1 => k_asm); (case k2 => k_asm); (case k3 => k_asm); (case k4 => k_asm); (case k5 => k_asm); (case k6 => k_is); (case k7 => k_is); (case k8 => ktr_room); (case k9 => exact binds_K (by k_in) rfl (by k_is) rfl rfl rfl); (case c5 => decide); (case kB => exact locs rfl); (case c2 => exact rfl); (case c3 => exact rfl); (case c4 => exact rfl); k_whole; intro g' L' h' FG' F' N' B' X' T'; (try dsimp only); (try k_lift B'); (try k_fold))
  k_steps
  refine' method_type (v := .builtin "Exception.__init__") ?F ?X ?ht ?hs ?e ?hh ?_
  case F => k_asm
  case X => k_asm
  case ht => kernel_rfl
  case hs => decide +kernel
  case e => k_is
  case hh => decide +kernel
  k_steps
  refine' exc_init (pre := []) (FF_K w.params) ?F ?N ?X ?h1 ?h2 ?_
  case F => k_asm
  case N => k_asm
  case X => exact Frag.In.keeps (by assumption) (Fr.keep (by assumption))
  case h1 => exact fun p hp => nomatch hp
  case h2 => exact hne
  intro h2 tp2 F2 N2
  dsimp only [List.nil_append] at N2
  k_steps
  refine' exc_set_new (pre := []) (FF_K w.params) (FF_what _) ?F ?N ?X ?h1 ?h2 ?_
  case F => k_asm
  case N => k_asm
  case X => k_asm
  case h1 => exact fun p hp => nomatch hp
  case h2 => exact hne
  intro h3 tk3 dx3 hs3 k3 F3 N3 nd3
  dsimp only [List.nil_append] at N3 nd3
  k_steps
  refine' exc_set_old (e := e) (tp := tp2) (FF_K w.params) (FF_at _) ?F ?N ?he ?X ?h2 ?hl ?hz ?_
  case F => k_asm
  case N => k_asm
  case X => k_asm
  case he => exact .head _
  case h2 => exact nd3
  case hl => rfl
  case hz => exact (by decide : 1 ≤ 900)
  intro h4 tk4 F4 N4
  k_steps
  exact h _ _ _ _ (by k_asm) (by k_asm)
end

section
variable {M : Model} {A : Around} {E : Value → Shared → Prop} {s s' : Shared} {K : Frag} {C fI : Addr} {bm : List Value} {env : Env}
def RaisedBy (K : Frag) (C : Addr) (E : Value → Shared → Prop) (v : Value) (s₁ : Shared) : Prop := ∃ e t od, v = .ref e ∧ K.In s₁.heap ∧ s₁.heap.get? e = some (excObj C t od) ∧ E (.ref e) s₁
theorem raisedBy_ {h₀ : Heap} {L : Addr} {m : PySem.Str → Option Value} {news : List (Addr × Obj)} {e tp : Addr} {od : Option Addr} (X : K.In h₀) (F : Fr h₀ L s.heap m) (N : News h₀ L s.heap ((e, excObj C tp od) :: news)) (h : E (.ref e) s) : RaisedBy K C E (.ref e) s :=
  ⟨e, tp, od, rfl, X.keeps F.keep, (N _ (.head _)).1, h⟩
theorem raise_made {x : Sem Value} {Q : Flow → Shared → Prop} (Y : ExcK K C fI bm) (hh : A.handled = none)
    (h : wpAny M A x (RaisedBy K C E) E s) :
    wpAny M A (raiseStmt env (some x) none) Q E s := by
  obtain ⟨nm, q, Ns, bs, sn, sub, ab, col, dd, k0, k1, k2, k3, k5, ho⟩ := Y.obj
  have hcB : (Value.ref C :: bm).contains (.type "BaseException") = true := by rw [List.contains_cons, Y.hB, Bool.or_true]
  unfold raiseStmt
  refine wpAny_bind (wpAny_mono h (fun v s₁ h₁ => ?_) fun _ _ x => x)
  obtain ⟨e, t, od, rfl, X, he, hE⟩ := h₁
  have hC := X _ _ ho
  obtain ⟨hp, g, d, tk, os⟩ := s₁
  dsimp only at hC he
  repeat (first | with_reducible refine wpAny_loadPart_at he ?_ | with_reducible refine wpAny_loadPart_at hC ?_ | (with_reducible refine wpAny_isSubtype_exc hC ?_; rw [hcB]) | wp_step)
  exact wpAny_raiseNew_none hh hE
theorem Raise_made {x : Expr} {pos : Pos} {Q : Flow → Shared → Prop} (Y : ExcK K C fI bm) (hh : A.handled = none)
    (h : wpAny M A (eval x env) (RaisedBy K C E) E s) :
    wpAny M A (exec (.Raise (some x) none pos) env) Q E s := by
  rw [arm_exec_Raise]
  first
    | refine wpAny_bind (wpAny_standAt (raise_made Y hh (wpAny_bind (wpAny_mono h (fun v s₃ h₃ => wpAny_bind (wpAny_standAt (wpAny_pure h₃))) fun _ _ x => x))))
    | (simp only [evalOpt, Option.map]; refine wpAny_bind (wpAny_standAt (raise_made Y hh (wpAny_bind (wpAny_mono h (fun v s₃ h₃ => wpAny_bind (wpAny_standAt (wpAny_pure h₃))) fun _ _ x => x)))))
end
section
variable {M : Model} {A : Around} {E : Value → Shared → Prop} {s' : Shared} {base g : Heap} {outer : List Env} {L a e tp C : Addr} {od : Option Addr} {m : PySem.Str → Option Value} {name : PySem.Str} {scope : Scope} {cd : Value} {Q : Unit → Shared → Prop} {news : List (Addr × Obj)}
theorem leave_newF (K : Below A base outer g) (F : Fr g L s'.heap m) (N : News g L s'.heap ((e, excObj C tp od) :: news)) (hne : ∀ p ∈ news, p.1 ≠ e)
    (hQ : ∀ h', RaisedSN base g outer e (.ref C) news h' → g.UpToSlots h' → Q () { s' with heap := h' }) (hk : scope.kind = .function := by rfl) :
    wpAny M (A.deeper (envOf name scope L a cd)) (leaving (envOf name scope L a cd) (.ref e)) Q E s' := by
  have K' := K.push (name := name) (a := a) (cd := cd) F hk
  have z := N _ (.head _)
  have hin : ∀ env ∈ (envOf name scope L a cd :: outer), ∀ b, env.frame = some b → b ∈ e :: (envOf name scope L a cd :: outer).filterMap (·.frame) := fun env he b hb => List.mem_cons_of_mem _ (List.mem_filterMap.mpr ⟨env, he, hb⟩)
  have fr : ∀ b ∈ (envOf name scope L a cd :: outer).filterMap (·.frame), base.get? b = none := fun b hb => (K'.frames.mem hb).1
  have be : base.get? e = none := fresh_of_stays K.stays z.2.2
  have st : base.StaysIn (hideAll s'.heap (e :: (envOf name scope L a cd :: outer).filterMap (·.frame))) := fun b o q => hideAll_get _ (K'.stays b o q) fun hm => by
    rcases List.mem_cons.mp hm with rfl | hm
    · rw [be] at q; cases q
    · rw [fr _ hm] at q; cases q
  have sg : ∀ b o, g.get? b = some o → b ∉ outer.filterMap (·.frame) → (hideAll s'.heap (e :: (envOf name scope L a cd :: outer).filterMap (·.frame))).get? b = some o := fun b o q nm => hideAll_get _ (F.keep b o q) fun hm => by
    rcases List.mem_cons.mp hm with rfl | hm
    · rw [z.2.2] at q; cases q
    · rcases kts_mem hm with z | z
      · rw [z, kts_self F] at q
        cases q
      · exact nm z
  have hl : ∀ q ∈ news, (hideAll s'.heap (e :: (envOf name scope L a cd :: outer).filterMap (·.frame))).get? q.1 = some q.2 ∧ g.get? q.1 = none ∧ base.get? q.1 = none := fun q hq => by
    have y := N q (.tail _ hq)
    refine ⟨hideAll_get _ y.1 fun hm => ?_, y.2.2, fresh_of_stays K.stays y.2.2⟩
    rcases List.mem_cons.mp hm with hm | hm
    · exact hne q hq hm
    · obtain ⟨env, he, hf⟩ := List.mem_filterMap.mp hm
      rcases List.mem_cons.mp he with rfl | he
      · exact y.2.1 (Option.some.inj hf).symm
      · obtain ⟨o, ho, _⟩ := (K.frames.mem (List.mem_filterMap.mpr ⟨env, he, hf⟩)).2
        rw [y.2.2] at ho; cases ho
  have hen : (hideAll s'.heap (e :: (envOf name scope L a cd :: outer).filterMap (·.frame))).get? e = none := hideAll_none _ (.head _)
  refine wpAny_leaving_firstW (a0 := .ref tp) K'.stack ((funFrames_hide K'.frames hin).of_keeps fun b o hb _ => ⟨o, hb, rfl⟩) rfl z.1 (fun b o hb => of_hideAll _ hb) hen rfl rfl rfl fun h' hL => ?_
  obtain ⟨k1, ⟨_, _, k2⟩, k3, k4⟩ := hL
  exact hQ h' ⟨_, .ref tp, st, sg, hl, k1, hen, k2, k3⟩ ((Heap.UpToSlots.of_keeps F.keep).trans k4)
end
section
variable {w : World} {p : Program} {loose : List PySem.Str} {mean : ExcName → Option Value} {mg mb : PySem.Str → Option Value}
  {dp un : Nat} {gd : Option (List Code)} {cn : PySem.Str} {cs : Scope} {a : Addr} {ccd : Value} {cl : List (PySem.Str × Addr)} {outer : List Env} {A₀ : Around} {base h₀ : Heap} {L : Addr} {m : PySem.Str → Option Value} {news : List (Addr × Obj)} {s : Shared} {Q E : Value → Shared → Prop} {R : Result → Shared → Prop}
theorem tc_under (x y : List Value) : (ktrTop dp un gd cn cs L a ccd cl outer).under (.builtin "type.__call__" ⟨.ref 59 :: x, []⟩) = ktrTop (dp + 1) (un + 1) gd cn cs L a ccd cl outer := rfl
theorem exc_make1 {t : Tok} {what : PySem.Str} (B : Below A₀ base outer h₀) (F : Fr h₀ L s.heap m) (X : (Mine.hd.heap_39 w.params).In h₀) (N : News h₀ L s.heap news) (T : Top p loose mean mg mb h₀) (hk : cs.kind = .function)
    (hd : dp + 3 < recursionLimit) (hu : un + 21 < cLine)
    (h : ∀ h' tk e tp od, Fr h₀ L h' m → News h₀ L h' ((e, excObj 59 tp od) :: news) → (∀ p ∈ news, p.1 ≠ e) → Q (.ref e) { s with heap := h', toks := tk }) :
    wpAny (model Challenge.rw_nn0201_01.row.prog w) (ktrTop dp un gd cn cs L a ccd cl outer) (call (.ref 59) [.str what t]) Q E s := by
  have XK := FF_K w.params
  obtain ⟨nm, q, Ns, bs, sn, sub, ab, col, dd, k0, k1, k2, k3, k5, ho⟩ := XK.obj
  obtain ⟨hh, g, d, tk, os⟩ := s
  dsimp only at F N
  have X' := X.keeps F.keep
  have nd : ∀ p ∈ news, p.1 ≠ hh.objs.size + 1 := fun p hp => Nat.ne_of_lt (Nat.lt_succ_of_lt (Heap.lt_size (N p hp).1))
  refine own_call XK.hE XK.hAt XK.hNm (X' _ _ ho) (by size_fits) (looks_findIn X' XK.ini) (fun self => bind_fn X' self XK.fn) ?_
  rw [tc_under _ []]
  have N1 := (N.pushKeep { cls := .type "tuple", data := .seq [Value.str what t].toArray })
  have N2 := N1.push (F.push _) (excObj 59 hh.objs.size none)
  rw [Heap.size_push] at N2
  exact paper_init1 B ((F.push _).push _) X N2 T hk hd (by omega) nd fun h' tk tp' dx F' N' => ⟨rfl, h _ _ _ _ _ F' N' nd⟩
theorem exc_make2 {t t2 : Tok} {what : PySem.Str} {av : Int} (B : Below A₀ base outer h₀) (F : Fr h₀ L s.heap m) (X : (Mine.hd.heap_39 w.params).In h₀) (N : News h₀ L s.heap news) (T : Top p loose mean mg mb h₀) (hk : cs.kind = .function)
    (hd : dp + 3 < recursionLimit) (hu : un + 21 < cLine)
    (h : ∀ h' tk e tp od, Fr h₀ L h' m → News h₀ L h' ((e, excObj 59 tp od) :: news) → (∀ p ∈ news, p.1 ≠ e) → Q (.ref e) { s with heap := h', toks := tk }) :
    wpAny (model Challenge.rw_nn0201_01.row.prog w) (ktrTop dp un gd cn cs L a ccd cl outer) (call (.ref 59) [.str what t, .int av t2]) Q E s := by
  have XK := FF_K w.params
  obtain ⟨nm, q, Ns, bs, sn, sub, ab, col, dd, k0, k1, k2, k3, k5, ho⟩ := XK.obj
  obtain ⟨hh, g, d, tk, os⟩ := s
  dsimp only at F N
  have X' := X.keeps F.keep
  have nd : ∀ p ∈ news, p.1 ≠ hh.objs.size + 1 := fun p hp => Nat.ne_of_lt (Nat.lt_succ_of_lt (Heap.lt_size (N p hp).1))
  refine own_call XK.hE XK.hAt XK.hNm (X' _ _ ho) (by size_fits) (looks_findIn X' XK.ini) (fun self => bind_fn X' self XK.fn) ?_
  rw [tc_under _ []]
  have N1 := (N.pushKeep { cls := .type "tuple", data := .seq [Value.str what t, .int av t2].toArray })
  have N2 := N1.push (F.push _) (excObj 59 hh.objs.size none)
  rw [Heap.size_push] at N2
  exact paper_init2 B ((F.push _).push _) X N2 T hk hd (by omega) nd fun h' tk tp' dx F' N' => ⟨rfl, h _ _ _ _ _ F' N' nd⟩
end
end
set_option hygiene false in
local macro_rules | `(tactic| walk_at "exec Raise some none") => `(tactic| (k_here; k_dflt (refine' Raise_made (FF_K w.params) rfl ?_)))
section -- C1
set_option maxRecDepth 100000
set_option maxHeartbeats 8000000
set_option linter.unusedVariables false
abbrev PR : Program := Challenge.rw_nn0201_01.row.prog

local macro_rules | `(tactic| walk_at "call ref") => `(tactic| (k_here; k_dflt (first | (refine' exc_make1 ?B ?F ?X ?N ?T ?hk ?hd ?hu ?_; (case B => k_asm); (case F => k_asm); (case X => k_asm); (case N => k_asm); (case T => k_asm); (case hk => first | assumption | exact rfl); (case hd => first | exact n_up (by assumption) (by decide) | ktr_room); (case hu => first | exact n_up (by assumption) (by decide) | ktr_units); k_whole) | (refine' exc_make2 ?B ?F ?X ?N ?T ?hk ?hd ?hu ?_; (case B => k_asm); (case F => k_asm); (case X => k_asm); (case N => k_asm); (case T => k_asm); (case hk => first | assumption | exact rfl); (case hd => first | exact n_up (by assumption) (by decide) | ktr_room); (case hu => first | exact n_up (by assumption) (by decide) | ktr_units); k_whole)); intro h' tk' e' tp' od' F' N' nd'; refine' raisedBy_ (by assumption) F' N' ?_; refine' leave_newF (by assumption) F' N' nd' ?_ rfl; intro h'' R' U'))
section
variable {w : World} {p : Program} {loose : List PySem.Str} {mean : ExcName → Option Value} {mg mb : PySem.Str → Option Value}
  {dp un : Nat} {gd : Option (List Code)} {cn : PySem.Str} {cs : Scope} {a : Addr} {ccd : Value} {cl : List (PySem.Str × Addr)} {outer : List Env} {A₀ : Around} {base h₀ : Heap} {L : Addr} {m : PySem.Str → Option Value} {news : List (Addr × Obj)} {s : Shared} {Q E : Value → Shared → Prop}

theorem low_bits_c {v c : Int} {t1 t2 : Tok} (B : Below A₀ base outer h₀) (F : Fr h₀ L s.heap m) (X : (Mine.hd.heap_39 w.params).In h₀) (N : News h₀ L s.heap news) (T : Top p loose mean mg mb h₀) (hk : cs.kind = .function)
    (hd : dp + 8 < recursionLimit) (hu : un + 100 < cLine) (h0 : 0 ≤ v) (h1 : 0 ≤ c) (h2 : c ≤ 64)
    (ret : ∀ t h' tk, Fr h₀ L h' m → News h₀ L h' news → Q (.int (v % 2 ^ c.toNat) t) { s with heap := h', toks := tk }) :
    wpAny (model Challenge.rw_nn0201_01.row.prog w) (ktrTop dp un gd cn cs L a ccd cl outer) (call (.ref 68) [.int v t1, .int c t2]) Q E s := by
  refine wpAny_call ?_
  k_dflt cell_enter
  k_steps
  rw [Int.one_mul, kbt_mask]
  exact ret _ _ _ (by k_asm) (by k_asm)

theorem check_fit_ok {v c : Int} {t1 t2 : Tok} (B : Below A₀ base outer h₀) (F : Fr h₀ L s.heap m) (X : (Mine.hd.heap_39 w.params).In h₀) (N : News h₀ L s.heap news) (T : Top p loose mean mg mb h₀) (hk : cs.kind = .function)
    (hd : dp + 8 < recursionLimit) (hu : un + 100 < cLine) (h0 : 0 ≤ v) (h1 : 0 ≤ c) (h2 : c ≤ 64) (hv : v < 2 ^ c.toNat)
    (ret : ∀ h' tk, Fr h₀ L h' m → News h₀ L h' news → Q .none { s with heap := h', toks := tk }) :
    wpAny (model Challenge.rw_nn0201_01.row.prog w) (ktrTop dp un gd cn cs L a ccd cl outer) (call (.ref 82) [.int v t1, .int c t2]) Q E s := by
  have hz : v.fdiv (2 ^ c.toNat) = 0 := by rw [Int.fdiv_eq_ediv_of_nonneg _ (Int.le_of_lt (kbt_pos _)), Int.ediv_eq_zero_of_lt h0 hv]
  refine wpAny_call ?_
  k_dflt cell_enter
  k_steps
  all_goals first | (exact absurd hz (by assumption)) | exact ret _ _ (by k_asm) (by k_asm)

theorem check_fit_no {v c : Int} {t1 t2 : Tok} (B : Below A₀ base outer h₀) (F : Fr h₀ L s.heap m) (X : (Mine.hd.heap_39 w.params).In h₀) (N : News h₀ L s.heap news) (T : Top p loose mean mg mb h₀) (hk : cs.kind = .function)
    (hd : dp + 8 < recursionLimit) (hu : un + 100 < cLine) (hc : c ≤ 64) (hno : c < 0 ∨ v < 0 ∨ v.fdiv (2 ^ c.toNat) ≠ 0)
    (raise : ∀ g e h' tk, Fr h₀ L g m → RaisedSN base g (envX cn cs L a ccd cl :: outer) e (.ref 59) news h' → g.UpToSlots h' → E (.ref e) { s with heap := h', toks := tk }) :
    wpAny (model Challenge.rw_nn0201_01.row.prog w) (ktrTop dp un gd cn cs L a ccd cl outer) (call (.ref 82) [.int v t1, .int c t2]) Q E s := by
  refine wpAny_call ?_
  k_dflt cell_enter
  k_steps
  all_goals first
    | (refine' raise _ _ _ _ ?_ (by assumption) (by assumption) <;> assumption)
    | (exfalso; rcases hno with q | q | q <;> first | omega | contradiction)
end
end
section -- Mt
set_option linter.unusedVariables false
def rowL (v : Int) (n : Nat) : List Int := (List.range n).map fun i => v / 2 ^ i % 2
def rowH (v : Int) (n : Nat) : List Int := (rowL v n).reverse
def bitsL (ks : List Int) : List Int := ks.flatMap fun k => rowL k 8
def bitsH (ks : List Int) : List Int := ks.flatMap fun k => rowH k 8
def row (hi : Bool) (v : Int) (n : Nat) : List Int := if hi then rowH v n else rowL v n
def bits (hi : Bool) (ks : List Int) : List Int := ks.flatMap fun k => row hi k 8

theorem two_pos (n : Nat) : (0 : Int) < 2 ^ n := Int.pow_pos (by decide)
@[simp] theorem rowL_length (v : Int) (n : Nat) : (rowL v n).length = n := by simp [rowL]
@[simp] theorem rowH_length (v : Int) (n : Nat) : (rowH v n).length = n := by simp [rowH]
@[simp] theorem row_length (hi : Bool) (v : Int) (n : Nat) : (row hi v n).length = n := by cases hi <;> simp [row]
theorem rowL_split (v : Int) (a b : Nat) : rowL v (a + b) = rowL v a ++ rowL (v / 2 ^ a) b := by
  unfold rowL
  rw [List.range_add, List.map_append, List.map_map]
  congr 1
  apply List.map_congr_left
  intro i _
  show v / 2 ^ (a + i) % 2 = v / 2 ^ a / 2 ^ i % 2
  rw [Int.pow_add, Int.ediv_ediv_of_nonneg (Int.le_of_lt (two_pos a))]
theorem rowL_mod (v : Int) (n : Nat) : rowL (v % 2 ^ n) n = rowL v n := by
  unfold rowL
  apply List.map_congr_left
  intro i hi
  have hi := List.mem_range.mp hi
  obtain ⟨d, rfl⟩ : ∃ d, n = i + 1 + d := ⟨n - (i + 1), by omega⟩
  have e : v = v % 2 ^ (i + 1 + d) + 2 ^ i * (2 * (2 ^ d * (v / 2 ^ (i + 1 + d)))) := by
    have := Int.emod_add_mul_ediv v (2 ^ (i + 1 + d))
    rw [← Int.mul_assoc, ← Int.mul_assoc]
    have e2 : (2 : Int) ^ i * 2 * 2 ^ d = 2 ^ (i + 1 + d) := by rw [Int.pow_add, Int.pow_succ]
    rw [e2]; exact this.symm
  conv => rhs; rw [e]
  rw [Int.add_mul_ediv_left _ _ (Int.ne_of_gt (two_pos i)), Int.add_mul_emod_self_left]
theorem rowL_join {h b : Int} {a n : Nat} (h0 : 0 ≤ h) (h1 : h < 2 ^ a) : rowL (h + b * 2 ^ a) (a + n) = rowL h a ++ rowL b n := by
  rw [rowL_split, ← rowL_mod, Int.add_mul_emod_self_right, Int.emod_eq_of_lt h0 h1, Int.add_mul_ediv_right _ _ (Int.ne_of_gt (two_pos a)), Int.ediv_eq_zero_of_lt h0 h1, Int.zero_add]
theorem rowH_join {h v : Int} {a n : Nat} (h0 : 0 ≤ v) (h1 : v < 2 ^ n) : rowH (h * 2 ^ n + v) (a + n) = rowH h a ++ rowH v n := by
  unfold rowH
  rw [Int.add_comm, Nat.add_comm, rowL_join h0 h1, List.reverse_append]
theorem rowH_split (v : Int) (a b : Nat) : rowH v (a + b) = rowH (v / 2 ^ b) a ++ rowH (v % 2 ^ b) b := by
  unfold rowH
  rw [Nat.add_comm, rowL_split, List.reverse_append, rowL_mod]
theorem bitOr_join {h b : Int} {n : Nat} (h0 : 0 ≤ h) (h1 : h < 2 ^ n) (hb : 0 ≤ b) : Builtin.bitOr h (b * 2 ^ n) = h + b * 2 ^ n := by
  have e : Builtin.bitAnd h (b * 2 ^ n) = 0 := by
    obtain ⟨x, rfl⟩ := Int.eq_ofNat_of_zero_le h0
    obtain ⟨y, rfl⟩ := Int.eq_ofNat_of_zero_le hb
    have h1' : x < 2 ^ n := by exact_mod_cast h1
    have e2 : ((y : Int) * 2 ^ n) = ((y * 2 ^ n : Nat) : Int) := by rw [Int.natCast_mul, Int.natCast_pow]; rfl
    rw [e2]
    show ((x &&& (y * 2 ^ n) : Nat) : Int) = 0
    have : x &&& (y * 2 ^ n) = 0 := by
      apply Nat.eq_of_testBit_eq
      intro i
      rw [Nat.testBit_and, Nat.zero_testBit, Nat.testBit_mul_two_pow]
      by_cases q : i < n
      · have : decide (i ≥ n) = false := by simp; omega
        rw [this]; simp
      · rw [Nat.testBit_lt_two_pow (Nat.lt_of_lt_of_le h1' (Nat.pow_le_pow_right (by decide) (by omega)))]; simp
    rw [this]; rfl
  rw [bitOr_and, e]; omega
theorem pow_toNat_add {a b : Int} (ha : 0 ≤ a) (hb : 0 ≤ b) : (a + b).toNat = a.toNat + b.toNat := Int.toNat_add ha hb
theorem drop_getD {ks : List Int} {n : Nat} (h : n < ks.length) : ks.drop n = ks.getD n 0 :: ks.drop (n + 1) := by
  rw [List.drop_eq_getElem_cons h]
  congr 1
  rw [List.getD_eq_getElem?_getD, List.getElem?_eq_getElem h]; rfl
theorem join_lt {h b : Int} {n : Nat} (h0 : 0 ≤ h) (h1 : h < 2 ^ n) (b0 : 0 ≤ b) {j : Nat} (b1 : b < 2 ^ j) : 0 ≤ h + b * 2 ^ n ∧ h + b * 2 ^ n < 2 ^ (n + j) := by
  have p := two_pos n
  refine ⟨Int.add_nonneg h0 (Int.mul_nonneg b0 (Int.le_of_lt p)), ?_⟩
  rw [Int.pow_add]
  have : (b + 1) * 2 ^ n ≤ 2 ^ j * 2 ^ n := Int.mul_le_mul_of_nonneg_right (by omega) (Int.le_of_lt p)
  rw [Int.add_mul, Int.one_mul] at this
  rw [Int.mul_comm (2 ^ n)]
  omega
theorem stepL {ks : List Int} {held count at_ : Int} (a0 : 0 ≤ at_) (a1 : at_ < ks.length) (h0 : 0 ≤ held) (hh : held < 2 ^ count.toNat) (c0 : 0 ≤ count) (k0 : 0 ≤ ks.getD at_.toNat 0) (k1 : ks.getD at_.toNat 0 < 256) :
    0 ≤ Builtin.bitOr held (ks.getD at_.toNat 0 * 2 ^ count.toNat) ∧ Builtin.bitOr held (ks.getD at_.toNat 0 * 2 ^ count.toNat) < 2 ^ (count + 8).toNat ∧
      rowL held count.toNat ++ bitsL (ks.drop at_.toNat) = rowL (Builtin.bitOr held (ks.getD at_.toNat 0 * 2 ^ count.toNat)) (count + 8).toNat ++ bitsL (ks.drop (at_ + 1).toNat) := by
  rw [bitOr_join h0 hh k0, pow_toNat_add c0 (by decide), pow_toNat_add a0 (by decide)]
  have z := join_lt h0 hh k0 (j := 8) (by simpa using k1)
  refine ⟨z.1, z.2, ?_⟩
  show _ = rowL _ (count.toNat + 8) ++ bitsL (ks.drop (at_.toNat + 1))
  rw [rowL_join h0 hh, drop_getD (by omega : at_.toNat < ks.length), List.append_assoc]
  rfl
theorem cutL {held count c : Int} (h0 : 0 ≤ held) (hh : held < 2 ^ count.toNat) (c0 : 0 ≤ c) (cc : c ≤ count) :
    0 ≤ held % 2 ^ c.toNat ∧ held % 2 ^ c.toNat < 2 ^ c.toNat ∧ 0 ≤ held.fdiv (2 ^ c.toNat) ∧ held.fdiv (2 ^ c.toNat) < 2 ^ (count - c).toNat ∧
      rowL held count.toNat = rowL (held % 2 ^ c.toNat) c.toNat ++ rowL (held.fdiv (2 ^ c.toNat)) (count - c).toNat := by
  have p := two_pos c.toNat
  rw [Int.fdiv_eq_ediv_of_nonneg _ (Int.le_of_lt p)]
  have e : count.toNat = c.toNat + (count - c).toNat := by omega
  refine ⟨Int.emod_nonneg _ (Int.ne_of_gt p), Int.emod_lt_of_pos _ p, Int.ediv_nonneg h0 (Int.le_of_lt p), ?_, ?_⟩
  · rw [e, Int.pow_add, Int.mul_comm] at hh
    exact Int.ediv_lt_of_lt_mul p hh
  · rw [e, rowL_split, rowL_mod]
theorem stepH {ks : List Int} {held count at_ : Int} (a0 : 0 ≤ at_) (a1 : at_ < ks.length) (h0 : 0 ≤ held) (hh : held < 2 ^ count.toNat) (c0 : 0 ≤ count) (k0 : 0 ≤ ks.getD at_.toNat 0) (k1 : ks.getD at_.toNat 0 < 256) :
    0 ≤ Builtin.bitOr (held * 2 ^ 8) (ks.getD at_.toNat 0) ∧ Builtin.bitOr (held * 2 ^ 8) (ks.getD at_.toNat 0) < 2 ^ (count + 8).toNat ∧
      rowH held count.toNat ++ bitsH (ks.drop at_.toNat) = rowH (Builtin.bitOr (held * 2 ^ 8) (ks.getD at_.toNat 0)) (count + 8).toNat ++ bitsH (ks.drop (at_ + 1).toNat) := by
  have k1' : ks.getD at_.toNat 0 < 2 ^ 8 := k1
  rw [bitOr_comm, bitOr_join k0 k1' h0, pow_toNat_add c0 (by decide), pow_toNat_add a0 (by decide)]
  have z := join_lt k0 k1' h0 hh
  rw [Nat.add_comm] at z
  refine ⟨z.1, z.2, ?_⟩
  show _ = rowH _ (count.toNat + 8) ++ bitsH (ks.drop (at_.toNat + 1))
  rw [Int.add_comm (ks.getD _ _), rowH_join k0 k1', drop_getD (by omega : at_.toNat < ks.length), List.append_assoc]
  rfl
theorem cutH {held count c : Int} (h0 : 0 ≤ held) (hh : held < 2 ^ count.toNat) (c0 : 0 ≤ c) (cc : c ≤ count) :
    0 ≤ held.fdiv (2 ^ (count - c).toNat) ∧ held.fdiv (2 ^ (count - c).toNat) < 2 ^ c.toNat ∧ 0 ≤ held % 2 ^ (count - c).toNat ∧ held % 2 ^ (count - c).toNat < 2 ^ (count - c).toNat ∧
      rowH held count.toNat = rowH (held.fdiv (2 ^ (count - c).toNat)) c.toNat ++ rowH (held % 2 ^ (count - c).toNat) (count - c).toNat := by
  have p := two_pos (count - c).toNat
  rw [Int.fdiv_eq_ediv_of_nonneg _ (Int.le_of_lt p)]
  have e : count.toNat = c.toNat + (count - c).toNat := by omega
  refine ⟨Int.ediv_nonneg h0 (Int.le_of_lt p), ?_, Int.emod_nonneg _ (Int.ne_of_gt p), Int.emod_lt_of_pos _ p, ?_⟩
  · rw [e, Int.pow_add] at hh
    exact Int.ediv_lt_of_lt_mul p hh
  · rw [e, rowH_split]
theorem lt48 {h : Int} {n : Nat} (hn : n ≤ 48) (hh : h < 2 ^ n) : h < 281474976710656 :=
  Int.lt_of_lt_of_le hh (by
    have : (2 : Nat) ^ n ≤ 2 ^ 48 := Nat.pow_le_pow_right (by decide) hn
    have e : ((2 ^ n : Nat) : Int) = (2 : Int) ^ n := by rw [Int.natCast_pow]; rfl
    rw [← e]
    exact Int.ofNat_le.mpr (Nat.le_trans this (by decide)))
theorem clip_in {n : Nat} {i : Int} (h0 : 0 ≤ i) (h1 : i ≤ n) : clipAt n i = i.toNat := by
  obtain ⟨k, rfl⟩ := Int.eq_ofNat_of_zero_le h0
  rw [clipAt_nat]
  omega
theorem bInts_push (b : Array UInt8) {i : Int} (h0 : 0 ≤ i) (h1 : i < 256) : KBw.bInts (b.push i.toNat.toUInt8) = KBw.bInts b ++ [i] := by
  unfold KBw.bInts
  rw [Array.toList_push, List.map_append]
  congr 1
  simp only [List.map_cons, List.map_nil]
  congr 1
  have e : (i.toNat.toUInt8).toNat = i.toNat % 256 := by first | rfl | simp
  rw [e, Nat.mod_eq_of_lt (by omega)]
  omega
theorem bitsL_append (a b : List Int) : bitsL (a ++ b) = bitsL a ++ bitsL b := by simp [bitsL]
theorem bitsH_append (a b : List Int) : bitsH (a ++ b) = bitsH a ++ bitsH b := by simp [bitsH]
theorem emitL {b : Array UInt8} {held count : Int} (h0 : 0 ≤ held) (hh : held < 2 ^ count.toNat) (c8 : 8 ≤ count) :
    0 ≤ held.fdiv (2 ^ (8 : Int).toNat) ∧ held.fdiv (2 ^ (8 : Int).toNat) < 2 ^ (count - 8).toNat ∧
      bitsL (KBw.bInts (b.push (held % 2 ^ (8 : Int).toNat).toNat.toUInt8)) ++ rowL (held.fdiv (2 ^ (8 : Int).toNat)) (count - 8).toNat = bitsL (KBw.bInts b) ++ rowL held count.toNat := by
  have z := cutL (c := 8) h0 hh (by decide) c8
  refine ⟨z.2.2.1, z.2.2.2.1, ?_⟩
  rw [bInts_push b z.1 z.2.1, z.2.2.2.2, bitsL_append, List.append_assoc]
  simp [bitsL]
theorem emitH {b : Array UInt8} {held count : Int} (h0 : 0 ≤ held) (hh : held < 2 ^ count.toNat) (c8 : 8 ≤ count) :
    0 ≤ held.fdiv (2 ^ (count - 8).toNat) ∧ held.fdiv (2 ^ (count - 8).toNat) < 256 ∧ 0 ≤ held % 2 ^ (count - 8).toNat ∧ held % 2 ^ (count - 8).toNat < 2 ^ (count - 8).toNat ∧
      bitsH (KBw.bInts (b.push (held.fdiv (2 ^ (count - 8).toNat)).toNat.toUInt8)) ++ rowH (held % 2 ^ (count - 8).toNat) (count - 8).toNat = bitsH (KBw.bInts b) ++ rowH held count.toNat := by
  have z := cutH (c := 8) h0 hh (by decide) c8
  refine ⟨z.1, z.2.1, z.2.2.1, z.2.2.2.1, ?_⟩
  rw [bInts_push b z.1 z.2.1, z.2.2.2.2, bitsH_append, List.append_assoc]
  simp [bitsH]
theorem lt256 {h : Int} {n : Nat} (hn : n ≤ 8) (hh : h < 2 ^ n) : h < 256 :=
  Int.lt_of_lt_of_le hh (by
    have : (2 : Nat) ^ n ≤ 2 ^ 8 := Nat.pow_le_pow_right (by decide) hn
    have e : ((2 ^ n : Nat) : Int) = (2 : Int) ^ n := by rw [Int.natCast_pow]; rfl
    rw [← e]
    exact Int.ofNat_le.mpr (Nat.le_trans this (by decide)))
theorem pad_lt {held count : Int} (h0 : 0 ≤ held) (hh : held < 2 ^ count.toNat) (c0 : 0 ≤ count) (c8 : count ≤ 8) : 0 ≤ held * 2 ^ (8 - count).toNat ∧ held * 2 ^ (8 - count).toNat < 256 := by
  have p := two_pos (8 - count).toNat
  refine ⟨Int.mul_nonneg h0 (Int.le_of_lt p), ?_⟩
  have : held * 2 ^ (8 - count).toNat < 2 ^ count.toNat * 2 ^ (8 - count).toNat := Int.mul_lt_mul_of_pos_right hh p
  rw [← Int.pow_add, show count.toNat + (8 - count).toNat = 8 by omega] at this
  exact this
theorem bInts_app1 (b : Array UInt8) {i : Int} (h0 : 0 ≤ i) (h1 : i < 256) : KBw.bInts (b ++ #[i.toNat.toUInt8]) = KBw.bInts b ++ [i] := by
  rw [← bInts_push b h0 h1, Array.push_eq_append]
end
section -- Mt2
set_option linter.unusedVariables false
theorem bitAnd_one (x : Int) : Builtin.bitAnd x 1 = x % 2 := kbt_mask x 1
theorem row_map (v c : Int) : List.map (fun k' : Int => Builtin.bitAnd (v.fdiv (2 ^ k'.toNat)) 1) (rangeKs 0 (c - 0).toNat) = rowL v c.toNat := by
  unfold rangeKs rowL
  rw [Int.sub_zero, List.map_map]
  apply List.map_congr_left
  intro i _
  show Builtin.bitAnd (v.fdiv (2 ^ (0 + (i : Int)).toNat)) 1 = _
  rw [bitAnd_one, Int.zero_add, Int.toNat_natCast, Int.fdiv_eq_ediv_of_nonneg _ (Int.le_of_lt (two_pos i))]
theorem row_false {vs : List Value} {v c : Int} (h : IntsAre vs (List.map (fun k' => Builtin.bitAnd (v.fdiv (2 ^ k'.toNat)) 1) (rangeKs 0 (c - 0).toNat))) : IntsAre vs (row false v c.toNat) := by
  rw [row_map] at h; exact h
theorem row_true {vs : List Value} {v c : Int} (h : IntsAre vs (List.map (fun k' => Builtin.bitAnd (v.fdiv (2 ^ k'.toNat)) 1) (rangeKs 0 (c - 0).toNat)).reverse) : IntsAre vs (row true v c.toNat) := by
  rw [row_map] at h; exact h
def numL : List Int → Int
  | [] => 0
  | b :: r => b + 2 * numL r
def num (hi : Bool) (l : List Int) : Int := if hi then numL l.reverse else numL l
theorem numL_row (v : Int) (n : Nat) : numL (rowL v n) = v % 2 ^ n := by
  induction n generalizing v with
  | zero => show (0 : Int) = v % 1; omega
  | succ n ih =>
    rw [Nat.add_comm, rowL_split]
    show v / 2 ^ 0 % 2 + 2 * numL (rowL (v / 2 ^ 1) n) = _
    rw [ih, Int.pow_zero, Int.ediv_one, Int.pow_add]
    show v % 2 + 2 * (v / 2 % 2 ^ n) = v % (2 * 2 ^ n)
    have p := two_pos n
    have e1 := Int.emod_add_mul_ediv v 2
    have e2 := Int.emod_add_mul_ediv (v / 2) (2 ^ n)
    have e3 : v / (2 * 2 ^ n) = v / 2 / 2 ^ n := (Int.ediv_ediv_of_nonneg (by decide)).symm
    have e4 := Int.emod_add_mul_ediv v (2 * 2 ^ n)
    rw [e3, Int.mul_assoc] at e4
    have : 2 * (v / 2 % 2 ^ n + 2 ^ n * (v / 2 / 2 ^ n)) = 2 * (v / 2) := by rw [e2]
    rw [Int.mul_add] at this
    omega
theorem num_row (hi : Bool) {v : Int} {n : Nat} (h0 : 0 ≤ v) (h1 : v < 2 ^ n) : num hi (row hi v n) = v := by
  cases hi
  · show numL (rowL v n) = v
    rw [numL_row, Int.emod_eq_of_lt h0 h1]
  · show numL (rowL v n).reverse.reverse = v
    rw [List.reverse_reverse, numL_row, Int.emod_eq_of_lt h0 h1]
def foldB (l : List Int) : Int := l.foldl (fun v b => 2 * v + b) 0
theorem foldB_snoc (l : List Int) (b : Int) : foldB (l ++ [b]) = 2 * foldB l + b := by simp [foldB]
theorem foldB_eq (l : List Int) : foldB l = numL l.reverse := by
  have : ∀ k : List Int, foldB k.reverse = numL k := fun k => by
    induction k with
    | nil => rfl
    | cons b k ih => rw [List.reverse_cons, foldB_snoc, ih]; show _ = b + 2 * numL k; omega
  have z := this l.reverse
  rwa [List.reverse_reverse] at z
theorem intsAre_get {vs : List Value} {ns : List Int} (h : IntsAre vs ns) : ∀ i (hi : i < vs.length) (hj : i < ns.length), ∃ t, vs[i] = .int ns[i] t := by
  induction h with
  | nil => intro i hi; exact absurd hi (by simp)
  | cons n t h ih =>
    intro i hi hj
    cases i with
    | zero => exact ⟨_, rfl⟩
    | succ i => exact ih i (by simpa using hi) (by simpa using hj)
theorem fr_congr {g h : Heap} {L : Addr} {m m' : PySem.Str → Option Value} (F : Fr g L h m) (e : ∀ y, m y = m' y) : Fr g L h m' := by rw [← funext e]; exact F
end
section -- Mt3
set_option linter.unusedVariables false
def Bits (l : List Int) : Prop := ∀ b ∈ l, 0 ≤ b ∧ b ≤ 1
theorem numL_bound : ∀ {l : List Int}, Bits l → 0 ≤ numL l ∧ numL l < 2 ^ l.length
  | [], _ => ⟨Int.le_refl _, by decide⟩
  | b :: r, h => by
    have z := numL_bound (l := r) fun x hx => h x (.tail _ hx)
    have y := h b (.head _)
    show 0 ≤ b + 2 * numL r ∧ b + 2 * numL r < 2 ^ (r.length + 1)
    rw [Int.pow_succ]
    omega
theorem num_bound {hi : Bool} {l : List Int} (h : Bits l) (hl : l.length ≤ 8) : 0 ≤ num hi l ∧ num hi l < 256 := by
  have k : ∀ {l : List Int}, Bits l → l.length ≤ 8 → 0 ≤ numL l ∧ numL l < 256 := fun {l} h hl => by
    have z := numL_bound h
    exact ⟨z.1, lt256 hl z.2⟩
  cases hi
  · exact k h hl
  · exact k (l := l.reverse) (fun b hb => h b (List.mem_reverse.mp hb)) (by rw [List.length_reverse]; exact hl)
def octsOf (hi : Bool) (l : List Int) : List Int := (List.range (l.length / 8)).map fun i => num hi ((l.drop (8 * i)).take 8)
def filled (l : List Int) : List Int := l ++ List.replicate ((-(l.length : Int)) % 8).toNat 0
theorem bits_take {l : List Int} (h : Bits l) (a b : Nat) : Bits ((l.drop a).take b) := fun x hx => h x (List.mem_of_mem_drop (List.mem_of_mem_take hx))
theorem bits_filled {l : List Int} (h : Bits l) : Bits (filled l) := fun x hx => by
  rcases List.mem_append.mp hx with q | q
  · exact h x q
  · rw [List.eq_of_mem_replicate q]; decide
theorem octs_in {hi : Bool} {l : List Int} (h : Bits l) : ∀ n ∈ octsOf hi l, 0 ≤ n ∧ n < 256 := fun n hn => by
  obtain ⟨i, _, rfl⟩ := List.mem_map.mp hn
  exact num_bound (bits_take h _ _) (by rw [List.length_take]; omega)
theorem slice8 {ks : List Int} {q i : Nat} (hq : ks.length = 8 * q) (hi : i < q) :
    List.take (min (0 + (i : Int) * 8 + 8).toNat ks.length - (0 + (i : Int) * 8).toNat) (List.drop (0 + (i : Int) * 8).toNat ks) = (ks.drop (8 * i)).take 8 := by
  rw [show (0 + (i : Int) * 8).toNat = 8 * i by omega, show min (0 + (i : Int) * 8 + 8).toNat ks.length - 8 * i = 8 by omega]
theorem octs_bits {hi : Bool} : ∀ {ks : List Int}, (∀ k ∈ ks, 0 ≤ k ∧ k < 256) → octsOf hi (bits hi ks) = ks := by
  intro ks
  induction ks with
  | nil => intro _; simp [octsOf, bits]
  | cons k r ih =>
    intro h
    have hk := h k (.head _)
    have z := ih fun x hx => h x (.tail _ hx)
    have e : bits hi (k :: r) = row hi k 8 ++ bits hi r := rfl
    have l8 : (row hi k 8).length = 8 := row_length ..
    have hl : (bits hi (k :: r)).length / 8 = (bits hi r).length / 8 + 1 := by rw [e, List.length_append, l8]; omega
    unfold octsOf at z ⊢
    rw [hl, List.range_succ_eq_map, List.map_cons, List.map_map]
    congr 1
    · show num hi ((List.drop 0 (bits hi (k :: r))).take 8) = k
      rw [List.drop_zero, e, List.take_append_of_le_length (by omega), List.take_of_length_le (by omega)]
      exact num_row hi hk.1 hk.2
    · conv => rhs; rw [← z]
      apply List.map_congr_left
      intro i _
      show num hi ((List.drop (8 * (i + 1)) (bits hi (k :: r))).take 8) = _
      rw [e, List.drop_append, l8, show 8 * (i + 1) - 8 = 8 * i by omega, List.drop_of_length_le (by omega), List.nil_append]
end
section -- Wr
set_option maxRecDepth 100000
set_option maxHeartbeats 4000000
set_option linter.unusedVariables false
open Sem (wp)
section
variable {b : Bool} {prog : Program} {w : World} {A₀ A : Around} {s : Shared} {base h₀ : Heap} {outer : List Env} {L : Addr} {m : PySem.Str → Option Value} {env : Env} {news : List (Addr × Obj)} {K : Frag}
  {R : Result → Shared → Prop} {name qual : PySem.Str} {params : Arguments} {body : List Stmt} {scope : Scope} {dV kV doc pm cdv ct oc : Value} {an od : Option Addr} {osl : Array (Option Value)} {f : Addr} {args : Args} {binds : List (PySem.Str × Value)}
  {p : Program} {loose : List PySem.Str} {mean : ExcName → Option Value} {mg mb : PySem.Str → Option Value}
theorem code_defM (B : Below A₀ base outer h₀) (F : Fr h₀ L s.heap m) (X₀ : K.In h₀) (N : News h₀ L s.heap news) (T : Top p loose mean mg mb h₀) (hA : A.frames = some (env :: outer)) (hf : env.frame = some L) (hke : env.scope.kind = .function)
    (ho : K.lookup f = some ⟨oc, od, .func (fnOf name qual params body scope dV kV doc pm an cdv ct), osl⟩) (hcd : codeIn K cdv qual = true) (hroom : A.depth < recursionLimit)
    (hbind : BindsTo s (fnOf name qual params body scope dV kV doc pm an cdv ct) args binds) (hloc : ∀ y ∈ binds, scope.names.lookup y.1 = some .local)
    (h : ∀ g L' h₁ tk, Fr h₀ L g m → Fr g L' h₁ (fun y => binds.reverse.lookup y) → News g L' h₁ news → Below A base (env :: outer) g → K.In g → Top p loose mean mg mb g →
      wpM b (model prog w) (A.deeper (envOf qual scope L' f cdv)) (execs body (envOf qual scope L' f cdv))
        (fun fl s' => LeaveK h₀ L m g R (match fl with | .ret v => v | _ => .none) s')
        (fun e s' => wpAny (model prog w) (A.deeper (envOf qual scope L' f cdv)) (leaving (envOf qual scope L' f cdv) e) (fun _ s'' => R (.error e) s'') (fun e' s'' => R (.error e') s'') s')
        { s with heap := h₁, toks := tk })
    (hco : scope.isCoroutine = false) (hgen : scope.isGenerator = false) (hk : scope.kind = .function)
    (hcell : ∀ x ∈ scope.names, x.2 ≠ .cell) : codeM b (model prog w) A (.call (.ref f) args) R s :=
  enterM_plain (fun g v s' => LeaveK h₀ L m g R v s') B F X₀ N T hA hf hke ho hcd hroom hbind hloc (lvK B F N hA hf hke) (fun g L' h₁ _ FG F' N' B' X' T' _ => h g L' h₁ _ FG F' N' B' X' T') hco hgen hk hcell
end
end
section -- Fr2
set_option maxRecDepth 100000
set_option maxHeartbeats 4000000
set_option linter.unusedVariables false
open Sem (wp)
abbrev rgO (x left : Int) : Obj := { cls := .type "range_iterator", dict := none, data := .fields #[rawInt x, rawInt left, rawInt 1], slots := #[] }
theorem fr_ext2 {g h h' : Heap} {L d : Addr} {m : PySem.Str → Option Value} (F : Fr g L h m) (hs : Heap.ExtBut d h h') (hL : d ≠ L) (hn : g.get? d = none) : Fr g L h' m := by
  obtain ⟨oL, a1, a2, hoL, a3⟩ := F.ns
  refine ⟨⟨oL, a1, a2, hs _ _ hL.symm hoL, a3⟩, fun b x e => hs b x ?_ (F.keep b x e), F.above⟩
  rintro rfl
  rw [hn] at e
  cases e
/- A for over range(n), one local name as its target. -/
section
variable {b : Bool} {prog : Program} {w : World} {A : Around} {E : Value → Shared → Prop} {s : Shared} {g : Heap} {L a : Addr} {m : PySem.Str → Option Value} {name : PySem.Str} {scope : Scope} {cd : Value} {r : Addr} {n : Nat} {ch rest : List (Addr × Obj)} {t u v : Tok} {e : Int}
theorem forRangeM {x : PySem.Str} {px : Pos} {body : List Stmt} {Q : Flow → Shared → Prop} (J : Nat → (PySem.Str → Option Value) → List (Addr × Obj) → Prop) (hh : A.handled = none) (hr : IsRange s.heap r 0 e 1 t u v) (he : e = (n : Int)) (hsm : e < 2 ^ 62)
    (F : Fr g L s.heap m) (N : News g L s.heap (ch ++ rest)) (hJ : J 0 m ch)
    (hc : ∀ i m ch, J i m ch → ∀ p ∈ ch, p.2.cls ≠ .type "range_iterator")
    (turn : ∀ i (hi : i < n) it io m ch h tk tv, J i m ch → Fr g L h (fun y => if y = x then some (.int (i : Int) tv) else m y) → News g L h (ch ++ ((it, io) :: rest)) →
      wpM b (model prog w) A (execs body (envOf name scope L a cd)) (fun f s₃ => match f with
        | .next => ∃ m' ch' h' tk', s₃ = { s with heap := h', toks := tk' } ∧ J (i + 1) m' ch' ∧ Fr g L h' m' ∧ News g L h' (ch' ++ ((it, io) :: rest))
        | .ret v => Q (.ret v) s₃
        | _ => False) (fun _ _ => False) { s with heap := h, toks := tk })
    (done : ∀ m ch h tk, J n m ch → Fr g L h m → News g L h (ch ++ rest) → Q .next { s with heap := h, toks := tk })
    (hk : scope.kind = .function := by rfl) (hx : (envOf name scope L a cd).kindOf x = some .local := by rfl) :
    wpAny (model prog w) A (pyIter (.ref r)) (fun it s₂ => wpM b (model prog w) A (runOwn (.forLoop (.Name x px) it body [] (envOf name scope L a cd)) (envOf name scope L a cd)) Q E s₂) E s := by
  obtain ⟨hp, gn, dr, tk, os⟩ := s
  dsimp only at F N hr
  subst he
  have hsz : Builtin.Range.rangeSize 0 (n : Int) 1 = (n : Int) := by rw [rangeSize_nat]; omega
  refine wpAny_pyIter_range hr (small_one (by decide) (by decide) (by omega) hsm) ?_
  rw [hsz]
  dsimp only
  have ne0 : ∀ p ∈ ch ++ rest, p.1 ≠ hp.objs.size := fun p hq => Nat.ne_of_lt (Heap.lt_size (N p hq).1)
  have nr : ∀ p ∈ rest, p.1 ≠ hp.objs.size := fun p hq => ne0 p (List.mem_append.mpr (.inr hq))
  have F1 := F.push (rgO 0 n)
  have N0 := N.push F (rgO 0 n)
  have N1 : News g L (hp.push (rgO 0 n)) (ch ++ ((hp.objs.size, rgO 0 n) :: rest)) := fun p hq => N0 p (by
    simp only [List.mem_append, List.mem_cons] at hq ⊢
    rcases hq with h | h | h
    · exact .inr (.inl h)
    · exact .inl h
    · exact .inr (.inr h))
  refine forLoopM (fun k s' => ∃ (i : Nat) (m : PySem.Str → Option Value) (ch : List (Addr × Obj)) (h : Heap) (tk' : Nat) (xi li : Int), xi = (i : Int) ∧ li = (n : Int) - i ∧ k = n - i ∧ i ≤ n ∧ s' = ⟨h, gn, dr, tk', os⟩ ∧ J i m ch ∧ Fr g L h m ∧ News g L h (ch ++ ((hp.objs.size, rgO xi li) :: rest))) (n - 0)
    ⟨0, m, ch, _, _, 0, n, rfl, by omega, rfl, Nat.zero_le _, rfl, hJ, F1, N1⟩ ?_
  rintro k s' ⟨i, m, ch, h, tk', xi, li, rfl, rfl, rfl, hi, rfl, hJ, F, N⟩
  have hIt := N (hp.objs.size, rgO i ((n : Int) - i)) (List.mem_append.mpr (.inr (.head _)))
  have nc : ∀ p ∈ ch, p.1 ≠ hp.objs.size := fun p hq e => by
    have z := (N p (List.mem_append.mpr (.inl hq))).1
    have := hc _ _ _ hJ p hq
    rw [e, hIt.1] at z
    have z := Option.some.inj z
    exact this (by rw [← z])
  by_cases q : i < n
  · refine wpAny_pyNext_range_item (x := (i : Int)) (left := (n : Int) - i) (step := 1) hIt.1 (by omega) fun h' hit hs => ?_
    have F2 := F.change hs hIt.2.1 hIt.2.2
    have N2 := news_set N nc nr hs hit
    dsimp only
    refine wpAny_of_eq (a := ()) rfl ?_
    refine PyProof.Rows.assign_Name ?_
    refine stN (s := ⟨h', gn, dr, _, os⟩) F2 N2 (fun h3 F3 N3 => ?_) hk hx
    refine wpR_mono (turn i q _ _ m ch h3 _ _ hJ F3 N3) (fun f s₃ z => ?_) fun _ _ z => z
    cases f with
    | next =>
      obtain ⟨m', ch', h4, tk4, rfl, j, F4, N4⟩ := z
      exact ⟨_, by omega, i + 1, m', ch', h4, tk4, _, _, by omega, by omega, rfl, q, rfl, j, F4, N4⟩
    | ret v => exact z
    | cont => exact z
    | brk => exact z
  · obtain rfl : i = n := by omega
    refine wpAny_pyNext_range_end (x := (i : Int)) (left := (i : Int) - i) (step := 1) hh hIt.1 (by omega) fun h' hs => ?_
    refine done m ch h' tk' hJ (fr_ext2 F hs hIt.2.1 hIt.2.2) fun p hq => ?_
    have z := N p (by
      rcases List.mem_append.mp hq with q | q
      · exact List.mem_append.mpr (.inl q)
      · exact List.mem_append.mpr (.inr (.tail _ q)))
    exact ⟨hs _ _ (by
      rcases List.mem_append.mp hq with q | q
      · exact nc _ q
      · exact nr _ q) z.1, z.2⟩
end
end
section -- Fo
set_option maxRecDepth 100000
set_option maxHeartbeats 4000000
set_option linter.unusedVariables false
open Sem (wp)
def IsIt (io : Obj) (l : Addr) (i : Nat) : Prop := io.cls = .type "list_iterator" ∧ io.data = .fields #[.ref l, .int i 0]
abbrev itO (l : Addr) (i : Nat) : Obj := { cls := .type "list_iterator", data := .fields #[.ref l, .int i 0] }

theorem fr_ext {g h h' : Heap} {L d : Addr} {m : PySem.Str → Option Value} (F : Fr g L h m) (hs : Heap.ExtBut d h h') (hL : d ≠ L) (hn : g.get? d = none) : Fr g L h' m := by
  obtain ⟨oL, a1, a2, hoL, a3⟩ := F.ns
  refine ⟨⟨oL, a1, a2, hs _ _ hL.symm hoL, a3⟩, fun b x e => hs b x ?_ (F.keep b x e), F.above⟩
  rintro rfl
  rw [hn] at e
  cases e
/- A for over a list of the ledger, one local name as its target. -/
section
variable {b : Bool} {prog : Program} {w : World} {A : Around} {E : Value → Shared → Prop} {s : Shared} {g : Heap} {L a : Addr} {m : PySem.Str → Option Value} {name : PySem.Str} {scope : Scope} {cd : Value} {l : Addr} {vs : List Value} {n : Nat} {ch rest : List (Addr × Obj)}
theorem forListM {x : PySem.Str} {px : Pos} {body : List Stmt} {Q : Flow → Shared → Prop} (J : Nat → (PySem.Str → Option Value) → List (Addr × Obj) → Prop) (hh : A.handled = none)
    (F : Fr g L s.heap m) (N : News g L s.heap (ch ++ rest)) (hJ : J 0 m ch)
    (hl : ∀ i m ch, J i m ch → (l, W.listOf vs.toArray n) ∈ ch ++ rest) (hc : ∀ i m ch, J i m ch → ∀ p ∈ ch, p.2.cls ≠ .type "list_iterator")
    (turn : ∀ i (hi : i < vs.length) it io m ch h tk, IsIt io l (i + 1) → J i m ch → Fr g L h (fun y => if y = x then some vs[i] else m y) → News g L h (ch ++ ((it, io) :: rest)) →
      wpM b (model prog w) A (execs body (envOf name scope L a cd)) (fun f s₃ => match f with
        | .next => ∃ m' ch' h' tk', s₃ = { s with heap := h', toks := tk' } ∧ J (i + 1) m' ch' ∧ Fr g L h' m' ∧ News g L h' (ch' ++ ((it, io) :: rest))
        | .ret v => Q (.ret v) s₃
        | _ => False) (fun _ _ => False) { s with heap := h, toks := tk })
    (done : ∀ m ch h tk, J vs.length m ch → Fr g L h m → News g L h (ch ++ rest) → Q .next { s with heap := h, toks := tk })
    (hk : scope.kind = .function := by rfl) (hx : (envOf name scope L a cd).kindOf x = some .local := by rfl) :
    wpAny (model prog w) A (pyIter (.ref l)) (fun it s₂ => wpM b (model prog w) A (runOwn (.forLoop (.Name x px) it body [] (envOf name scope L a cd)) (envOf name scope L a cd)) Q E s₂) E s := by
  obtain ⟨hp, gn, dr, tk, os⟩ := s
  dsimp only at F N
  refine wpAny_pyIter_list ⟨_, (N _ (hl _ _ _ hJ)).1, rfl, _, rfl⟩ ?_
  dsimp only
  have ne0 : ∀ p ∈ ch ++ rest, p.1 ≠ hp.objs.size := fun p hq => Nat.ne_of_lt (Heap.lt_size (N p hq).1)
  have nr : ∀ p ∈ rest, p.1 ≠ hp.objs.size := fun p hq => ne0 p (List.mem_append.mpr (.inr hq))
  have F1 := F.push (itO l 0)
  have N0 := N.push F (itO l 0)
  have N1 : News g L (hp.push (itO l 0)) (ch ++ ((hp.objs.size, itO l 0) :: rest)) := fun p hq => N0 p (by
    simp only [List.mem_append, List.mem_cons] at hq ⊢
    rcases hq with h | h | h
    · exact .inr (.inl h)
    · exact .inl h
    · exact .inr (.inr h))
  refine forLoopM (fun k s' => ∃ i m ch h tk' io, IsIt io l i ∧ k = vs.length - i ∧ i ≤ vs.length ∧ s' = ⟨h, gn, dr, tk', os⟩ ∧ J i m ch ∧ Fr g L h m ∧ News g L h (ch ++ ((hp.objs.size, io) :: rest))) (vs.length - 0)
    ⟨0, m, ch, _, _, _, ⟨rfl, rfl⟩, rfl, Nat.zero_le _, rfl, hJ, F1, N1⟩ ?_
  rintro k s' ⟨i, m, ch, h, tk', io, ⟨io1, io2⟩, rfl, hi, rfl, hJ, F, N⟩
  have hlm := hl _ _ _ hJ
  have hL : h.get? l = some (W.listOf vs.toArray n) := (N (l, _) (by
    rcases List.mem_append.mp hlm with q | q
    · exact List.mem_append.mpr (.inl q)
    · exact List.mem_append.mpr (.inr (.tail _ q)))).1
  have hIt := N (hp.objs.size, io) (List.mem_append.mpr (.inr (.head _)))
  have nc : ∀ p ∈ ch, p.1 ≠ hp.objs.size := fun p hq e => by
    have z := (N p (List.mem_append.mpr (.inl hq))).1
    have := hc _ _ _ hJ p hq
    rw [e, hIt.1] at z
    have z := Option.some.inj z
    exact this (by rw [← z]; exact io1)
  by_cases q : i < vs.length
  · refine wpAny_pyNext_list_item ⟨_, hIt.1, io1, io2⟩ ⟨_, hL, rfl, _, rfl⟩ (x := vs[i]) (by simp [q]) fun h' hit hs => ?_
    obtain ⟨o', ho', hc', hd'⟩ := hit
    have F2 := F.change hs hIt.2.1 hIt.2.2
    have N2 := news_set N nc nr hs ho'
    dsimp only
    refine wpAny_of_eq (a := ()) rfl ?_
    refine PyProof.Rows.assign_Name ?_
    refine stN (s := ⟨h', gn, dr, tk', os⟩) F2 N2 (fun h3 F3 N3 => ?_) hk hx
    refine wpR_mono (turn i q _ o' m ch h3 _ ⟨hc', hd'⟩ hJ F3 N3) (fun f s₃ z => ?_) fun _ _ z => z
    cases f with
    | next =>
      obtain ⟨m', ch', h4, tk4, rfl, j, F4, N4⟩ := z
      exact ⟨_, by omega, i + 1, m', ch', h4, tk4, o', ⟨hc', hd'⟩, rfl, q, rfl, j, F4, N4⟩
    | ret v => exact z
    | cont => exact z
    | brk => exact z
  · obtain rfl : i = vs.length := by omega
    refine wpAny_pyNext_list_end hh ⟨_, hIt.1, io1, io2⟩ ⟨_, hL, rfl, _, rfl⟩ (by simp) fun h' hs => ?_
    refine done m ch h' tk' hJ (fr_ext F hs hIt.2.1 hIt.2.2) fun p hq => ?_
    have z := N p (by
      rcases List.mem_append.mp hq with q | q
      · exact List.mem_append.mpr (.inl q)
      · exact List.mem_append.mpr (.inr (.tail _ q)))
    exact ⟨hs _ _ (by
      rcases List.mem_append.mp hq with q | q
      · exact nc _ q
      · exact nr _ q) z.1, z.2⟩
end
end
section -- C16
set_option maxRecDepth 100000
set_option maxHeartbeats 8000000
set_option linter.unusedVariables false


theorem drop2w {h₀ h : Heap} {L : Addr} {e a : Addr × Obj} {news : List (Addr × Obj)} (N : News h₀ L h (e :: a :: news)) : News h₀ L h (e :: news) := fun p hp => N p (by
  rcases List.mem_cons.mp hp with h | h
  · subst h; exact .head _
  · exact .tail _ (.tail _ h))
theorem rowL_succ (v : Int) (n : Nat) : rowL v (n + 1) = rowL v n ++ [v / 2 ^ n % 2] := by
  unfold rowL; rw [List.range_succ, List.map_append]; rfl
theorem bits_rowL (v : Int) (n : Nat) : Bits (rowL v n) := fun b hb => by
  obtain ⟨i, _, rfl⟩ := List.mem_map.mp hb
  omega
theorem turn_bound (v : Int) {n : Nat} (hn : n ≤ 48) : 0 ≤ foldB (rowL v n) ∧ foldB (rowL v n) < 281474976710656 := by
  rw [foldB_eq]
  have z := numL_bound (l := (rowL v n).reverse) fun b hb => bits_rowL v n b (List.mem_reverse.mp hb)
  rw [List.length_reverse, rowL_length] at z
  exact ⟨z.1, lt48 hn z.2⟩
theorem turn_step (v : Int) {n : Nat} (h0 : 0 ≤ foldB (rowL v n)) : foldB (rowL v (n + 1)) = Builtin.bitOr (foldB (rowL v n) * 2 ^ (1 : Int).toNat) (Builtin.bitAnd (v.fdiv (2 ^ ((n : Int)).toNat)) 1) := by
  rw [rowL_succ, foldB_snoc, bitAnd_one, Int.toNat_natCast, Int.fdiv_eq_ediv_of_nonneg _ (Int.le_of_lt (two_pos n)), bitOr_comm]
  have z := bitOr_join (h := v / 2 ^ n % 2) (b := foldB (rowL v n)) (n := 1) (by omega) (by omega) h0
  rw [show (1 : Int).toNat = 1 from rfl, z]
  omega
section
variable {w : World} {p : Program} {loose : List PySem.Str} {mean : ExcName → Option Value} {mg mb : PySem.Str → Option Value}
  {dp un : Nat} {gd : Option (List Code)} {cn : PySem.Str} {cs : Scope} {a : Addr} {ccd : Value} {cl : List (PySem.Str × Addr)} {outer : List Env} {A₀ : Around} {base h₀ : Heap} {L : Addr} {m : PySem.Str → Option Value} {news : List (Addr × Obj)} {s : Shared} {Q E : Value → Shared → Prop}

theorem turned_c {v c : Int} {tv tc : Tok} (B : Below A₀ base outer h₀) (F : Fr h₀ L s.heap m) (X : (Mine.hd.heap_39 w.params).In h₀) (N : News h₀ L s.heap news) (T : Top p loose mean mg mb h₀) (hk : cs.kind = .function)
    (hd : dp + 12 < recursionLimit) (hu : un + 200 < cLine) (c0 : 0 ≤ c) (c1 : c ≤ 40)
    (ret : ∀ t h' tk, Fr h₀ L h' m → News h₀ L h' news → Q (.int (foldB (rowL v c.toNat)) t) { s with heap := h', toks := tk }) :
    wpAny (model Challenge.rw_nn0201_01.row.prog w) (ktrTop dp un gd cn cs L a ccd cl outer) (call (.ref 75) [.int v tv, .int c tc]) Q E s := by
  refine wpAny_call (code_of_M ?_)
  k_dflt (refine' code_defM (b := false) ?k1 ?k2 ?k3 ?k4 ?k5 ?kA ?kF ?kK ?k6 ?k7 ?k8 ?k9 ?kB ?_ ?c2 ?c3 ?c4 ?c5; (case kA => exact rfl); (case kF => exact rfl); (case kK => assumption); (case k1 => k_asm); (case k2 => k_asm); (case k3 => k_asm); (case k4 => k_asm); (case k5 => k_asm); (case k6 => k_is); (case k7 => k_is); (case k8 => ktr_room); (case k9 => first | exact BindsTo.of_eq rfl | exact binds_K (by k_in) rfl (by k_is) rfl rfl rfl); (case c5 => decide); (case kB => exact locs rfl); (case c2 => exact rfl); (case c3 => exact rfl); (case c4 => exact rfl); k_whole; intro g' L' h' tkE FG' F' N' B' X' T'; (try dsimp only); (try k_lift B'); (try k_fold))
  refine execsM_any ?_
  k_steps
  dsimp only
  refine execsM_cons (ForM ?_)
  k_steps
  refine' forRangeM (n := c.toNat) (ch := []) (rest := news) (fun i m ch => ch = [] ∧ ∃ (b0 : Option Value) (t : Tok), ∀ y, m y = if y = PySem.Str.ofString "turned" then some (.int (foldB (rowL v i)) t) else if y = PySem.Str.ofString "turn" then b0 else List.lookup y [(PySem.Str.ofString "count", Value.int c tc), (PySem.Str.ofString "value", Value.int v tv)]) rfl ?hr ?he ?hsm ?F ?N ?hJ ?hc ?turn ?done
  case hr => with_reducible assumption
  case F => k_asm
  case N => k_asm
  case he => omega
  case hsm => omega
  case hJ =>
    refine ⟨rfl, none, ?tt, fun y => ?_⟩
    rotate_left
    by_cases q : y = PySem.Str.ofString "turned"
    · simp only [q, if_true]; rfl
    · rw [if_neg q, if_neg q]
      by_cases q2 : y = PySem.Str.ofString "turn"
      · subst q2; rw [if_pos rfl]; rfl
      · rw [if_neg q2]; rfl
  case hc => rintro i m ch ⟨rfl, _⟩ p hp; exact absurd hp List.not_mem_nil
  case turn =>
    rintro i hi' it io m ch h3 tk3 tb ⟨rfl, b0, t, hm⟩ F3 N3
    have hb := turn_bound v (n := i) (by omega)
    have hb0 := hb.1
    have hb1 := hb.2
    have F4 := fr_congr (m' := fun y => if y = PySem.Str.ofString "turn" then some (.int (i : Int) tb) else if y = PySem.Str.ofString "turned" then some (.int (foldB (rowL v i)) t) else List.lookup y [(PySem.Str.ofString "count", Value.int c tc), (PySem.Str.ofString "value", Value.int v tv)]) F3 (fun y => by
      by_cases q : y = PySem.Str.ofString "turn"
      · simp only [q, if_true]
      · rw [if_neg q, if_neg q, hm y, if_neg q])
    clear F3 hm
    refine execsM_any ?_
    k_steps
    dsimp only
    refine execsM_nil ?_
    refine' ⟨_, [], _, _, rfl, ?J, ?F1, ?N1⟩
    case F1 => k_asm
    case N1 => k_asm
    refine ⟨rfl, some (.int (i : Int) tb), ?t4, fun y => ?_⟩
    rotate_left
    by_cases q : y = PySem.Str.ofString "turned"
    · simp only [q, if_true]
      rw [turn_step v hb0]
      first | rfl | trace_state
    · simp only [if_neg q]
  case done =>
    rintro m ch h3 tk3 ⟨rfl, b0, t, hm⟩ F3 N3
    have F4 := fr_congr (m' := fun y => if y = PySem.Str.ofString "turned" then some (.int (foldB (rowL v c.toNat)) t) else if y = PySem.Str.ofString "turn" then b0 else List.lookup y [(PySem.Str.ofString "count", Value.int c tc), (PySem.Str.ofString "value", Value.int v tv)]) F3 (fun y => by
      rw [hm y])
    clear F3 hm
    dsimp only
    refine execsM_any ?_
    k_steps
    exact ret _ _ _ (by k_asm) (by k_asm)
end
end
local macro_rules | `(tactic| walk_at "getMethod ref") => `(tactic| ((first | with_reducible show wpAny _ _ (getMethod _ "append" _) _ _ _ | with_reducible show wpAny _ _ (getMethod _ "extend" _) _ _ _); refine of_stop ?_))
local macro_rules | `(tactic| walk_at "call ref") => `(tactic| (k_here; (with_reducible show wpAny _ _ (call (Value.ref (OfNat.ofNat _)) _ _) _ _ _); refine of_stop ?_))
section -- C5
set_option maxRecDepth 100000
set_option maxHeartbeats 8000000
set_option linter.unusedVariables false

abbrev wrO (h1 h2 h3 : Int) (k1 k2 k3 t2 t3 : Tok) (mb_ : Addr) (held count : Int) : Obj :=
  dictOf [⟨h1, .str (PySem.Str.ofString "made") k1, .ref mb_⟩, ⟨h2, .str (PySem.Str.ofString "held") k2, .int held t2⟩, ⟨h3, .str (PySem.Str.ofString "count") k3, .int count t3⟩] 3


inductive PI_low (s : Shared) (g' : Heap) (L' x dx bb : Addr) (rest : List (Addr × Obj)) (c v : Int) (tc tv : Tok) (h1 h2 h3 : Int) (k1 k2 k3 : Tok) (b : Array UInt8) (held count : Int) (n : Nat) (s' : Shared) : Prop
  | mk (h' : Heap) (tk : Nat) (b' : Array UInt8) (held' count' : Int) (t2 t3 : Tok) (q0 : s' = { s with heap := h', toks := tk }) (q1 : n = count'.toNat) (q2 : (0 ≤ held' ∧ held' < 2 ^ count'.toNat ∧ 0 ≤ count' ∧ count' < 32 ∧ 8 * (b'.size : Int) + count' = 8 * (b.size : Int) + count + c ∧
      bitsL (KBw.bInts b') ++ rowL held' count'.toNat = bitsL (KBw.bInts b) ++ (rowL held count.toNat ++ rowL v c.toNat))) (q3 : Fr g' L' h' (fun y => List.lookup y [(PySem.Str.ofString "count", Value.int c tc), (PySem.Str.ofString "value", Value.int v tv), (PySem.Str.ofString "self", Value.ref x)])) (q4 : News g' L' h' ((x, instObj 233 dx) :: (dx, wrO h1 h2 h3 k1 k2 k3 t2 t3 bb held' count') :: (bb, baObj b') :: rest)) : PI_low s g' L' x dx bb rest c v tc tv h1 h2 h3 k1 k2 k3 b held count n s'
section
variable {w : World} {p : Program} {loose : List PySem.Str} {mean : ExcName → Option Value} {mg mb : PySem.Str → Option Value}
  {dp un : Nat} {gd : Option (List Code)} {cn : PySem.Str} {cs : Scope} {a : Addr} {ccd : Value} {cl : List (PySem.Str × Addr)} {outer : List Env} {A₀ : Around} {base h₀ : Heap} {L : Addr} {m : PySem.Str → Option Value} {rest : List (Addr × Obj)} {s : Shared} {Q E : Value → Shared → Prop}
  {h1 h2 h3 : Int} {k1 k2 k3 t2 t3 : Tok} {b : Array UInt8} {held count : Int} {x dx bb : Addr}

theorem put_low {v c : Int} {tv tc : Tok} (B : Below A₀ base outer h₀) (F : Fr h₀ L s.heap m) (X : (Mine.hd.heap_39 w.params).In h₀) (N : News h₀ L s.heap ((x, instObj 233 dx) :: (dx, wrO h1 h2 h3 k1 k2 k3 t2 t3 bb held count) :: (bb, baObj b) :: rest)) (T : Top p loose mean mg mb h₀) (hk : cs.kind = .function)
    (hd : dp + 12 < recursionLimit) (hu : un + 200 < cLine) (x1 : x ≠ dx) (x2 : x ≠ bb) (x3 : dx ≠ bb) (r1 : ∀ p ∈ rest, p.1 ≠ dx) (r2 : ∀ p ∈ rest, p.1 ≠ bb)
    (bz : b.size ≤ 100000) (h0 : 0 ≤ held) (hh : held < 2 ^ count.toNat) (c0 : 0 ≤ count) (c8 : count < 8) (cc0 : 0 ≤ c) (cc1 : c ≤ 24) (v0 : 0 ≤ v) (v1 : v < 2 ^ c.toNat)
    (ret : ∀ (b' : Array UInt8) (held' count' : Int) t2 t3 h' tk, 0 ≤ held' → held' < 2 ^ count'.toNat → 0 ≤ count' → count' < 8 → 8 * (b'.size : Int) + count' = 8 * (b.size : Int) + count + c →
      bitsL (KBw.bInts b') ++ rowL held' count'.toNat = bitsL (KBw.bInts b) ++ rowL held count.toNat ++ rowL v c.toNat →
      Fr h₀ L h' m → News h₀ L h' ((x, instObj 233 dx) :: (dx, wrO h1 h2 h3 k1 k2 k3 t2 t3 bb held' count') :: (bb, baObj b') :: rest) → Q .none { s with heap := h', toks := tk }) :
    wpR (model Challenge.rw_nn0201_01.row.prog w) (ktrTop dp un gd cn cs L a ccd cl outer) (call (.ref 202) [.ref x, .int v tv, .int c tc]) Q E s := by
  refine wpR_call ?_
  k_dflt (refine' code_defM ?k1 ?k2 ?k3 ?k4 ?k5 ?kA ?kF ?kK ?k6 ?k7 ?k8 ?k9 ?kB ?_ ?c2 ?c3 ?c4 ?c5; (case kA => exact rfl); (case kF => exact rfl); (case kK => assumption); (case k1 => k_asm); (case k2 => k_asm); (case k3 => k_asm); (case k4 => k_asm); (case k5 => k_asm); (case k6 => k_is); (case k7 => k_is); (case k8 => ktr_room); (case k9 => first | exact BindsTo.of_eq rfl | exact binds_K (by k_in) rfl (by k_is) rfl rfl rfl); (case c5 => decide); (case kB => exact locs rfl); (case c2 => exact rfl); (case c3 => exact rfl); (case c4 => exact rfl); k_whole; intro g' L' h' tkE FG' F' N' B' X' T'; (try dsimp only); (try k_lift B'); (try k_fold))
  have vb := lt48 (n := c.toNat) (by omega) v1
  refine execsM_any ?_
  (k_steps <;> repeat' ((with_reducible refine go_on ?_); (first | (with_reducible (k_here; k_dflt (refine' check_fit_ok ?B ?F ?X ?N ?T ?hk ?hd ?hu ?h0 ?h1 ?h2 ?h3 ?_; (case B => k_asm); (case F => k_asm); (case X => k_asm); (case N => k_asm); (case T => k_asm); (case hk => first | assumption | exact rfl); (case hd => first | exact n_up (by assumption) (by decide) | ktr_room); (case hu => first | exact n_up (by assumption) (by decide) | ktr_units); (case h0 => omega); (case h1 => omega); (case h2 => omega); (case h3 => assumption); k_whole); intro hC tkC FC NC)) | fail); k_steps))
  dsimp only
  refine execsM_any ?_
  k_steps
  dsimp only
  refine execsM_any ?_
  k_steps
  dsimp only
  refine execsM_cons ?_
  have z0 := join_lt h0 hh v0 (j := c.toNat) v1
  have z1 : rowL (Builtin.bitOr held (v * 2 ^ count.toNat)) (count + c).toNat = rowL held count.toNat ++ rowL v c.toNat := by
    rw [bitOr_join h0 hh v0, pow_toNat_add c0 cc0, rowL_join h0 hh]
  rw [← bitOr_join h0 hh v0, ← pow_toNat_add c0 cc0] at z0
  refine' WhileM (PI_low s g' L' x dx bb rest c v tc tv h1 h2 h3 k1 k2 k3 b held count) (count + c).toNat ?init ?turn
  case init => exact ⟨_, _, b, _, _, _, _, rfl, rfl, ⟨z0.1, z0.2, by omega, by omega, by omega, by rw [z1]⟩, by k_asm, by k_asm⟩
  case turn =>
    intro n s' hWz
    refine hideG fun Gz hGz => ?_
    obtain ⟨h', tk, b', held', count', t2, t3, rfl, rfl, ⟨i1, i2, i3, i4, i5, i6⟩, F2, N2⟩ := hWz
    refine hGz ?_
    clear hGz Gz
    have ib := lt48 (n := count'.toNat) (by omega) i2
    k_steps
    · refine execsM_cons (ExprM (MethodM ?_))
      k_steps
      refine go_on ?_
      refine getMethod_ba (N2 (bb, baObj b') (by k_mem)).1 rfl rfl ba_slot_append ba_type_append ?_
      refine callWithM_builtin rfl ?_
      refine evalArgsM_plain (splicedM_cons (wpR_any ?_))
      rw [if_neg Bool.false_ne_true]
      (k_steps <;> repeat' ((with_reducible refine go_on ?_); (first | (with_reducible (k_here; k_dflt (refine' low_bits_c ?B ?F ?X ?N ?T ?hk ?hd ?hu ?h0 ?h1 ?h2 ?_; (case B => k_asm); (case F => k_asm); (case X => k_asm); (case N => k_asm); (case T => k_asm); (case hk => first | assumption | exact rfl); (case hd => first | exact n_up (by assumption) (by decide) | ktr_room); (case hu => first | exact n_up (by assumption) (by decide) | ktr_units); (case h0 => omega); (case h1 => omega); (case h2 => omega); k_whole); intro tL hL tkL FL NL)) | fail); k_steps))
      refine wpR_pure ?_
      show wpM true _ _ (call (.builtin "bytearray.append") [.ref bb, .int (held' % 2 ^ (8 : Int).toNat) tL]) _ _ _
      have m0 : 0 ≤ held' % 2 ^ (8 : Int).toNat := Int.emod_nonneg _ (by decide)
      have m1 : held' % 2 ^ (8 : Int).toNat < 256 := Int.emod_lt_of_pos _ (by decide)
      refine append_ba_N (by k_asm) (by k_asm) (by k_dflt k_upd) m0 m1 (by rw [sizeLine_eq]; omega) fun hB FB NB => ⟨rfl, ?_⟩
      dsimp only
      refine execsM_any ?_
      k_steps
      dsimp only
      refine execsM_any ?_
      k_steps
      dsimp only
      refine execsM_nil ⟨rfl, ?_⟩
      have z := emitL (b := b') i1 i2 (by omega)
      refine' ⟨_, ?lt, _, _, b'.push (held' % 2 ^ (8 : Int).toNat).toNat.toUInt8, _, _, _, _, rfl, rfl, ?facts, ?F, ?N⟩
      case N => k_asm
      case F => k_asm
      case lt => omega
      exact ⟨z.1, z.2.1, by omega, by omega, by rw [Array.size_push]; omega, z.2.2.trans i6⟩
    · dsimp only
      refine execsM_nil ?_
      k_steps
      exact ret b' held' count' t2 t3 _ _ i1 i2 i3 (by omega) i5 (by rw [i6, List.append_assoc]) (by k_asm) (by k_asm)
end
end
section -- C7
set_option maxRecDepth 100000
set_option maxHeartbeats 8000000
set_option linter.unusedVariables false


theorem at_baL {h₀ h : Heap} {L bb : Addr} {b : Array UInt8} {news : List (Addr × Obj)} (N : News h₀ L h news) (hm : (bb, baObj b) ∈ news) : h.get? bb = some (baObj b) := (N _ hm).1
local macro_rules | `(tactic| walk_at "call builtin:len") => `(tactic| (k_here; (with_reducible show wpAny _ _ (call (Value.builtin "len") [Value.ref _]) _ _ _); refine len_ba (at_baL (by k_asm) (by k_mem)) (by omega) ?_))
local macro_rules | `(tactic| walk_at "call type:bytes") => `(tactic| (k_here; (with_reducible show wpAny _ _ (call (Value.type "bytes") [Value.ref _]) _ _ _); refine bytes_of_ba (at_baL (by k_asm) (by k_mem)) (by rw [sizeLine_eq]; omega) ?_; intro tB kB))
theorem drop1 {h₀ h : Heap} {L : Addr} {e : Addr × Obj} {news : List (Addr × Obj)} (N : News h₀ L h (e :: news)) : News h₀ L h news := fun p hp => N p (.tail _ hp)
section
variable {w : World} {p : Program} {loose : List PySem.Str} {mean : ExcName → Option Value} {mg mb : PySem.Str → Option Value}
  {dp un : Nat} {gd : Option (List Code)} {cn : PySem.Str} {cs : Scope} {a : Addr} {ccd : Value} {cl : List (PySem.Str × Addr)} {outer : List Env} {A₀ : Around} {base h₀ : Heap} {L : Addr} {m : PySem.Str → Option Value} {rest : List (Addr × Obj)} {s : Shared} {Q E : Value → Shared → Prop}
  {h1 h2 h3 : Int} {k1 k2 k3 t2 t3 : Tok} {b : Array UInt8} {held count : Int} {x dx bb : Addr}


theorem put_low_no {v c : Int} {tv tc : Tok} (B : Below A₀ base outer h₀) (F : Fr h₀ L s.heap m) (X : (Mine.hd.heap_39 w.params).In h₀) (N : News h₀ L s.heap ((x, instObj 233 dx) :: (dx, wrO h1 h2 h3 k1 k2 k3 t2 t3 bb held count) :: (bb, baObj b) :: rest)) (T : Top p loose mean mg mb h₀) (hk : cs.kind = .function)
    (hd : dp + 12 < recursionLimit) (hu : un + 200 < cLine) (x1 : x ≠ dx) (x2 : x ≠ bb) (x3 : dx ≠ bb) (r1 : ∀ p ∈ rest, p.1 ≠ dx) (r2 : ∀ p ∈ rest, p.1 ≠ bb)
    (bz : b.size ≤ 100000) (h0 : 0 ≤ held) (hh : held < 2 ^ count.toNat) (c0 : 0 ≤ count) (c8 : count < 8) (hc : c ≤ 64) (hno : c < 0 ∨ v < 0 ∨ v.fdiv (2 ^ c.toNat) ≠ 0)
    (raise : ∀ g e h' tk, Fr h₀ L g m → RaisedSN base g (envX cn cs L a ccd cl :: outer) e (.ref 59) ((x, instObj 233 dx) :: (dx, wrO h1 h2 h3 k1 k2 k3 t2 t3 bb held count) :: (bb, baObj b) :: rest) h' → g.UpToSlots h' → E (.ref e) { s with heap := h', toks := tk }) :
    wpAny (model Challenge.rw_nn0201_01.row.prog w) (ktrTop dp un gd cn cs L a ccd cl outer) (call (.ref 202) [.ref x, .int v tv, .int c tc]) Q E s := by
  refine wpAny_call ?_
  k_dflt (refine' code_def ?k1 ?k2 ?k3 ?k4 ?k5 ?kA ?kF ?kK ?k6 ?k7 ?k8 ?k9 ?kB ?_ ?c2 ?c3 ?c4 ?c5; (case kA => exact rfl); (case kF => exact rfl); (case kK => assumption); (case k1 => k_asm); (case k2 => k_asm); (case k3 => k_asm); (case k4 => k_asm); (case k5 => k_asm); (case k6 => k_is); (case k7 => k_is); (case k8 => ktr_room); (case k9 => first | exact BindsTo.of_eq rfl | exact binds_K (by k_in) rfl (by k_is) rfl rfl rfl); (case c5 => decide); (case kB => exact locs rfl); (case c2 => exact rfl); (case c3 => exact rfl); (case c4 => exact rfl); k_whole; intro g' L' h' FG' F' N' B' X' T'; (try dsimp only); (try k_lift B'); (try k_fold))
  (k_steps <;> repeat' ((with_reducible refine go_on ?_); (first | (with_reducible (k_here; k_dflt (refine' check_fit_no ?B ?F ?X ?N ?T ?hk ?hd ?hu ?hc ?hno ?_; (case B => k_asm); (case F => k_asm); (case X => k_asm); (case N => k_asm); (case T => k_asm); (case hk => first | assumption | exact rfl); (case hd => first | exact n_up (by assumption) (by decide) | ktr_room); (case hu => first | exact n_up (by assumption) (by decide) | ktr_units); (case hc => assumption); (case hno => assumption); k_whole); intro gN eN hN tkN FgN RN UN; refine' leave_onSN (by assumption) FgN RN UN ?_; intro h'' R' R1' U')) | fail); k_steps))
  refine' raise _ _ _ _ ?_ (by assumption) (by assumption) <;> assumption

theorem bit_count_c (B : Below A₀ base outer h₀) (F : Fr h₀ L s.heap m) (X : (Mine.hd.heap_39 w.params).In h₀) (N : News h₀ L s.heap ((x, instObj 233 dx) :: (dx, wrO h1 h2 h3 k1 k2 k3 t2 t3 bb held count) :: (bb, baObj b) :: rest)) (T : Top p loose mean mg mb h₀) (hk : cs.kind = .function)
    (hd : dp + 12 < recursionLimit) (hu : un + 200 < cLine) (x1 : x ≠ dx) (x2 : x ≠ bb) (x3 : dx ≠ bb) (r1 : ∀ p ∈ rest, p.1 ≠ dx) (r2 : ∀ p ∈ rest, p.1 ≠ bb)
    (bz : b.size ≤ 100000) (h0 : 0 ≤ held) (hh : held < 2 ^ count.toNat) (c0 : 0 ≤ count) (c8 : count < 8)
    (ret : ∀ t h' tk, Fr h₀ L h' m → News h₀ L h' ((x, instObj 233 dx) :: (dx, wrO h1 h2 h3 k1 k2 k3 t2 t3 bb held count) :: (bb, baObj b) :: rest) → Q (.int (8 * (b.size : Int) + count) t) { s with heap := h', toks := tk }) :
    wpAny (model Challenge.rw_nn0201_01.row.prog w) (ktrTop dp un gd cn cs L a ccd cl outer) (call (.ref 223) [.ref x]) Q E s := by
  refine wpAny_call ?_
  k_dflt (refine' code_def ?k1 ?k2 ?k3 ?k4 ?k5 ?kA ?kF ?kK ?k6 ?k7 ?k8 ?k9 ?kB ?_ ?c2 ?c3 ?c4 ?c5; (case kA => exact rfl); (case kF => exact rfl); (case kK => assumption); (case k1 => k_asm); (case k2 => k_asm); (case k3 => k_asm); (case k4 => k_asm); (case k5 => k_asm); (case k6 => k_is); (case k7 => k_is); (case k8 => ktr_room); (case k9 => first | exact BindsTo.of_eq rfl | exact binds_K (by k_in) rfl (by k_is) rfl rfl rfl); (case c5 => decide); (case kB => exact locs rfl); (case c2 => exact rfl); (case c3 => exact rfl); (case c4 => exact rfl); k_whole; intro g' L' h' FG' F' N' B' X' T'; (try dsimp only); (try k_lift B'); (try k_fold))
  k_steps
  exact ret _ _ _ (by k_asm) (by k_asm)

theorem octs_low (B : Below A₀ base outer h₀) (F : Fr h₀ L s.heap m) (X : (Mine.hd.heap_39 w.params).In h₀) (N : News h₀ L s.heap ((x, instObj 233 dx) :: (dx, wrO h1 h2 h3 k1 k2 k3 t2 t3 bb held count) :: (bb, baObj b) :: rest)) (T : Top p loose mean mg mb h₀) (hk : cs.kind = .function)
    (hd : dp + 12 < recursionLimit) (hu : un + 200 < cLine) (x1 : x ≠ dx) (x2 : x ≠ bb) (x3 : dx ≠ bb) (r1 : ∀ p ∈ rest, p.1 ≠ dx) (r2 : ∀ p ∈ rest, p.1 ≠ bb)
    (bz : b.size ≤ 100000) (h0 : 0 ≤ held) (hh : held < 2 ^ count.toNat) (c0 : 0 ≤ count) (c8 : count < 8)
    (ret : ∀ o t h' tk, KBw.bInts o = KBw.bInts b ++ (if count = 0 then [] else [held]) → Fr h₀ L h' m → News h₀ L h' ((x, instObj 233 dx) :: (dx, wrO h1 h2 h3 k1 k2 k3 t2 t3 bb held count) :: (bb, baObj b) :: rest) → Q (.bytes o t) { s with heap := h', toks := tk }) :
    wpAny (model Challenge.rw_nn0201_01.row.prog w) (ktrTop dp un gd cn cs L a ccd cl outer) (call (.ref 230) [.ref x]) Q E s := by
  have hb := lt256 (n := count.toNat) (by omega) hh
  obtain ⟨kb, hkb⟩ : ∃ kb, KBw.bInts b = kb := ⟨_, rfl⟩
  have hlb : kb.length ≤ 100000 := by rw [← hkb, KBw.ints_length]; exact bz
  rw [hkb] at ret
  refine wpAny_call ?_
  k_dflt (refine' code_def ?k1 ?k2 ?k3 ?k4 ?k5 ?kA ?kF ?kK ?k6 ?k7 ?k8 ?k9 ?kB ?_ ?c2 ?c3 ?c4 ?c5; (case kA => exact rfl); (case kF => exact rfl); (case kK => assumption); (case k1 => k_asm); (case k2 => k_asm); (case k3 => k_asm); (case k4 => k_asm); (case k5 => k_asm); (case k6 => k_is); (case k7 => k_is); (case k8 => ktr_room); (case k9 => first | exact BindsTo.of_eq rfl | exact binds_K (by k_in) rfl (by k_is) rfl rfl rfl); (case c5 => decide); (case kB => exact locs rfl); (case c2 => exact rfl); (case c3 => exact rfl); (case c4 => exact rfl); k_whole; intro g' L' h' FG' F' N' B' X' T'; (try dsimp only); (try k_lift B'); (try k_fold))
  k_steps
  · exact ret b _ _ _ (by rw [hkb, if_pos (by assumption), List.append_nil]) (by k_asm) (by k_asm)
  · exact ret _ _ _ _ (by rw [if_neg (by assumption), bInts_app1 b h0 hb, hkb]) (by k_asm) (by first | k_asm | exact drop1 (by assumption) | exact drop1 (drop1 (by assumption)))
end
end
section -- Mk
open Builtin Builtin.ObjectAttr
set_option maxRecDepth 100000
set_option maxHeartbeats 4000000
set_option linter.unusedVariables false
open Sem (wp)
section
variable {prog : Program} {w : World} {A : Around} {K : Frag} {C : Addr} {R : Result → Shared → Prop} {h : Heap} {g : Array GenState} {d : Drawn} {t : Nat} {os : OsState}
theorem make_coreR {rest : List Value} {init : Value} (Y : Makes (model prog w) h C) (hi : Looks (model prog w) h (typeLookup (.ref C) "__init__") (some init))
    (hb : ∀ self, Looks (model prog w) h (bindSpecial init self) (init, [self])) (hne : (some init != some (Value.builtin "object.__init__")) = true)
    (hq : codeR (model prog w) (A.under (.builtin "type.__call__" ⟨.ref C :: rest, []⟩)) (.call init ⟨.ref (h.objs.size + 1) :: rest, []⟩) (InitBack (h.objs.size + 1) R) ⟨(h.push emptyDict).push (instObj C h.objs.size), g, d, t, os⟩) :
    codeR (model prog w) A (.call (.ref C) ⟨rest, []⟩) R ⟨h, g, d, t, os⟩ := by
  have Y' := Y
  obtain ⟨⟨oc, od, cd, sl, hC, e1, e2, e4⟩, made, base, self, top, call, typ⟩ := Y
  refine codeR_tree rfl ?_
  show wpR _ _ (callAny (.ref C) _) _ _ _
  unfold callAny
  refine wpR_lead (wpAny_load hC ?_)
  show wpR _ _ (callAny.viaDunder (.ref C) _) _ _ _
  unfold callAny.viaDunder
  refine wpR_lead (call.at ?_)
  dsimp only
  rw [tc_bind]
  refine wpR_lead (wpAny_pure (wpR_lead (wpAny_pure ?_)))
  refine wpR_pure (a := Fin.again (.call (.builtin "type.__call__") ⟨.ref C :: rest, []⟩)) (And.intro rfl ?_)
  refine codeR_call_builtin_at (okC_of (by decide +kernel)) (Code.quiet_builtin _ (by decide +kernel)) entry_typeCall (check_slot tc_kind tc_split typ (tc_args _ _ _) ?_)
  unfold Builtin.«type.__call__»
  have hm : Looks (model prog w) h (mroOf (.ref C)) cd.mro := ((Looks.ld (part := none) hC).andThen .now).andThen .now
  dsimp only
  refine ite_false_R (show ¬ (false = true) from Bool.false_ne_true) ?_
  refine wpR_lead (hm.here ?_)
  rw [e4]
  refine ite_false_R Bool.false_ne_true ?_
  refine wpR_lead (made.here ?_)
  dsimp only
  refine wpR_lead (wpAny_pure ?_)
  refine wpR_lead (wpAny_holding (wpAny_call (new_K Y' hi (.inl hne) ?_)))
  dsimp only
  have k : ∀ b o, h.get? b = some o → ((h.push emptyDict).push (instObj C h.objs.size)).get? b = some o := fun b o e => Heap.get?_push_of_some _ (Heap.get?_push_of_some _ e)
  have hx : ((h.push emptyDict).push (instObj C h.objs.size)).get? (h.objs.size + 1) = some (instObj C h.objs.size) := by heap_get
  have t1 : Looks (model prog w) ((h.push emptyDict).push (instObj C h.objs.size)) (typeOf (.ref (h.objs.size + 1))) (.ref C) := (Looks.ld hx).andThen .now
  have s1 := self.keeps k
  have i1 := hi.keeps k
  have b1 := (hb (.ref (h.objs.size + 1))).keeps k
  unfold isInstance callSpecial? specialOf
  refine wpR_lead (wpAny_bind (t1.here (s1.here ?_)))
  refine ite_false_R (by decide) ?_
  refine wpR_bind (wpR_holding (wpR_lead (wpAny_bind (t1.here (i1.here ?_)))))
  dsimp only
  refine wpR_holding (wpR_lead (b1.here ?_))
  dsimp only
  refine wpR_bind (wpR_call (codeR_mono hq fun r s' z => ?_))
  rcases r with e | (v | _ | _ | _) <;> first | exact z | exact z.elim | skip
  obtain ⟨rfl, z⟩ := z
  exact wpR_pure (wpR_pure z)
end
section
variable {prog : Program} {w : World} {A : Around} {K : Frag} {C x : Addr} {s : Shared} {h₀ : Heap} {L : Addr} {m : PySem.Str → Option Value} {news : List (Addr × Obj)} {R : Result → Shared → Prop}
theorem make_R {rest : List Value} {fI : Addr} (F : Fr h₀ L s.heap m) (N : News h₀ L s.heap news) (X : K.In s.heap) (hm : makesIn K C = true)
    (hi : findIn K (.ref C) "__init__" = some (some (.ref fI))) (hf : typeIn K (.ref fI) = some (.type "function"))
    (h : ∀ x dx h', Fr h₀ L h' m → News h₀ L h' ((x, instObj C dx) :: (dx, emptyDict) :: news) → (∀ p ∈ news, p.1 < dx) → dx < x →
      codeR (model prog w) (A.under (.builtin "type.__call__" ⟨.ref C :: rest, []⟩)) (.call (.ref fI) ⟨.ref x :: rest, []⟩) (InitBack x R) { s with heap := h' }) :
    codeR (model prog w) A (.call (.ref C) ⟨rest, []⟩) R s := by
  obtain ⟨hh, g, d, t, os⟩ := s
  refine make_coreR (makes_of X hm) (looks_findIn X hi) (fun self => bind_fn X self hf) rfl (h _ hh.objs.size _ ((F.push _).push _) ?_ (fun p hp => Heap.lt_size (N p hp).1) (Nat.lt_succ_self _))
  have := (N.push F emptyDict).push (F.push _) (instObj C hh.objs.size)
  rwa [Heap.size_push] at this
end
end
section -- C9
set_option maxRecDepth 100000
set_option maxHeartbeats 8000000
set_option linter.unusedVariables false


theorem at_baM {h₀ h : Heap} {L bb : Addr} {b : Array UInt8} {news : List (Addr × Obj)} (N : News h₀ L h news) (hm : (bb, baObj b) ∈ news) : h.get? bb = some (baObj b) := (N _ hm).1
theorem rot3 {h₀ h : Heap} {L : Addr} {a b c : Addr × Obj} {news : List (Addr × Obj)} (N : News h₀ L h (c :: a :: b :: news)) : News h₀ L h (a :: b :: c :: news) := fun p hp => N p (by
  simp only [List.mem_cons] at hp ⊢
  rcases hp with h | h | h | h
  · exact .inr (.inl h)
  · exact .inr (.inr (.inl h))
  · exact .inl h
  · exact .inr (.inr (.inr h)))
section
variable {w : World} {p : Program} {loose : List PySem.Str} {mean : ExcName → Option Value} {mg mb : PySem.Str → Option Value}
  {dp un : Nat} {gd : Option (List Code)} {cn : PySem.Str} {cs : Scope} {a : Addr} {ccd : Value} {cl : List (PySem.Str × Addr)} {outer : List Env} {A₀ : Around} {base h₀ : Heap} {L : Addr} {m : PySem.Str → Option Value} {rest : List (Addr × Obj)} {s : Shared} {Q E : Value → Shared → Prop}
  {h1 h2 h3 : Int} {k1 k2 k3 t2 t3 : Tok} {b : Array UInt8} {held count : Int} {x dx bb : Addr}


theorem make_low {news : List (Addr × Obj)} (B : Below A₀ base outer h₀) (F : Fr h₀ L s.heap m) (X : (Mine.hd.heap_39 w.params).In h₀) (N : News h₀ L s.heap news) (T : Top p loose mean mg mb h₀) (hk : cs.kind = .function)
    (hd : dp + 12 < recursionLimit) (hu : un + 200 < cLine)
    (ret : ∀ x dx bb h1 h2 h3 k1 k2 k3 t2 t3 h' tk, x ≠ dx → x ≠ bb → dx ≠ bb → (∀ p ∈ news, p.1 < x) → (∀ p ∈ news, p.1 < dx) → (∀ p ∈ news, p.1 < bb) → Fr h₀ L h' m → News h₀ L h' ((x, instObj 233 dx) :: (dx, wrO h1 h2 h3 k1 k2 k3 t2 t3 bb 0 0) :: (bb, baObj #[]) :: news) → Q (.ref x) { s with heap := h', toks := tk }) :
    wpR (model Challenge.rw_nn0201_01.row.prog w) (ktrTop dp un gd cn cs L a ccd cl outer) (call (.ref 233) []) Q E s := by
  refine wpR_call (make_R (fI := 195) F N (X.keeps F.keep) (by k_is) (by k_is) (by k_is) fun x dx h2 F2 N2 l1 l2 => ?_)
  rw [show (ktrTop dp un gd cn cs L a ccd cl outer).under (.builtin "type.__call__" ⟨.ref 233 :: [], []⟩) = ktrTop (dp + 1) (un + 1) gd cn cs L a ccd cl outer from rfl]
  have xd : x ≠ dx := Nat.ne_of_gt l2
  have lx : ∀ p ∈ news, p.1 < x := fun p hp => Nat.lt_trans (l1 p hp) l2
  have ld : ∀ p ∈ news, p.1 ≠ dx := fun p hp => Nat.ne_of_lt (l1 p hp)
  k_dflt (refine' code_defM ?k1 ?k2 ?k3 ?k4 ?k5 ?kA ?kF ?kK ?k6 ?k7 ?k8 ?k9 ?kB ?_ ?c2 ?c3 ?c4 ?c5; (case kA => exact rfl); (case kF => exact rfl); (case kK => assumption); (case k1 => k_asm); (case k2 => k_asm); (case k3 => k_asm); (case k4 => k_asm); (case k5 => k_asm); (case k6 => k_is); (case k7 => k_is); (case k8 => ktr_room); (case k9 => first | exact BindsTo.of_eq rfl | exact binds_K (by k_in) rfl (by k_is) rfl rfl rfl); (case c5 => decide); (case kB => exact locs rfl); (case c2 => exact rfl); (case c3 => exact rfl); (case c4 => exact rfl); k_whole; intro g' L' h' tkE FG' F' N' B' X' T'; (try dsimp only); (try k_lift B'); (try k_fold))
  refine execsM_cons (AssignAttrM (CallNameM ?_))
  k_steps
  refine callWithM_type rfl (evalArgsM_nil ?_)
  show wpM true _ _ (call (.type "bytearray") []) _ _ _
  refine call_bytearray_N (by k_asm) (by k_asm) fun bb h3 F3 N3 l3 => ?_
  have bx : x ≠ bb := Nat.ne_of_lt (l3 _ (.head _))
  have bd : dx ≠ bb := Nat.ne_of_lt (l3 _ (.tail _ (.head _)))
  have lb : ∀ p ∈ news, p.1 < bb := fun p hp => l3 p (.tail _ (.tail _ hp))
  k_steps
  dsimp only
  refine execsM_any ?_
  k_steps
  dsimp only
  refine execsM_any ?_
  k_steps
  dsimp only
  refine execsM_nil ?_
  k_steps
  refine' ret x dx bb _ _ _ _ _ _ _ _ _ _ xd bx bd lx l1 lb ?F ?N
  case N => exact rot3 (by assumption)
  case F => k_asm

theorem make_high {news : List (Addr × Obj)} (B : Below A₀ base outer h₀) (F : Fr h₀ L s.heap m) (X : (Mine.hd.heap_39 w.params).In h₀) (N : News h₀ L s.heap news) (T : Top p loose mean mg mb h₀) (hk : cs.kind = .function)
    (hd : dp + 12 < recursionLimit) (hu : un + 200 < cLine)
    (ret : ∀ x dx bb h1 h2 h3 k1 k2 k3 t2 t3 h' tk, x ≠ dx → x ≠ bb → dx ≠ bb → (∀ p ∈ news, p.1 < x) → (∀ p ∈ news, p.1 < dx) → (∀ p ∈ news, p.1 < bb) → Fr h₀ L h' m → News h₀ L h' ((x, instObj 275 dx) :: (dx, wrO h1 h2 h3 k1 k2 k3 t2 t3 bb 0 0) :: (bb, baObj #[]) :: news) → Q (.ref x) { s with heap := h', toks := tk }) :
    wpR (model Challenge.rw_nn0201_01.row.prog w) (ktrTop dp un gd cn cs L a ccd cl outer) (call (.ref 275) []) Q E s := by
  refine wpR_call (make_R (fI := 251) F N (X.keeps F.keep) (by k_is) (by k_is) (by k_is) fun x dx h2 F2 N2 l1 l2 => ?_)
  rw [show (ktrTop dp un gd cn cs L a ccd cl outer).under (.builtin "type.__call__" ⟨.ref 275 :: [], []⟩) = ktrTop (dp + 1) (un + 1) gd cn cs L a ccd cl outer from rfl]
  have xd : x ≠ dx := Nat.ne_of_gt l2
  have lx : ∀ p ∈ news, p.1 < x := fun p hp => Nat.lt_trans (l1 p hp) l2
  have ld : ∀ p ∈ news, p.1 ≠ dx := fun p hp => Nat.ne_of_lt (l1 p hp)
  k_dflt (refine' code_defM ?k1 ?k2 ?k3 ?k4 ?k5 ?kA ?kF ?kK ?k6 ?k7 ?k8 ?k9 ?kB ?_ ?c2 ?c3 ?c4 ?c5; (case kA => exact rfl); (case kF => exact rfl); (case kK => assumption); (case k1 => k_asm); (case k2 => k_asm); (case k3 => k_asm); (case k4 => k_asm); (case k5 => k_asm); (case k6 => k_is); (case k7 => k_is); (case k8 => ktr_room); (case k9 => first | exact BindsTo.of_eq rfl | exact binds_K (by k_in) rfl (by k_is) rfl rfl rfl); (case c5 => decide); (case kB => exact locs rfl); (case c2 => exact rfl); (case c3 => exact rfl); (case c4 => exact rfl); k_whole; intro g' L' h' tkE FG' F' N' B' X' T'; (try dsimp only); (try k_lift B'); (try k_fold))
  refine execsM_cons (AssignAttrM (CallNameM ?_))
  k_steps
  refine callWithM_type rfl (evalArgsM_nil ?_)
  show wpM true _ _ (call (.type "bytearray") []) _ _ _
  refine call_bytearray_N (by k_asm) (by k_asm) fun bb h3 F3 N3 l3 => ?_
  have bx : x ≠ bb := Nat.ne_of_lt (l3 _ (.head _))
  have bd : dx ≠ bb := Nat.ne_of_lt (l3 _ (.tail _ (.head _)))
  have lb : ∀ p ∈ news, p.1 < bb := fun p hp => l3 p (.tail _ (.tail _ hp))
  k_steps
  dsimp only
  refine execsM_any ?_
  k_steps
  dsimp only
  refine execsM_any ?_
  k_steps
  dsimp only
  refine execsM_nil ?_
  k_steps
  refine' ret x dx bb _ _ _ _ _ _ _ _ _ _ xd bx bd lx l1 lb ?F ?N
  case N => exact rot3 (by assumption)
  case F => k_asm
end
end
section -- C6
set_option maxRecDepth 100000
set_option maxHeartbeats 8000000
set_option linter.unusedVariables false


theorem News.at_ba {h₀ h : Heap} {L bb : Addr} {b : Array UInt8} {news : List (Addr × Obj)} (N : News h₀ L h news) (hm : (bb, baObj b) ∈ news) : h.get? bb = some (baObj b) := (N _ hm).1
inductive PI_high (s : Shared) (g' : Heap) (L' x dx bb : Addr) (rest : List (Addr × Obj)) (c v : Int) (tc tv : Tok) (h1 h2 h3 : Int) (k1 k2 k3 : Tok) (b : Array UInt8) (held count : Int) (n : Nat) (s' : Shared) : Prop
  | mk (h' : Heap) (tk : Nat) (b' : Array UInt8) (held' count' : Int) (t2 t3 : Tok) (q0 : s' = { s with heap := h', toks := tk }) (q1 : n = count'.toNat) (q2 : (0 ≤ held' ∧ held' < 2 ^ count'.toNat ∧ 0 ≤ count' ∧ count' < 32 ∧ 8 * (b'.size : Int) + count' = 8 * (b.size : Int) + count + c ∧
      bitsH (KBw.bInts b') ++ rowH held' count'.toNat = bitsH (KBw.bInts b) ++ (rowH held count.toNat ++ rowH v c.toNat))) (q3 : Fr g' L' h' (fun y => List.lookup y [(PySem.Str.ofString "count", Value.int c tc), (PySem.Str.ofString "value", Value.int v tv), (PySem.Str.ofString "self", Value.ref x)])) (q4 : News g' L' h' ((x, instObj 275 dx) :: (dx, wrO h1 h2 h3 k1 k2 k3 t2 t3 bb held' count') :: (bb, baObj b') :: rest)) : PI_high s g' L' x dx bb rest c v tc tv h1 h2 h3 k1 k2 k3 b held count n s'
section
variable {w : World} {p : Program} {loose : List PySem.Str} {mean : ExcName → Option Value} {mg mb : PySem.Str → Option Value}
  {dp un : Nat} {gd : Option (List Code)} {cn : PySem.Str} {cs : Scope} {a : Addr} {ccd : Value} {cl : List (PySem.Str × Addr)} {outer : List Env} {A₀ : Around} {base h₀ : Heap} {L : Addr} {m : PySem.Str → Option Value} {rest : List (Addr × Obj)} {s : Shared} {Q E : Value → Shared → Prop}
  {h1 h2 h3 : Int} {k1 k2 k3 t2 t3 : Tok} {b : Array UInt8} {held count : Int} {x dx bb : Addr}

theorem put_high {v c : Int} {tv tc : Tok} (B : Below A₀ base outer h₀) (F : Fr h₀ L s.heap m) (X : (Mine.hd.heap_39 w.params).In h₀) (N : News h₀ L s.heap ((x, instObj 275 dx) :: (dx, wrO h1 h2 h3 k1 k2 k3 t2 t3 bb held count) :: (bb, baObj b) :: rest)) (T : Top p loose mean mg mb h₀) (hk : cs.kind = .function)
    (hd : dp + 12 < recursionLimit) (hu : un + 200 < cLine) (x1 : x ≠ dx) (x2 : x ≠ bb) (x3 : dx ≠ bb) (r1 : ∀ p ∈ rest, p.1 ≠ dx) (r2 : ∀ p ∈ rest, p.1 ≠ bb)
    (bz : b.size ≤ 100000) (h0 : 0 ≤ held) (hh : held < 2 ^ count.toNat) (c0 : 0 ≤ count) (c8 : count < 8) (cc0 : 0 ≤ c) (cc1 : c ≤ 24) (v0 : 0 ≤ v) (v1 : v < 2 ^ c.toNat)
    (ret : ∀ (b' : Array UInt8) (held' count' : Int) t2 t3 h' tk, 0 ≤ held' → held' < 2 ^ count'.toNat → 0 ≤ count' → count' < 8 → 8 * (b'.size : Int) + count' = 8 * (b.size : Int) + count + c →
      bitsH (KBw.bInts b') ++ rowH held' count'.toNat = bitsH (KBw.bInts b) ++ rowH held count.toNat ++ rowH v c.toNat →
      Fr h₀ L h' m → News h₀ L h' ((x, instObj 275 dx) :: (dx, wrO h1 h2 h3 k1 k2 k3 t2 t3 bb held' count') :: (bb, baObj b') :: rest) → Q .none { s with heap := h', toks := tk }) :
    wpR (model Challenge.rw_nn0201_01.row.prog w) (ktrTop dp un gd cn cs L a ccd cl outer) (call (.ref 258) [.ref x, .int v tv, .int c tc]) Q E s := by
  refine wpR_call ?_
  k_dflt (refine' code_defM ?k1 ?k2 ?k3 ?k4 ?k5 ?kA ?kF ?kK ?k6 ?k7 ?k8 ?k9 ?kB ?_ ?c2 ?c3 ?c4 ?c5; (case kA => exact rfl); (case kF => exact rfl); (case kK => assumption); (case k1 => k_asm); (case k2 => k_asm); (case k3 => k_asm); (case k4 => k_asm); (case k5 => k_asm); (case k6 => k_is); (case k7 => k_is); (case k8 => ktr_room); (case k9 => first | exact BindsTo.of_eq rfl | exact binds_K (by k_in) rfl (by k_is) rfl rfl rfl); (case c5 => decide); (case kB => exact locs rfl); (case c2 => exact rfl); (case c3 => exact rfl); (case c4 => exact rfl); k_whole; intro g' L' h' tkE FG' F' N' B' X' T'; (try dsimp only); (try k_lift B'); (try k_fold))
  have vb := lt48 (n := count.toNat) (by omega) hh
  refine execsM_any ?_
  (k_steps <;> repeat' ((with_reducible refine go_on ?_); (first | (with_reducible (k_here; k_dflt (refine' check_fit_ok ?B ?F ?X ?N ?T ?hk ?hd ?hu ?h0 ?h1 ?h2 ?h3 ?_; (case B => k_asm); (case F => k_asm); (case X => k_asm); (case N => k_asm); (case T => k_asm); (case hk => first | assumption | exact rfl); (case hd => first | exact n_up (by assumption) (by decide) | ktr_room); (case hu => first | exact n_up (by assumption) (by decide) | ktr_units); (case h0 => omega); (case h1 => omega); (case h2 => omega); (case h3 => assumption); k_whole); intro hC tkC FC NC)) | fail); k_steps))
  dsimp only
  refine execsM_any ?_
  k_steps
  dsimp only
  refine execsM_any ?_
  k_steps
  dsimp only
  refine execsM_cons ?_
  have z0 := join_lt v0 v1 h0 hh
  have e0 : Builtin.bitOr (held * 2 ^ c.toNat) v = v + held * 2 ^ c.toNat := by rw [bitOr_comm, bitOr_join v0 v1 h0]
  have z1 : rowH (Builtin.bitOr (held * 2 ^ c.toNat) v) (count + c).toNat = rowH held count.toNat ++ rowH v c.toNat := by
    rw [e0, pow_toNat_add c0 cc0, Int.add_comm v, rowH_join v0 v1]
  rw [← e0, Nat.add_comm, ← pow_toNat_add c0 cc0] at z0
  refine' WhileM (PI_high s g' L' x dx bb rest c v tc tv h1 h2 h3 k1 k2 k3 b held count) (count + c).toNat ?init ?turn
  case init => exact ⟨_, _, b, _, _, _, _, rfl, rfl, ⟨z0.1, z0.2, by omega, by omega, by omega, by rw [z1]⟩, by k_asm, by k_asm⟩
  case turn =>
    intro n s' hWz
    refine hideG fun Gz hGz => ?_
    obtain ⟨h', tk, b', held', count', t2, t3, rfl, rfl, ⟨i1, i2, i3, i4, i5, i6⟩, F2, N2⟩ := hWz
    refine hGz ?_
    clear hGz Gz
    have ib := lt48 (n := count'.toNat) (by omega) i2
    k_steps
    · have z := emitH (b := b') i1 i2 (by omega)
      refine execsM_any ?_
      k_steps
      dsimp only
      refine execsM_cons (ExprM (MethodM ?_))
      k_steps
      refine go_on ?_
      refine getMethod_ba (News.at_ba (by k_asm) (by k_mem)) rfl rfl ba_slot_append ba_type_append ?_
      refine callWithM_builtin rfl ?_
      refine evalArgsM_plain (splicedM_cons (wpR_any ?_))
      rw [if_neg Bool.false_ne_true]
      k_steps
      refine wpR_pure ?_
      show wpM true _ _ (call (.builtin "bytearray.append") [.ref bb, .int _ _]) _ _ _
      refine append_ba_N (by k_asm) (by k_asm) (by k_dflt k_upd) z.1 z.2.1 (by rw [sizeLine_eq]; omega) fun hB FB NB => ⟨rfl, ?_⟩
      dsimp only
      refine execsM_any ?_
      (k_steps <;> repeat' ((with_reducible refine go_on ?_); (first | (with_reducible (k_here; k_dflt (refine' low_bits_c ?B ?F ?X ?N ?T ?hk ?hd ?hu ?h0 ?h1 ?h2 ?_; (case B => k_asm); (case F => k_asm); (case X => k_asm); (case N => k_asm); (case T => k_asm); (case hk => first | assumption | exact rfl); (case hd => first | exact n_up (by assumption) (by decide) | ktr_room); (case hu => first | exact n_up (by assumption) (by decide) | ktr_units); (case h0 => omega); (case h1 => omega); (case h2 => omega); k_whole); intro tL hL tkL FL NL)) | fail); k_steps))
      dsimp only
      refine execsM_nil ⟨rfl, ?_⟩
      refine' ⟨_, ?lt, _, _, b'.push (held'.fdiv (2 ^ (count' - 8).toNat)).toNat.toUInt8, _, _, _, _, rfl, rfl, ?facts, ?F, ?N⟩
      case N => k_asm
      case F => k_asm
      case lt => omega
      exact ⟨z.2.2.1, z.2.2.2.1, by omega, by omega, by rw [Array.size_push]; omega, z.2.2.2.2.trans i6⟩
    · dsimp only
      refine execsM_nil ?_
      k_steps
      exact ret b' held' count' t2 t3 _ _ i1 i2 i3 (by omega) i5 (by rw [i6, List.append_assoc]) (by k_asm) (by k_asm)
end
end
section -- C10
set_option maxRecDepth 100000
set_option maxHeartbeats 8000000
set_option linter.unusedVariables false


theorem at_baN {h₀ h : Heap} {L bb : Addr} {b : Array UInt8} {news : List (Addr × Obj)} (N : News h₀ L h news) (hm : (bb, baObj b) ∈ news) : h.get? bb = some (baObj b) := (N _ hm).1
theorem rot3b {h₀ h : Heap} {L : Addr} {a b c : Addr × Obj} {news : List (Addr × Obj)} (N : News h₀ L h (c :: a :: b :: news)) : News h₀ L h (a :: b :: c :: news) := fun p hp => N p (by
  simp only [List.mem_cons] at hp ⊢
  rcases hp with h | h | h | h
  · exact .inr (.inl h)
  · exact .inr (.inr (.inl h))
  · exact .inl h
  · exact .inr (.inr (.inr h)))
section
variable {w : World} {p : Program} {loose : List PySem.Str} {mean : ExcName → Option Value} {mg mb : PySem.Str → Option Value}
  {dp un : Nat} {gd : Option (List Code)} {cn : PySem.Str} {cs : Scope} {a : Addr} {ccd : Value} {cl : List (PySem.Str × Addr)} {outer : List Env} {A₀ : Around} {base h₀ : Heap} {L : Addr} {m : PySem.Str → Option Value} {rest : List (Addr × Obj)} {s : Shared} {Q E : Value → Shared → Prop}
  {h1 h2 h3 : Int} {k1 k2 k3 t2 t3 : Tok} {b : Array UInt8} {held count : Int} {x dx bb : Addr}


theorem align_low (B : Below A₀ base outer h₀) (F : Fr h₀ L s.heap m) (X : (Mine.hd.heap_39 w.params).In h₀) (N : News h₀ L s.heap ((x, instObj 233 dx) :: (dx, wrO h1 h2 h3 k1 k2 k3 t2 t3 bb held count) :: (bb, baObj b) :: rest)) (T : Top p loose mean mg mb h₀) (hk : cs.kind = .function)
    (hd : dp + 16 < recursionLimit) (hu : un + 300 < cLine) (x1 : x ≠ dx) (x2 : x ≠ bb) (x3 : dx ≠ bb) (r1 : ∀ p ∈ rest, p.1 ≠ dx) (r2 : ∀ p ∈ rest, p.1 ≠ bb)
    (bz : b.size ≤ 100000) (h0 : 0 ≤ held) (hh : held < 2 ^ count.toNat) (c0 : 0 ≤ count) (c8 : count < 8)
    (ret : ∀ (b' : Array UInt8) t2 t3 h' tk, 8 * (b'.size : Int) = 8 * (b.size : Int) + count + (-count) % 8 → bitsL (KBw.bInts b') = bitsL (KBw.bInts b) ++ rowL held count.toNat ++ rowL 0 ((-count) % 8).toNat → Fr h₀ L h' m → News h₀ L h' ((x, instObj 233 dx) :: (dx, wrO h1 h2 h3 k1 k2 k3 t2 t3 bb 0 0) :: (bb, baObj b') :: rest) → Q .none { s with heap := h', toks := tk }) :
    wpR (model Challenge.rw_nn0201_01.row.prog w) (ktrTop dp un gd cn cs L a ccd cl outer) (call (.ref 209) [.ref x]) Q E s := by
  refine wpR_call ?_
  k_dflt (refine' code_defM ?k1 ?k2 ?k3 ?k4 ?k5 ?kA ?kF ?kK ?k6 ?k7 ?k8 ?k9 ?kB ?_ ?c2 ?c3 ?c4 ?c5; (case kA => exact rfl); (case kF => exact rfl); (case kK => assumption); (case k1 => k_asm); (case k2 => k_asm); (case k3 => k_asm); (case k4 => k_asm); (case k5 => k_asm); (case k6 => k_is); (case k7 => k_is); (case k8 => ktr_room); (case k9 => first | exact BindsTo.of_eq rfl | exact binds_K (by k_in) rfl (by k_is) rfl rfl rfl); (case c5 => decide); (case kB => exact locs rfl); (case c2 => exact rfl); (case c3 => exact rfl); (case c4 => exact rfl); k_whole; intro g' L' h' tkE FG' F' N' B' X' T'; (try dsimp only); (try k_lift B'); (try k_fold))
  refine execsM_cons (IfM ?_)
  k_steps
  · refine execsM_cons (ExprM (MethodM ?_))
    k_steps
    refine callWithM_of (P := (Mine.hd.heap_39 w.params).In) rfl (keeps_K (by k_is)) ?_
    refine evalArgsM_plain (splicedM_cons (wpR_any ?_))
    rw [if_neg Bool.false_ne_true]
    k_steps
    refine splicedM_cons (wpR_any ?_)
    dsimp only
    rw [if_neg Bool.false_ne_true]
    k_steps
    refine wpR_pure ?_
    refine ⟨X'.keeps F'.keep, ?_⟩
    show wpM true _ _ (call (.ref 202) [.ref x, .int 0 _, .int (8 - count) _]) _ _ _
    k_dflt (refine' put_low ?B ?F ?X ?N ?T ?hk ?hd ?hu x1 x2 x3 r1 r2 bz h0 hh c0 c8 ?cc0 ?cc1 ?v0 ?v1 ?_; (case B => k_asm); (case F => k_asm); (case X => k_asm); (case N => k_asm); (case T => k_asm); (case hk => first | assumption | exact rfl); (case hd => first | exact n_up (by assumption) (by decide) | ktr_room); (case hu => first | exact n_up (by assumption) (by decide) | ktr_units); (case cc0 => omega); (case cc1 => omega); (case v0 => omega); (case v1 => exact two_pos _); k_whole)
    intro b' held' count' t2' t3' hP tkP i1 i2 i3 i4 i5 i6 FP NP
    obtain rfl : count' = 0 := by omega
    obtain rfl : held' = 0 := by
      have i2' : held' < 1 := i2
      omega
    refine ⟨rfl, ?_⟩
    dsimp only
    refine execsM_nil ?_
    dsimp only
    refine execsM_nil ?_
    k_steps
    have e8 : (-count) % 8 = 8 - count := by omega
    refine ret b' _ _ _ _ (by omega) ?_ (by k_asm) (by k_asm)
    rw [e8, ← i6]
    exact (List.append_nil _).symm
  · obtain rfl : count = 0 := by omega
    obtain rfl : held = 0 := by
      have i2' : held < 1 := hh
      omega
    refine execsM_nil ?_
    dsimp only
    refine execsM_nil ?_
    k_steps
    refine ret b _ _ _ _ (by simp) ?_ (by k_asm) (by k_asm)
    exact ((List.append_nil _).trans (List.append_nil _)).symm

theorem put_octets_low {o : Array UInt8} {ot : Tok} (B : Below A₀ base outer h₀) (F : Fr h₀ L s.heap m) (X : (Mine.hd.heap_39 w.params).In h₀) (N : News h₀ L s.heap ((x, instObj 233 dx) :: (dx, wrO h1 h2 h3 k1 k2 k3 t2 t3 bb held count) :: (bb, baObj b) :: rest)) (T : Top p loose mean mg mb h₀) (hk : cs.kind = .function)
    (hd : dp + 20 < recursionLimit) (hu : un + 400 < cLine) (x1 : x ≠ dx) (x2 : x ≠ bb) (x3 : dx ≠ bb) (r1 : ∀ p ∈ rest, p.1 ≠ dx) (r2 : ∀ p ∈ rest, p.1 ≠ bb)
    (bz : b.size ≤ 100000) (h0 : 0 ≤ held) (hh : held < 2 ^ count.toNat) (c0 : 0 ≤ count) (c8 : count < 8) (oz : o.size ≤ 1000)
    (ret : ∀ (b' : Array UInt8) t2 t3 h' tk, 8 * (b'.size : Int) = 8 * (b.size : Int) + count + (-count) % 8 + 8 * o.size → bitsL (KBw.bInts b') = bitsL (KBw.bInts b) ++ rowL held count.toNat ++ rowL 0 ((-count) % 8).toNat ++ bitsL (KBw.bInts o) → Fr h₀ L h' m → News h₀ L h' ((x, instObj 233 dx) :: (dx, wrO h1 h2 h3 k1 k2 k3 t2 t3 bb 0 0) :: (bb, baObj b') :: rest) → Q .none { s with heap := h', toks := tk }) :
    wpR (model Challenge.rw_nn0201_01.row.prog w) (ktrTop dp un gd cn cs L a ccd cl outer) (call (.ref 216) [.ref x, .bytes o ot]) Q E s := by
  refine wpR_call ?_
  k_dflt (refine' code_defM ?k1 ?k2 ?k3 ?k4 ?k5 ?kA ?kF ?kK ?k6 ?k7 ?k8 ?k9 ?kB ?_ ?c2 ?c3 ?c4 ?c5; (case kA => exact rfl); (case kF => exact rfl); (case kK => assumption); (case k1 => k_asm); (case k2 => k_asm); (case k3 => k_asm); (case k4 => k_asm); (case k5 => k_asm); (case k6 => k_is); (case k7 => k_is); (case k8 => ktr_room); (case k9 => first | exact BindsTo.of_eq rfl | exact binds_K (by k_in) rfl (by k_is) rfl rfl rfl); (case c5 => decide); (case kB => exact locs rfl); (case c2 => exact rfl); (case c3 => exact rfl); (case c4 => exact rfl); k_whole; intro g' L' h' tkE FG' F' N' B' X' T'; (try dsimp only); (try k_lift B'); (try k_fold))
  refine execsM_cons (ExprM (MethodM ?_))
  k_steps
  refine callWithM_of (P := (Mine.hd.heap_39 w.params).In) rfl (keeps_K (by k_is)) (evalArgsM_nil ?_)
  refine ⟨X'.keeps F'.keep, ?_⟩
  show wpM true _ _ (call (.ref 209) [.ref x]) _ _ _
  k_dflt (refine' align_low ?B ?F ?X ?N ?T ?hk ?hd ?hu x1 x2 x3 r1 r2 bz h0 hh c0 c8 ?_; (case B => k_asm); (case F => k_asm); (case X => k_asm); (case N => k_asm); (case T => k_asm); (case hk => first | assumption | exact rfl); (case hd => first | exact n_up (by assumption) (by decide) | ktr_room); (case hu => first | exact n_up (by assumption) (by decide) | ktr_units); k_whole)
  intro b' t2' t3' hP tkP i1 i2 FP NP
  refine ⟨rfl, ?_⟩
  dsimp only
  refine execsM_cons (ExprM (MethodM ?_))
  k_steps
  refine go_on ?_
  refine getMethod_ba (at_baN (by k_asm) (by k_mem)) rfl rfl ba_slot_extend ba_type_extend ?_
  refine callWithM_builtin rfl ?_
  refine evalArgsM_plain (splicedM_cons (wpR_any ?_))
  rw [if_neg Bool.false_ne_true]
  k_steps
  refine wpR_pure ?_
  show wpM true _ _ (call (.builtin "bytearray.extend") [.ref bb, .bytes o ot]) _ _ _
  refine extend_ba (at_baN NP (by k_mem)) (by rw [sizeLine_eq]; omega) fun hB hs hB2 => ⟨rfl, ?_⟩
  have FB := FP.change hs (NP (bb, baObj b') (by k_mem)).2.1 (NP (bb, baObj b') (by k_mem)).2.2
  have NB : News g' L' hB ((x, instObj 233 dx) :: (dx, wrO h1 h2 h3 k1 k2 k3 t2' t3' bb 0 0) :: (bb, baObj (b' ++ o)) :: rest) :=
    news_set (pre := [(x, instObj 233 dx), (dx, wrO h1 h2 h3 k1 k2 k3 t2' t3' bb 0 0)]) NP (fun p hp => by
      rcases List.mem_cons.mp hp with rfl | hp
      · exact x2
      · rcases List.mem_cons.mp hp with rfl | hp
        · exact x3
        · cases hp) r2 hs hB2
  dsimp only
  refine execsM_nil ?_
  k_steps
  refine ret (b' ++ o) _ _ _ _ (by rw [Array.size_append]; omega) ?_ (by k_asm) (by k_asm)
  rw [KBw.ints_app rfl rfl, bitsL_append, i2]

theorem align_high (B : Below A₀ base outer h₀) (F : Fr h₀ L s.heap m) (X : (Mine.hd.heap_39 w.params).In h₀) (N : News h₀ L s.heap ((x, instObj 275 dx) :: (dx, wrO h1 h2 h3 k1 k2 k3 t2 t3 bb held count) :: (bb, baObj b) :: rest)) (T : Top p loose mean mg mb h₀) (hk : cs.kind = .function)
    (hd : dp + 16 < recursionLimit) (hu : un + 300 < cLine) (x1 : x ≠ dx) (x2 : x ≠ bb) (x3 : dx ≠ bb) (r1 : ∀ p ∈ rest, p.1 ≠ dx) (r2 : ∀ p ∈ rest, p.1 ≠ bb)
    (bz : b.size ≤ 100000) (h0 : 0 ≤ held) (hh : held < 2 ^ count.toNat) (c0 : 0 ≤ count) (c8 : count < 8)
    (ret : ∀ (b' : Array UInt8) t2 t3 h' tk, 8 * (b'.size : Int) = 8 * (b.size : Int) + count + (-count) % 8 → bitsH (KBw.bInts b') = bitsH (KBw.bInts b) ++ rowH held count.toNat ++ rowH 0 ((-count) % 8).toNat → Fr h₀ L h' m → News h₀ L h' ((x, instObj 275 dx) :: (dx, wrO h1 h2 h3 k1 k2 k3 t2 t3 bb 0 0) :: (bb, baObj b') :: rest) → Q .none { s with heap := h', toks := tk }) :
    wpR (model Challenge.rw_nn0201_01.row.prog w) (ktrTop dp un gd cn cs L a ccd cl outer) (call (.ref 265) [.ref x]) Q E s := by
  refine wpR_call ?_
  k_dflt (refine' code_defM ?k1 ?k2 ?k3 ?k4 ?k5 ?kA ?kF ?kK ?k6 ?k7 ?k8 ?k9 ?kB ?_ ?c2 ?c3 ?c4 ?c5; (case kA => exact rfl); (case kF => exact rfl); (case kK => assumption); (case k1 => k_asm); (case k2 => k_asm); (case k3 => k_asm); (case k4 => k_asm); (case k5 => k_asm); (case k6 => k_is); (case k7 => k_is); (case k8 => ktr_room); (case k9 => first | exact BindsTo.of_eq rfl | exact binds_K (by k_in) rfl (by k_is) rfl rfl rfl); (case c5 => decide); (case kB => exact locs rfl); (case c2 => exact rfl); (case c3 => exact rfl); (case c4 => exact rfl); k_whole; intro g' L' h' tkE FG' F' N' B' X' T'; (try dsimp only); (try k_lift B'); (try k_fold))
  refine execsM_cons (IfM ?_)
  k_steps
  · refine execsM_cons (ExprM (MethodM ?_))
    k_steps
    refine callWithM_of (P := (Mine.hd.heap_39 w.params).In) rfl (keeps_K (by k_is)) ?_
    refine evalArgsM_plain (splicedM_cons (wpR_any ?_))
    rw [if_neg Bool.false_ne_true]
    k_steps
    refine splicedM_cons (wpR_any ?_)
    dsimp only
    rw [if_neg Bool.false_ne_true]
    k_steps
    refine wpR_pure ?_
    refine ⟨X'.keeps F'.keep, ?_⟩
    show wpM true _ _ (call (.ref 258) [.ref x, .int 0 _, .int (8 - count) _]) _ _ _
    k_dflt (refine' put_high ?B ?F ?X ?N ?T ?hk ?hd ?hu x1 x2 x3 r1 r2 bz h0 hh c0 c8 ?cc0 ?cc1 ?v0 ?v1 ?_; (case B => k_asm); (case F => k_asm); (case X => k_asm); (case N => k_asm); (case T => k_asm); (case hk => first | assumption | exact rfl); (case hd => first | exact n_up (by assumption) (by decide) | ktr_room); (case hu => first | exact n_up (by assumption) (by decide) | ktr_units); (case cc0 => omega); (case cc1 => omega); (case v0 => omega); (case v1 => exact two_pos _); k_whole)
    intro b' held' count' t2' t3' hP tkP i1 i2 i3 i4 i5 i6 FP NP
    obtain rfl : count' = 0 := by omega
    obtain rfl : held' = 0 := by
      have i2' : held' < 1 := i2
      omega
    refine ⟨rfl, ?_⟩
    dsimp only
    refine execsM_nil ?_
    dsimp only
    refine execsM_nil ?_
    k_steps
    have e8 : (-count) % 8 = 8 - count := by omega
    refine ret b' _ _ _ _ (by omega) ?_ (by k_asm) (by k_asm)
    rw [e8, ← i6]
    exact (List.append_nil _).symm
  · obtain rfl : count = 0 := by omega
    obtain rfl : held = 0 := by
      have i2' : held < 1 := hh
      omega
    refine execsM_nil ?_
    dsimp only
    refine execsM_nil ?_
    k_steps
    refine ret b _ _ _ _ (by simp) ?_ (by k_asm) (by k_asm)
    exact ((List.append_nil _).trans (List.append_nil _)).symm
end
end
section -- C8
set_option maxRecDepth 100000
set_option maxHeartbeats 8000000
set_option linter.unusedVariables false


theorem at_baH {h₀ h : Heap} {L bb : Addr} {b : Array UInt8} {news : List (Addr × Obj)} (N : News h₀ L h news) (hm : (bb, baObj b) ∈ news) : h.get? bb = some (baObj b) := (N _ hm).1
local macro_rules | `(tactic| walk_at "call builtin:len") => `(tactic| (k_here; (with_reducible show wpAny _ _ (call (Value.builtin "len") [Value.ref _]) _ _ _); refine len_ba (at_baH (by k_asm) (by k_mem)) (by omega) ?_))
local macro_rules | `(tactic| walk_at "call type:bytes") => `(tactic| (k_here; (with_reducible show wpAny _ _ (call (Value.type "bytes") [Value.ref _]) _ _ _); refine bytes_of_ba (at_baH (by k_asm) (by k_mem)) (by rw [sizeLine_eq]; omega) ?_; intro tB kB))
theorem dropOne {h₀ h : Heap} {L : Addr} {e : Addr × Obj} {news : List (Addr × Obj)} (N : News h₀ L h (e :: news)) : News h₀ L h news := fun p hp => N p (.tail _ hp)
section
variable {w : World} {p : Program} {loose : List PySem.Str} {mean : ExcName → Option Value} {mg mb : PySem.Str → Option Value}
  {dp un : Nat} {gd : Option (List Code)} {cn : PySem.Str} {cs : Scope} {a : Addr} {ccd : Value} {cl : List (PySem.Str × Addr)} {outer : List Env} {A₀ : Around} {base h₀ : Heap} {L : Addr} {m : PySem.Str → Option Value} {rest : List (Addr × Obj)} {s : Shared} {Q E : Value → Shared → Prop}
  {h1 h2 h3 : Int} {k1 k2 k3 t2 t3 : Tok} {b : Array UInt8} {held count : Int} {x dx bb : Addr}


theorem put_high_no {v c : Int} {tv tc : Tok} (B : Below A₀ base outer h₀) (F : Fr h₀ L s.heap m) (X : (Mine.hd.heap_39 w.params).In h₀) (N : News h₀ L s.heap ((x, instObj 275 dx) :: (dx, wrO h1 h2 h3 k1 k2 k3 t2 t3 bb held count) :: (bb, baObj b) :: rest)) (T : Top p loose mean mg mb h₀) (hk : cs.kind = .function)
    (hd : dp + 12 < recursionLimit) (hu : un + 200 < cLine) (x1 : x ≠ dx) (x2 : x ≠ bb) (x3 : dx ≠ bb) (r1 : ∀ p ∈ rest, p.1 ≠ dx) (r2 : ∀ p ∈ rest, p.1 ≠ bb)
    (bz : b.size ≤ 100000) (h0 : 0 ≤ held) (hh : held < 2 ^ count.toNat) (c0 : 0 ≤ count) (c8 : count < 8) (hc : c ≤ 64) (hno : c < 0 ∨ v < 0 ∨ v.fdiv (2 ^ c.toNat) ≠ 0)
    (raise : ∀ g e h' tk, Fr h₀ L g m → RaisedSN base g (envX cn cs L a ccd cl :: outer) e (.ref 59) ((x, instObj 275 dx) :: (dx, wrO h1 h2 h3 k1 k2 k3 t2 t3 bb held count) :: (bb, baObj b) :: rest) h' → g.UpToSlots h' → E (.ref e) { s with heap := h', toks := tk }) :
    wpAny (model Challenge.rw_nn0201_01.row.prog w) (ktrTop dp un gd cn cs L a ccd cl outer) (call (.ref 258) [.ref x, .int v tv, .int c tc]) Q E s := by
  refine wpAny_call ?_
  k_dflt (refine' code_def ?k1 ?k2 ?k3 ?k4 ?k5 ?kA ?kF ?kK ?k6 ?k7 ?k8 ?k9 ?kB ?_ ?c2 ?c3 ?c4 ?c5; (case kA => exact rfl); (case kF => exact rfl); (case kK => assumption); (case k1 => k_asm); (case k2 => k_asm); (case k3 => k_asm); (case k4 => k_asm); (case k5 => k_asm); (case k6 => k_is); (case k7 => k_is); (case k8 => ktr_room); (case k9 => first | exact BindsTo.of_eq rfl | exact binds_K (by k_in) rfl (by k_is) rfl rfl rfl); (case c5 => decide); (case kB => exact locs rfl); (case c2 => exact rfl); (case c3 => exact rfl); (case c4 => exact rfl); k_whole; intro g' L' h' FG' F' N' B' X' T'; (try dsimp only); (try k_lift B'); (try k_fold))
  (k_steps <;> repeat' ((with_reducible refine go_on ?_); (first | (with_reducible (k_here; k_dflt (refine' check_fit_no ?B ?F ?X ?N ?T ?hk ?hd ?hu ?hc ?hno ?_; (case B => k_asm); (case F => k_asm); (case X => k_asm); (case N => k_asm); (case T => k_asm); (case hk => first | assumption | exact rfl); (case hd => first | exact n_up (by assumption) (by decide) | ktr_room); (case hu => first | exact n_up (by assumption) (by decide) | ktr_units); (case hc => assumption); (case hno => assumption); k_whole); intro gN eN hN tkN FgN RN UN; refine' leave_onSN (by assumption) FgN RN UN ?_; intro h'' R' R1' U')) | fail); k_steps))
  refine' raise _ _ _ _ ?_ (by assumption) (by assumption) <;> assumption

theorem octs_high (B : Below A₀ base outer h₀) (F : Fr h₀ L s.heap m) (X : (Mine.hd.heap_39 w.params).In h₀) (N : News h₀ L s.heap ((x, instObj 275 dx) :: (dx, wrO h1 h2 h3 k1 k2 k3 t2 t3 bb held count) :: (bb, baObj b) :: rest)) (T : Top p loose mean mg mb h₀) (hk : cs.kind = .function)
    (hd : dp + 12 < recursionLimit) (hu : un + 200 < cLine) (x1 : x ≠ dx) (x2 : x ≠ bb) (x3 : dx ≠ bb) (r1 : ∀ p ∈ rest, p.1 ≠ dx) (r2 : ∀ p ∈ rest, p.1 ≠ bb)
    (bz : b.size ≤ 100000) (h0 : 0 ≤ held) (hh : held < 2 ^ count.toNat) (c0 : 0 ≤ count) (c8 : count < 8)
    (ret : ∀ o t h' tk, KBw.bInts o = KBw.bInts b ++ (if count = 0 then [] else [held * 2 ^ (8 - count).toNat]) → Fr h₀ L h' m → News h₀ L h' ((x, instObj 275 dx) :: (dx, wrO h1 h2 h3 k1 k2 k3 t2 t3 bb held count) :: (bb, baObj b) :: rest) → Q (.bytes o t) { s with heap := h', toks := tk }) :
    wpAny (model Challenge.rw_nn0201_01.row.prog w) (ktrTop dp un gd cn cs L a ccd cl outer) (call (.ref 272) [.ref x]) Q E s := by
  obtain ⟨hp, hb⟩ := pad_lt h0 hh c0 (by omega)
  have hv := lt256 (n := count.toNat) (by omega) hh
  obtain ⟨kb, hkb⟩ : ∃ kb, KBw.bInts b = kb := ⟨_, rfl⟩
  have hlb : kb.length ≤ 100000 := by rw [← hkb, KBw.ints_length]; exact bz
  rw [hkb] at ret
  refine wpAny_call ?_
  k_dflt (refine' code_def ?k1 ?k2 ?k3 ?k4 ?k5 ?kA ?kF ?kK ?k6 ?k7 ?k8 ?k9 ?kB ?_ ?c2 ?c3 ?c4 ?c5; (case kA => exact rfl); (case kF => exact rfl); (case kK => assumption); (case k1 => k_asm); (case k2 => k_asm); (case k3 => k_asm); (case k4 => k_asm); (case k5 => k_asm); (case k6 => k_is); (case k7 => k_is); (case k8 => ktr_room); (case k9 => first | exact BindsTo.of_eq rfl | exact binds_K (by k_in) rfl (by k_is) rfl rfl rfl); (case c5 => decide); (case kB => exact locs rfl); (case c2 => exact rfl); (case c3 => exact rfl); (case c4 => exact rfl); k_whole; intro g' L' h' FG' F' N' B' X' T'; (try dsimp only); (try k_lift B'); (try k_fold))
  k_steps
  · exact ret b _ _ _ (by rw [hkb, if_pos (by assumption), List.append_nil]) (by k_asm) (by k_asm)
  · exact ret _ _ _ _ (by rw [if_neg (by assumption), bInts_app1 b hp hb, hkb]) (by k_asm) (by first | k_asm | exact dropOne (by assumption) | exact dropOne (dropOne (by assumption)))
end
end
section -- Mt4
set_option linter.unusedVariables false
theorem rowL_zero (n : Nat) : rowL 0 n = List.replicate n 0 := by
  unfold rowL
  rw [List.eq_replicate_iff]
  refine ⟨by simp, fun b hb => ?_⟩
  obtain ⟨i, _, rfl⟩ := List.mem_map.mp hb
  simp
theorem rowH_zero (n : Nat) : rowH 0 n = List.replicate n 0 := by unfold rowH; rw [rowL_zero, List.reverse_replicate]
theorem padL {held : Int} {a n : Nat} (h0 : 0 ≤ held) (h1 : held < 2 ^ a) : rowL held a ++ List.replicate n 0 = rowL held (a + n) := by
  have z := rowL_join (b := 0) (n := n) h0 h1
  rw [Int.zero_mul, Int.add_zero, rowL_zero] at z
  exact z.symm
theorem padH {held : Int} {a n : Nat} : rowH held a ++ List.replicate n 0 = rowH (held * 2 ^ n) (a + n) := by
  have z := rowH_join (h := held) (v := 0) (a := a) (n := n) (Int.le_refl _) (two_pos n)
  rw [Int.add_zero, rowH_zero] at z
  exact z.symm
theorem bits_len (hi : Bool) : ∀ ks : List Int, (bits hi ks).length = 8 * ks.length
  | [] => rfl
  | k :: r => by
    show (row hi k 8 ++ bits hi r).length = _
    rw [List.length_append, row_length, bits_len hi r, List.length_cons]; omega
theorem bits_snoc (hi : Bool) (ks : List Int) (k : Int) : bits hi (ks ++ [k]) = bits hi ks ++ row hi k 8 := by simp [bits]
theorem filled_whole {l : List Int} (h : l.length % 8 = 0) : filled l = l := by
  unfold filled
  rw [show ((-(l.length : Int)) % 8).toNat = 0 by omega]
  exact List.append_nil _
theorem writer_high {B : List Int} {held count : Int} (hB : ∀ k ∈ B, 0 ≤ k ∧ k < 256) (h0 : 0 ≤ held) (hh : held < 2 ^ count.toNat) (c0 : 0 ≤ count) (c8 : count < 8) :
    octsOf true (filled (bitsH B ++ rowH held count.toNat)) = B ++ (if count = 0 then [] else [held * 2 ^ (8 - count).toNat]) := by
  have e : bitsH B = bits true B := rfl
  have lB := bits_len true B
  by_cases q : count = 0
  · subst q
    rw [if_pos rfl, List.append_nil]
    show octsOf true (filled (bitsH B ++ [])) = B
    rw [List.append_nil, e, filled_whole (by omega), octs_bits hB]
  · rw [if_neg q]
    have p := pad_lt h0 hh c0 (by omega)
    unfold filled
    rw [List.length_append, rowH_length, e, lB, show ((-((8 * B.length + count.toNat : Nat) : Int)) % 8).toNat = (8 - count).toNat by omega, List.append_assoc, padH, show count.toNat + (8 - count).toNat = 8 by omega]
    have z := octs_bits (hi := true) (ks := B ++ [held * 2 ^ (8 - count).toNat]) (fun k hk => by
      rcases List.mem_append.mp hk with hk | hk
      · exact hB k hk
      · rw [List.mem_singleton.mp hk]; exact p)
    rw [bits_snoc] at z
    exact z
end
section -- C17
set_option maxRecDepth 100000
set_option maxHeartbeats 8000000
set_option linter.unusedVariables false


theorem at_baO {h₀ h : Heap} {L bb : Addr} {b : Array UInt8} {news : List (Addr × Obj)} (N : News h₀ L h news) (hm : (bb, baObj b) ∈ news) : h.get? bb = some (baObj b) := (N _ hm).1
theorem rot3c {h₀ h : Heap} {L : Addr} {a b c : Addr × Obj} {news : List (Addr × Obj)} (N : News h₀ L h (c :: a :: b :: news)) : News h₀ L h (a :: b :: c :: news) := fun p hp => N p (by
  simp only [List.mem_cons] at hp ⊢
  rcases hp with h | h | h | h
  · exact .inr (.inl h)
  · exact .inr (.inr (.inl h))
  · exact .inl h
  · exact .inr (.inr (.inr h)))
section
variable {w : World} {p : Program} {loose : List PySem.Str} {mean : ExcName → Option Value} {mg mb : PySem.Str → Option Value}
  {dp un : Nat} {gd : Option (List Code)} {cn : PySem.Str} {cs : Scope} {a : Addr} {ccd : Value} {cl : List (PySem.Str × Addr)} {outer : List Env} {A₀ : Around} {base h₀ : Heap} {L : Addr} {m : PySem.Str → Option Value} {rest : List (Addr × Obj)} {s : Shared} {Q E : Value → Shared → Prop}
  {h1 h2 h3 : Int} {k1 k2 k3 t2 t3 : Tok} {b : Array UInt8} {held count : Int} {x dx bb : Addr}


theorem joined_c {l : Addr} {vs : List Value} {ns : List Int} {n : Nat} {c : Int} {tc : Tok} {news : List (Addr × Obj)} (B : Below A₀ base outer h₀) (F : Fr h₀ L s.heap m) (X : (Mine.hd.heap_39 w.params).In h₀) (N : News h₀ L s.heap news) (hm : (l, W.listOf vs.toArray n) ∈ news) (T : Top p loose mean mg mb h₀) (hk : cs.kind = .function)
    (hd : dp + 24 < recursionLimit) (hu : un + 600 < cLine) (hv : IntsAre vs ns) (hn : ns.length ≤ 64) (c0 : 0 ≤ c) (c1 : c ≤ 24) (hb : ∀ k ∈ ns, 0 ≤ k ∧ k < 2 ^ c.toNat)
    (ret : ∀ o t h' tk, KBw.bInts o = octsOf true (filled (ns.flatMap fun k => rowH k c.toNat)) → Fr h₀ L h' m → News h₀ L h' news → Q (.bytes o t) { s with heap := h', toks := tk }) :
    wpR (model Challenge.rw_nn0201_01.row.prog w) (ktrTop dp un gd cn cs L a ccd cl outer) (call (.ref 291) [.ref l, .int c tc]) Q E s := by
  refine wpR_call ?_
  k_dflt (refine' code_defM ?k1 ?k2 ?k3 ?k4 ?k5 ?kA ?kF ?kK ?k6 ?k7 ?k8 ?k9 ?kB ?_ ?c2 ?c3 ?c4 ?c5; (case kA => exact rfl); (case kF => exact rfl); (case kK => assumption); (case k1 => k_asm); (case k2 => k_asm); (case k3 => k_asm); (case k4 => k_asm); (case k5 => k_asm); (case k6 => k_is); (case k7 => k_is); (case k8 => ktr_room); (case k9 => first | exact BindsTo.of_eq rfl | exact binds_K (by k_in) rfl (by k_is) rfl rfl rfl); (case c5 => decide); (case kB => exact locs rfl); (case c2 => exact rfl); (case c3 => exact rfl); (case c4 => exact rfl); k_whole; intro g' L' h' tkE FG' F' N' B' X' T'; (try dsimp only); (try k_lift B'); (try k_fold))
  refine execsM_cons (AssignM (CallNameM ?_))
  k_steps
  refine callWithM_of (P := (Mine.hd.heap_39 w.params).In) rfl (keeps_K (by k_is)) (evalArgsM_nil ⟨X'.keeps F'.keep, ?_⟩)
  show wpM true _ _ (call (.ref 275) []) _ _ _
  k_dflt (refine' make_high ?B ?F ?X ?N ?T ?hk ?hd ?hu ?_; (case B => k_asm); (case F => k_asm); (case X => k_asm); (case N => k_asm); (case T => k_asm); (case hk => first | assumption | exact rfl); (case hd => first | exact n_up (by assumption) (by decide) | ktr_room); (case hu => first | exact n_up (by assumption) (by decide) | ktr_units); k_whole)
  intro x dx bb h1 h2 h3 k1 k2 k3 t2 t3 hW tkW x1 x2 x3 l1 l2 l3 FW NW
  dsimp only
  k_steps
  dsimp only
  refine execsM_cons (ForM ?_)
  k_steps
  refine' forListM (b := true) (vs := vs) (n := n) (ch := [(x, instObj 275 dx), (dx, wrO h1 h2 h3 k1 k2 k3 t2 t3 bb 0 0), (bb, baObj #[])]) (rest := news)
    (fun i m ch => (∃ (b' : Array UInt8) (held' count' : Int) (t2 t3 : Tok), ch = [(x, instObj 275 dx), (dx, wrO h1 h2 h3 k1 k2 k3 t2 t3 bb held' count'), (bb, baObj b')] ∧ 0 ≤ held' ∧ held' < 2 ^ count'.toNat ∧ 0 ≤ count' ∧ count' < 8 ∧ 8 * (b'.size : Int) + count' = c * i ∧
      bitsH (KBw.bInts b') ++ rowH held' count'.toNat = (ns.take i).flatMap fun k => rowH k c.toNat) ∧ ∃ b0 : Option Value, ∀ y, m y = if y = PySem.Str.ofString "target" then some (.ref x) else if y = PySem.Str.ofString "value" then b0 else List.lookup y [(PySem.Str.ofString "bits", Value.int c tc), (PySem.Str.ofString "values", Value.ref l)]) rfl ?F ?N ?hJ ?hl ?hc ?turn ?done
  case F => k_asm
  case N => k_asm
  case hJ =>
    refine ⟨⟨#[], 0, 0, t2, t3, rfl, by decide, by decide, by decide, by decide, by simp, rfl⟩, none, fun y => ?_⟩
    by_cases q : y = PySem.Str.ofString "target"
    · simp only [q, if_true]
    · rw [if_neg q, if_neg q]
      by_cases q2 : y = PySem.Str.ofString "value"
      · subst q2; rw [if_pos rfl]; rfl
      · rw [if_neg q2]; rfl
  case hl => intro i m ch _; exact List.mem_append.mpr (.inr hm)
  case hc =>
    rintro i m ch ⟨⟨b', held', count', t2, t3, rfl, _⟩, _⟩ p hp
    simp only [List.mem_cons, List.not_mem_nil, or_false] at hp
    rcases hp with rfl | rfl | rfl <;> (intro e; simp at e)
  case turn =>
    rintro i hi' it io m ch hq tk3 io1 ⟨⟨b', held', count', t2, t3, rfl, i1, i2, i3, i4, i5, i6⟩, b0, hmm⟩ F3 N3
    have hj : i < ns.length := by rw [← hv.length]; exact hi'
    obtain ⟨tb, eb⟩ := intsAre_get hv i hi' hj
    rw [eb] at F3
    have F4 := fr_congr (m' := fun y => if y = PySem.Str.ofString "value" then some (.int ns[i] tb) else if y = PySem.Str.ofString "target" then some (.ref x) else List.lookup y [(PySem.Str.ofString "bits", Value.int c tc), (PySem.Str.ofString "values", Value.ref l)]) F3 (fun y => by
      by_cases q : y = PySem.Str.ofString "value"
      · simp only [q, if_true]
      · rw [if_neg q, if_neg q, hmm y]
        by_cases q2 : y = PySem.Str.ofString "target"
        · simp only [q2, if_true]
        · rw [if_neg q2, if_neg q2, if_neg q])
    clear F3 hmm eb
    have hkb := hb ns[i] (List.getElem_mem hj)
    have hkb0 := hkb.1
    have hkb1 := hkb.2
    have N4 : News g' L' hq ((x, instObj 275 dx) :: (dx, wrO h1 h2 h3 k1 k2 k3 t2 t3 bb held' count') :: (bb, baObj b') :: (it, io) :: news) := N3
    have a1 : it ≠ dx := fun e => by
      have z1 := (N4 (it, io) (by simp)).1
      have z2 := (N4 (dx, wrO h1 h2 h3 k1 k2 k3 t2 t3 bb held' count') (by simp)).1
      rw [show (it, io).1 = dx from e, z2] at z1
      have z := congrArg Obj.cls (Option.some.inj z1)
      rw [io1.1] at z; simp at z
    have a2 : it ≠ bb := fun e => by
      have z1 := (N4 (it, io) (by simp)).1
      have z2 := (N4 (bb, baObj b') (by simp)).1
      rw [show (it, io).1 = bb from e, z2] at z1
      have z := congrArg Obj.cls (Option.some.inj z1)
      rw [io1.1] at z; simp at z
    have r1 : ∀ p ∈ (it, io) :: news, p.1 ≠ dx := fun p hp => by
      rcases List.mem_cons.mp hp with rfl | hp
      · exact a1
      · exact Nat.ne_of_lt (l2 p hp)
    have r2 : ∀ p ∈ (it, io) :: news, p.1 ≠ bb := fun p hp => by
      rcases List.mem_cons.mp hp with rfl | hp
      · exact a2
      · exact Nat.ne_of_lt (l3 p hp)
    have cb : c * (i : Int) ≤ 24 * 64 := Int.mul_le_mul c1 (by omega) (by omega) (by decide)
    have bz : b'.size ≤ 100000 := by omega
    refine execsM_cons (ExprM (MethodM ?_))
    k_steps
    refine callWithM_of (P := (Mine.hd.heap_39 w.params).In) rfl (keeps_K (by k_is)) ?_
    refine evalArgsM_plain (splicedM_cons (wpR_any ?_))
    rw [if_neg Bool.false_ne_true]
    k_steps
    refine splicedM_cons (wpR_any ?_)
    dsimp only
    rw [if_neg Bool.false_ne_true]
    k_steps
    refine wpR_pure ?_
    refine ⟨X'.keeps F4.keep, ?_⟩
    show wpM true _ _ (call (.ref 258) [.ref x, .int ns[i] _, .int c _]) _ _ _
    k_dflt (refine' put_high ?B ?F ?X ?N ?T ?hk ?hd ?hu x1 x2 x3 r1 r2 ?bz i1 i2 i3 i4 c0 c1 hkb0 hkb1 ?_; (case B => k_asm); (case F => k_asm); (case X => k_asm); (case N => k_asm); (case T => k_asm); (case hk => first | assumption | exact rfl); (case hd => first | exact n_up (by assumption) (by decide) | ktr_room); (case hu => first | exact n_up (by assumption) (by decide) | ktr_units); (case bz => exact bz); k_whole)
    intro b2 held2 count2 t2' t3' hP tkP p1 p2 p3 p4 p5 p6 FP NP
    refine ⟨rfl, ?_⟩
    dsimp only
    refine execsM_nil ?_
    refine ⟨_, [(x, instObj 275 dx), (dx, wrO h1 h2 h3 k1 k2 k3 t2' t3' bb held2 count2), (bb, baObj b2)], _, _, rfl, ⟨⟨b2, held2, count2, t2', t3', rfl, p1, p2, p3, p4, ?_, ?_⟩, some (.int ns[i] tb), fun y => ?_⟩, FP, NP⟩
    · have e1 : c * ((i + 1 : Nat) : Int) = c * (i : Int) + c := by rw [Int.natCast_succ, Int.mul_add, Int.mul_one]
      omega
    · rw [p6, i6, List.take_succ_eq_append_getElem hj, List.flatMap_append]
      simp
    · by_cases q : y = PySem.Str.ofString "target"
      · subst q; rfl
      · by_cases q2 : y = PySem.Str.ofString "value"
        · subst q2; rfl
        · simp only [if_neg q, if_neg q2]
  case done =>
    rintro m ch hq tk3 ⟨⟨b', held', count', t2, t3, rfl, i1, i2, i3, i4, i5, i6⟩, b0, hmm⟩ F3 N3
    have F4 := fr_congr (m' := fun y => if y = PySem.Str.ofString "target" then some (.ref x) else if y = PySem.Str.ofString "value" then b0 else List.lookup y [(PySem.Str.ofString "bits", Value.int c tc), (PySem.Str.ofString "values", Value.ref l)]) F3 hmm
    clear F3 hmm
    have hvl := hv.length
    have cb : c * (vs.length : Int) ≤ 24 * 64 := Int.mul_le_mul c1 (by omega) (by omega) (by decide)
    have bz : b'.size ≤ 100000 := by omega
    have r1 : ∀ p ∈ news, p.1 ≠ dx := fun p hp => Nat.ne_of_lt (l2 p hp)
    have r2 : ∀ p ∈ news, p.1 ≠ bb := fun p hp => Nat.ne_of_lt (l3 p hp)
    have N4 : News g' L' hq ((x, instObj 275 dx) :: (dx, wrO h1 h2 h3 k1 k2 k3 t2 t3 bb held' count') :: (bb, baObj b') :: news) := N3
    dsimp only
    refine execsM_any ?_
    k_steps
    k_dflt (refine' octs_high ?B ?F ?X ?N ?T ?hk ?hd ?hu x1 x2 x3 r1 r2 bz i1 i2 i3 i4 ?_; (case B => k_asm); (case F => k_asm); (case X => k_asm); (case N => k_asm); (case T => k_asm); (case hk => first | assumption | exact rfl); (case hd => first | exact n_up (by assumption) (by decide) | ktr_room); (case hu => first | exact n_up (by assumption) (by decide) | ktr_units); k_whole)
    intro o t hO tkO eO FO NO
    k_steps
    exact ret o t hO tkO (by
      have z := writer_high (B := KBw.bInts b') (fun k hk => KBw.ints_in hk) i1 i2 i3 i4
      rw [i6, hvl, List.take_length] at z
      rw [eO]; exact z.symm) (by k_asm) (fun p hp => by rename_i kF kN Tc kX; exact kN p (.tail _ (.tail _ (.tail _ hp))))
end
end
section -- C2
set_option maxRecDepth 100000
set_option maxHeartbeats 8000000
set_option linter.unusedVariables false

abbrev rdO (h1 h2 h3 h4 : Int) (k1 k2 k3 k4 t0 t1 t2 t3 : Tok) (D : Array UInt8) (at_ held count : Int) : Obj :=
  dictOf [⟨h1, .str (PySem.Str.ofString "data") k1, .bytes D t0⟩, ⟨h2, .str (PySem.Str.ofString "at") k2, .int at_ t1⟩, ⟨h3, .str (PySem.Str.ofString "held") k3, .int held t2⟩, ⟨h4, .str (PySem.Str.ofString "count") k4, .int count t3⟩] 4


section
variable {w : World} {p : Program} {loose : List PySem.Str} {mean : ExcName → Option Value} {mg mb : PySem.Str → Option Value}
  {dp un : Nat} {gd : Option (List Code)} {cn : PySem.Str} {cs : Scope} {a : Addr} {ccd : Value} {cl : List (PySem.Str × Addr)} {outer : List Env} {A₀ : Around} {base h₀ : Heap} {L : Addr} {m : PySem.Str → Option Value} {rest : List (Addr × Obj)} {s : Shared} {Q E : Value → Shared → Prop}
  {h1 h2 h3 h4 : Int} {k1 k2 k3 k4 t0 t1 t2 t3 : Tok} {D : Array UInt8} {at_ held count : Int} {x dx : Addr} {ks : List Int}

theorem left_c (B : Below A₀ base outer h₀) (F : Fr h₀ L s.heap m) (X : (Mine.hd.heap_39 w.params).In h₀) (N : News h₀ L s.heap ((x, instObj 135 dx) :: (dx, rdO h1 h2 h3 h4 k1 k2 k3 k4 t0 t1 t2 t3 D at_ held count) :: rest)) (T : Top p loose mean mg mb h₀) (hk : cs.kind = .function)
    (hd : dp + 8 < recursionLimit) (hu : un + 100 < cLine) (hD : KBw.bInts D = ks) (hks : ks.length ≤ 4096) (hxd : x ≠ dx) (hr : ∀ p ∈ rest, p.1 ≠ dx)
    (ret : ∀ t h' tk, Fr h₀ L h' m → News h₀ L h' ((x, instObj 135 dx) :: (dx, rdO h1 h2 h3 h4 k1 k2 k3 k4 t0 t1 t2 t3 D at_ held count) :: rest) → Q (.int (count + 8 * ((ks.length : Int) - at_)) t) { s with heap := h', toks := tk }) :
    wpAny (model Challenge.rw_nn0201_01.row.prog w) (ktrTop dp un gd cn cs L a ccd cl outer) (call (.ref 104) [.ref x]) Q E s := by
  refine wpAny_call ?_
  k_dflt (refine' code_def ?k1 ?k2 ?k3 ?k4 ?k5 ?kA ?kF ?kK ?k6 ?k7 ?k8 ?k9 ?kB ?_ ?c2 ?c3 ?c4 ?c5; (case kA => exact rfl); (case kF => exact rfl); (case kK => assumption); (case k1 => k_asm); (case k2 => k_asm); (case k3 => k_asm); (case k4 => k_asm); (case k5 => k_asm); (case k6 => k_is); (case k7 => k_is); (case k8 => ktr_room); (case k9 => first | exact BindsTo.of_eq rfl | exact binds_K (by k_in) rfl (by k_is) rfl rfl rfl); (case c5 => decide); (case kB => exact locs rfl); (case c2 => exact rfl); (case c3 => exact rfl); (case c4 => exact rfl); k_whole; intro g' L' h' FG' F' N' B' X' T'; (try dsimp only); (try k_lift B'); (try k_fold))
  k_steps
  exact ret _ _ _ (by k_asm) (by k_asm)


theorem need_ok {c : Int} {tc : Tok} (B : Below A₀ base outer h₀) (F : Fr h₀ L s.heap m) (X : (Mine.hd.heap_39 w.params).In h₀) (N : News h₀ L s.heap ((x, instObj 135 dx) :: (dx, rdO h1 h2 h3 h4 k1 k2 k3 k4 t0 t1 t2 t3 D at_ held count) :: rest)) (T : Top p loose mean mg mb h₀) (hk : cs.kind = .function)
    (hd : dp + 12 < recursionLimit) (hu : un + 200 < cLine) (hD : KBw.bInts D = ks) (hks : ks.length ≤ 4096) (hxd : x ≠ dx) (hr : ∀ p ∈ rest, p.1 ≠ dx) (hc : c ≤ count + 8 * ((ks.length : Int) - at_))
    (ret : ∀ h' tk, Fr h₀ L h' m → News h₀ L h' ((x, instObj 135 dx) :: (dx, rdO h1 h2 h3 h4 k1 k2 k3 k4 t0 t1 t2 t3 D at_ held count) :: rest) → Q .none { s with heap := h', toks := tk }) :
    wpAny (model Challenge.rw_nn0201_01.row.prog w) (ktrTop dp un gd cn cs L a ccd cl outer) (call (.ref 111) [.ref x, .int c tc]) Q E s := by
  refine wpAny_call ?_
  k_dflt (refine' code_def ?k1 ?k2 ?k3 ?k4 ?k5 ?kA ?kF ?kK ?k6 ?k7 ?k8 ?k9 ?kB ?_ ?c2 ?c3 ?c4 ?c5; (case kA => exact rfl); (case kF => exact rfl); (case kK => assumption); (case k1 => k_asm); (case k2 => k_asm); (case k3 => k_asm); (case k4 => k_asm); (case k5 => k_asm); (case k6 => k_is); (case k7 => k_is); (case k8 => ktr_room); (case k9 => first | exact BindsTo.of_eq rfl | exact binds_K (by k_in) rfl (by k_is) rfl rfl rfl); (case c5 => decide); (case kB => exact locs rfl); (case c2 => exact rfl); (case c3 => exact rfl); (case c4 => exact rfl); k_whole; intro g' L' h' FG' F' N' B' X' T'; (try dsimp only); (try k_lift B'); (try k_fold))
  (k_steps <;> repeat' ((with_reducible refine go_on ?_); (first | (with_reducible (k_here; k_dflt (refine' left_c ?B ?F ?X ?N ?T ?hk ?hd ?hu ?hD ?hks ?hxd ?hr ?_; (case B => k_asm); (case F => k_asm); (case X => k_asm); (case N => k_asm); (case T => k_asm); (case hk => first | assumption | exact rfl); (case hd => first | exact n_up (by assumption) (by decide) | ktr_room); (case hu => first | exact n_up (by assumption) (by decide) | ktr_units); (case hD => assumption); (case hks => assumption); (case hxd => assumption); (case hr => assumption); k_whole); intro t' h' tk' F' N')) | fail); k_steps))
  all_goals first
    | (exfalso; omega)
    | exact ret _ _ (by k_asm) (by k_asm)

theorem need_no {c : Int} {tc : Tok} (B : Below A₀ base outer h₀) (F : Fr h₀ L s.heap m) (X : (Mine.hd.heap_39 w.params).In h₀) (N : News h₀ L s.heap ((x, instObj 135 dx) :: (dx, rdO h1 h2 h3 h4 k1 k2 k3 k4 t0 t1 t2 t3 D at_ held count) :: rest)) (T : Top p loose mean mg mb h₀) (hk : cs.kind = .function)
    (hd : dp + 12 < recursionLimit) (hu : un + 200 < cLine) (hD : KBw.bInts D = ks) (hks : ks.length ≤ 4096) (hxd : x ≠ dx) (hr : ∀ p ∈ rest, p.1 ≠ dx) (hc : ¬ c ≤ count + 8 * ((ks.length : Int) - at_))
    (raise : ∀ g e h' tk, Fr h₀ L g m → RaisedSN base g (envX cn cs L a ccd cl :: outer) e (.ref 59) ((x, instObj 135 dx) :: (dx, rdO h1 h2 h3 h4 k1 k2 k3 k4 t0 t1 t2 t3 D at_ held count) :: rest) h' → g.UpToSlots h' → E (.ref e) { s with heap := h', toks := tk }) :
    wpAny (model Challenge.rw_nn0201_01.row.prog w) (ktrTop dp un gd cn cs L a ccd cl outer) (call (.ref 111) [.ref x, .int c tc]) Q E s := by
  refine wpAny_call ?_
  k_dflt (refine' code_def ?k1 ?k2 ?k3 ?k4 ?k5 ?kA ?kF ?kK ?k6 ?k7 ?k8 ?k9 ?kB ?_ ?c2 ?c3 ?c4 ?c5; (case kA => exact rfl); (case kF => exact rfl); (case kK => assumption); (case k1 => k_asm); (case k2 => k_asm); (case k3 => k_asm); (case k4 => k_asm); (case k5 => k_asm); (case k6 => k_is); (case k7 => k_is); (case k8 => ktr_room); (case k9 => first | exact BindsTo.of_eq rfl | exact binds_K (by k_in) rfl (by k_is) rfl rfl rfl); (case c5 => decide); (case kB => exact locs rfl); (case c2 => exact rfl); (case c3 => exact rfl); (case c4 => exact rfl); k_whole; intro g' L' h' FG' F' N' B' X' T'; (try dsimp only); (try k_lift B'); (try k_fold))
  (k_steps <;> repeat' ((with_reducible refine go_on ?_); (first | (with_reducible (k_here; k_dflt (first | (refine' exc_make1 ?B ?F ?X ?N ?T ?hk ?hd ?hu ?_; (case B => k_asm); (case F => k_asm); (case X => k_asm); (case N => k_asm); (case T => k_asm); (case hk => first | assumption | exact rfl); (case hd => first | exact n_up (by assumption) (by decide) | ktr_room); (case hu => first | exact n_up (by assumption) (by decide) | ktr_units); k_whole) | (refine' exc_make2 ?B ?F ?X ?N ?T ?hk ?hd ?hu ?_; (case B => k_asm); (case F => k_asm); (case X => k_asm); (case N => k_asm); (case T => k_asm); (case hk => first | assumption | exact rfl); (case hd => first | exact n_up (by assumption) (by decide) | ktr_room); (case hu => first | exact n_up (by assumption) (by decide) | ktr_units); k_whole)); intro h' tk' e' tp' od' F' N' nd'; refine' raisedBy_ (by assumption) F' N' ?_; refine' leave_newF (by assumption) F' N' nd' ?_ rfl; intro h'' R' U')) | (with_reducible (k_here; k_dflt (refine' left_c ?B ?F ?X ?N ?T ?hk ?hd ?hu ?hD ?hks ?hxd ?hr ?_; (case B => k_asm); (case F => k_asm); (case X => k_asm); (case N => k_asm); (case T => k_asm); (case hk => first | assumption | exact rfl); (case hd => first | exact n_up (by assumption) (by decide) | ktr_room); (case hu => first | exact n_up (by assumption) (by decide) | ktr_units); (case hD => assumption); (case hks => assumption); (case hxd => assumption); (case hr => assumption); k_whole); intro t' h' tk' F' N')) | fail); k_steps))
  all_goals first
    | (exfalso; omega)
    | (refine' raise _ _ _ _ ?_ (by assumption) (by assumption) <;> assumption)
end
end
local macro_rules | `(tactic| walk_at "call type:bytes") => `(tactic| (k_here; (with_reducible show wpAny _ _ (call (Value.type "bytes") [Value.bytes _ _]) _ _ _); refine bytes_of_bytes ?_))
section -- C4
set_option maxRecDepth 100000
set_option maxHeartbeats 8000000
set_option linter.unusedVariables false

local macro_rules | `(tactic| walk_at "exec While Compare cons nil") => `(tactic| refine of_stop ?_)

inductive TI_high (s : Shared) (g' : Heap) (L' x dx : Addr) (rest : List (Addr × Obj)) (c : Int) (tc : Tok) (h1 h2 h3 h4 : Int) (k1 k2 k3 k4 t0 : Tok) (D : Array UInt8) (ks : List Int) (at_ held count : Int) (n : Nat) (s' : Shared) : Prop
  | mk (h' : Heap) (tk : Nat) (at' held' count' : Int) (t1 t2 t3 : Tok) (q0 : s' = { s with heap := h', toks := tk }) (q1 : n = (c + 8 - count').toNat) (q2 : (0 ≤ at' ∧ at' ≤ ks.length ∧ 0 ≤ held' ∧ held' < 2 ^ count'.toNat ∧ 0 ≤ count' ∧ count' < c + 8 ∧ count' + 8 * ((ks.length : Int) - at') = count + 8 * ((ks.length : Int) - at_) ∧
      rowH held count.toNat ++ bitsH (ks.drop at_.toNat) = rowH held' count'.toNat ++ bitsH (ks.drop at'.toNat))) (q3 : Fr g' L' h' (fun y => List.lookup y [(PySem.Str.ofString "count", Value.int c tc), (PySem.Str.ofString "self", Value.ref x)])) (q4 : News g' L' h' ((x, instObj 177 dx) :: (dx, rdO h1 h2 h3 h4 k1 k2 k3 k4 t0 t1 t2 t3 D at' held' count') :: rest)) : TI_high s g' L' x dx rest c tc h1 h2 h3 h4 k1 k2 k3 k4 t0 D ks at_ held count n s'
section
variable {w : World} {p : Program} {loose : List PySem.Str} {mean : ExcName → Option Value} {mg mb : PySem.Str → Option Value}
  {dp un : Nat} {gd : Option (List Code)} {cn : PySem.Str} {cs : Scope} {a : Addr} {ccd : Value} {cl : List (PySem.Str × Addr)} {outer : List Env} {A₀ : Around} {base h₀ : Heap} {L : Addr} {m : PySem.Str → Option Value} {rest : List (Addr × Obj)} {s : Shared} {Q E : Value → Shared → Prop}
  {h1 h2 h3 h4 : Int} {k1 k2 k3 k4 t0 t1 t2 t3 : Tok} {D : Array UInt8} {at_ held count : Int} {x dx : Addr} {ks : List Int}

theorem hleft_c (B : Below A₀ base outer h₀) (F : Fr h₀ L s.heap m) (X : (Mine.hd.heap_39 w.params).In h₀) (N : News h₀ L s.heap ((x, instObj 177 dx) :: (dx, rdO h1 h2 h3 h4 k1 k2 k3 k4 t0 t1 t2 t3 D at_ held count) :: rest)) (T : Top p loose mean mg mb h₀) (hk : cs.kind = .function)
    (hd : dp + 8 < recursionLimit) (hu : un + 100 < cLine) (hD : KBw.bInts D = ks) (hks : ks.length ≤ 4096) (hxd : x ≠ dx) (hr : ∀ p ∈ rest, p.1 ≠ dx)
    (ret : ∀ t h' tk, Fr h₀ L h' m → News h₀ L h' ((x, instObj 177 dx) :: (dx, rdO h1 h2 h3 h4 k1 k2 k3 k4 t0 t1 t2 t3 D at_ held count) :: rest) → Q (.int (count + 8 * ((ks.length : Int) - at_)) t) { s with heap := h', toks := tk }) :
    wpAny (model Challenge.rw_nn0201_01.row.prog w) (ktrTop dp un gd cn cs L a ccd cl outer) (call (.ref 160) [.ref x]) Q E s := by
  refine wpAny_call ?_
  k_dflt (refine' code_def ?k1 ?k2 ?k3 ?k4 ?k5 ?kA ?kF ?kK ?k6 ?k7 ?k8 ?k9 ?kB ?_ ?c2 ?c3 ?c4 ?c5; (case kA => exact rfl); (case kF => exact rfl); (case kK => assumption); (case k1 => k_asm); (case k2 => k_asm); (case k3 => k_asm); (case k4 => k_asm); (case k5 => k_asm); (case k6 => k_is); (case k7 => k_is); (case k8 => ktr_room); (case k9 => first | exact BindsTo.of_eq rfl | exact binds_K (by k_in) rfl (by k_is) rfl rfl rfl); (case c5 => decide); (case kB => exact locs rfl); (case c2 => exact rfl); (case c3 => exact rfl); (case c4 => exact rfl); k_whole; intro g' L' h' FG' F' N' B' X' T'; (try dsimp only); (try k_lift B'); (try k_fold))
  k_steps
  exact ret _ _ _ (by k_asm) (by k_asm)


theorem htake_ok {c : Int} {tc : Tok} (B : Below A₀ base outer h₀) (F : Fr h₀ L s.heap m) (X : (Mine.hd.heap_39 w.params).In h₀) (N : News h₀ L s.heap ((x, instObj 177 dx) :: (dx, rdO h1 h2 h3 h4 k1 k2 k3 k4 t0 t1 t2 t3 D at_ held count) :: rest)) (T : Top p loose mean mg mb h₀) (hk : cs.kind = .function)
    (hd : dp + 16 < recursionLimit) (hu : un + 300 < cLine) (hD : KBw.bInts D = ks) (hks : ks.length ≤ 4096) (hxd : x ≠ dx) (hr : ∀ p ∈ rest, p.1 ≠ dx) (hc : c ≤ count + 8 * ((ks.length : Int) - at_))
    (a0 : 0 ≤ at_) (a1 : at_ ≤ ks.length) (h0 : 0 ≤ held) (hh : held < 2 ^ count.toNat) (c0 : 0 ≤ count) (c8 : count < 8) (cc0 : 0 ≤ c) (cc1 : c ≤ 40)
    (ret : ∀ (v at' held' count' : Int) t t1 t2 t3 h' tk, 0 ≤ at' → at' ≤ ks.length → 0 ≤ held' → held' < 2 ^ count'.toNat → 0 ≤ count' → count' < 8 → count' + 8 * ((ks.length : Int) - at') = count + 8 * ((ks.length : Int) - at_) - c →
      rowH held count.toNat ++ bitsH (ks.drop at_.toNat) = rowH v c.toNat ++ (rowH held' count'.toNat ++ bitsH (ks.drop at'.toNat)) → 0 ≤ v → v < 2 ^ c.toNat →
      Fr h₀ L h' m → News h₀ L h' ((x, instObj 177 dx) :: (dx, rdO h1 h2 h3 h4 k1 k2 k3 k4 t0 t1 t2 t3 D at' held' count') :: rest) → Q (.int v t) { s with heap := h', toks := tk }) :
    wpAny (model Challenge.rw_nn0201_01.row.prog w) (ktrTop dp un gd cn cs L a ccd cl outer) (call (.ref 167) [.ref x, .int c tc]) Q E s := by
  refine wpAny_call ?_
  k_dflt (refine' code_def ?k1 ?k2 ?k3 ?k4 ?k5 ?kA ?kF ?kK ?k6 ?k7 ?k8 ?k9 ?kB ?_ ?c2 ?c3 ?c4 ?c5; (case kA => exact rfl); (case kF => exact rfl); (case kK => assumption); (case k1 => k_asm); (case k2 => k_asm); (case k3 => k_asm); (case k4 => k_asm); (case k5 => k_asm); (case k6 => k_is); (case k7 => k_is); (case k8 => ktr_room); (case k9 => first | exact BindsTo.of_eq rfl | exact binds_K (by k_in) rfl (by k_is) rfl rfl rfl); (case c5 => decide); (case kB => exact locs rfl); (case c2 => exact rfl); (case c3 => exact rfl); (case c4 => exact rfl); k_whole; intro g' L' h' FG' F' N' B' X' T'; (try dsimp only); (try k_lift B'); (try k_fold))
  (k_steps <;> repeat' ((with_reducible refine go_on ?_); (first | (with_reducible (k_here; k_dflt (refine' hleft_c ?B ?F ?X ?N ?T ?hk ?hd ?hu ?hD ?hks ?hxd ?hr ?_; (case B => k_asm); (case F => k_asm); (case X => k_asm); (case N => k_asm); (case T => k_asm); (case hk => first | assumption | exact rfl); (case hd => first | exact n_up (by assumption) (by decide) | ktr_room); (case hu => first | exact n_up (by assumption) (by decide) | ktr_units); (case hD => assumption); (case hks => assumption); (case hxd => assumption); (case hr => assumption); k_whole); intro t' h' tk' F' N')) | fail); k_steps))
  refine go_on ?_
  refine' WhileAny (TI_high s g' L' x dx rest c tc h1 h2 h3 h4 k1 k2 k3 k4 t0 D ks at_ held count) (c + 8 - count).toNat ?init ?turn
  case init => exact ⟨_, _, at_, held, count, t1, t2, t3, rfl, rfl, ⟨a0, a1, h0, hh, c0, by omega, rfl, rfl⟩, by k_asm, by k_asm⟩
  case turn =>
    intro n s' hWz
    refine hideG fun Gz hGz => ?_
    obtain ⟨h', tk, at', held', count', t1, t2, t3, rfl, rfl, ⟨i1, i2, i3, i4, i5, i6, i7, i8⟩, F2, N2⟩ := hWz
    refine hGz ?_
    clear hGz Gz
    have ib := lt48 (n := count'.toNat) (by omega) i4
    (k_steps <;> repeat' ((with_reducible refine go_on ?_); (first | (with_reducible (k_here; k_dflt (refine' low_bits_c ?B ?F ?X ?N ?T ?hk ?hd ?hu ?h0 ?h1 ?h2 ?_; (case B => k_asm); (case F => k_asm); (case X => k_asm); (case N => k_asm); (case T => k_asm); (case hk => first | assumption | exact rfl); (case hd => first | exact n_up (by assumption) (by decide) | ktr_room); (case hu => first | exact n_up (by assumption) (by decide) | ktr_units); (case h0 => omega); (case h1 => omega); (case h2 => omega); k_whole); intro tL hL tkL FL NL)) | fail); k_steps))
    · refine' turned_ ?lt ⟨_, _, _, _, _, _, _, _, rfl, rfl, ?facts, ?F, ?N⟩
      case N => assumption
      case F => assumption
      case lt => omega
      have z := stepH (ks := ks) i1 (by omega) i3 i4 i5 (by assumption) (by assumption)
      exact ⟨by omega, by omega, z.1, z.2.1, by omega, by omega, by omega, i8.trans z.2.2⟩
    · have z := cutH (c := c) i3 i4 cc0 (by omega)
      refine' ret _ _ _ _ _ _ _ _ _ _ ?_ ?_ ?_ ?_ ?_ ?_ ?_ ?_ ?_ ?_ ?F ?N
      case N => k_asm
      case F => k_asm
      · exact i1
      · exact i2
      · exact z.2.2.1
      · exact z.2.2.2.1
      · omega
      · omega
      · omega
      · rw [i8, z.2.2.2.2, List.append_assoc]
      · exact z.1
      · exact z.2.1

theorem htake_no {c : Int} {tc : Tok} (B : Below A₀ base outer h₀) (F : Fr h₀ L s.heap m) (X : (Mine.hd.heap_39 w.params).In h₀) (N : News h₀ L s.heap ((x, instObj 177 dx) :: (dx, rdO h1 h2 h3 h4 k1 k2 k3 k4 t0 t1 t2 t3 D at_ held count) :: rest)) (T : Top p loose mean mg mb h₀) (hk : cs.kind = .function)
    (hd : dp + 16 < recursionLimit) (hu : un + 300 < cLine) (hD : KBw.bInts D = ks) (hks : ks.length ≤ 4096) (hxd : x ≠ dx) (hr : ∀ p ∈ rest, p.1 ≠ dx) (hc : ¬ c ≤ count + 8 * ((ks.length : Int) - at_))
    (raise : ∀ g e h' tk, Fr h₀ L g m → RaisedSN base g (envX cn cs L a ccd cl :: outer) e (.ref 59) ((x, instObj 177 dx) :: (dx, rdO h1 h2 h3 h4 k1 k2 k3 k4 t0 t1 t2 t3 D at_ held count) :: rest) h' → g.UpToSlots h' → E (.ref e) { s with heap := h', toks := tk }) :
    wpAny (model Challenge.rw_nn0201_01.row.prog w) (ktrTop dp un gd cn cs L a ccd cl outer) (call (.ref 167) [.ref x, .int c tc]) Q E s := by
  refine wpAny_call ?_
  k_dflt (refine' code_def ?k1 ?k2 ?k3 ?k4 ?k5 ?kA ?kF ?kK ?k6 ?k7 ?k8 ?k9 ?kB ?_ ?c2 ?c3 ?c4 ?c5; (case kA => exact rfl); (case kF => exact rfl); (case kK => assumption); (case k1 => k_asm); (case k2 => k_asm); (case k3 => k_asm); (case k4 => k_asm); (case k5 => k_asm); (case k6 => k_is); (case k7 => k_is); (case k8 => ktr_room); (case k9 => first | exact BindsTo.of_eq rfl | exact binds_K (by k_in) rfl (by k_is) rfl rfl rfl); (case c5 => decide); (case kB => exact locs rfl); (case c2 => exact rfl); (case c3 => exact rfl); (case c4 => exact rfl); k_whole; intro g' L' h' FG' F' N' B' X' T'; (try dsimp only); (try k_lift B'); (try k_fold))
  (k_steps <;> repeat' ((with_reducible refine go_on ?_); (first | (with_reducible (k_here; k_dflt (first | (refine' exc_make1 ?B ?F ?X ?N ?T ?hk ?hd ?hu ?_; (case B => k_asm); (case F => k_asm); (case X => k_asm); (case N => k_asm); (case T => k_asm); (case hk => first | assumption | exact rfl); (case hd => first | exact n_up (by assumption) (by decide) | ktr_room); (case hu => first | exact n_up (by assumption) (by decide) | ktr_units); k_whole) | (refine' exc_make2 ?B ?F ?X ?N ?T ?hk ?hd ?hu ?_; (case B => k_asm); (case F => k_asm); (case X => k_asm); (case N => k_asm); (case T => k_asm); (case hk => first | assumption | exact rfl); (case hd => first | exact n_up (by assumption) (by decide) | ktr_room); (case hu => first | exact n_up (by assumption) (by decide) | ktr_units); k_whole)); intro h' tk' e' tp' od' F' N' nd'; refine' raisedBy_ (by assumption) F' N' ?_; refine' leave_newF (by assumption) F' N' nd' ?_ rfl; intro h'' R' U')) | (with_reducible (k_here; k_dflt (refine' hleft_c ?B ?F ?X ?N ?T ?hk ?hd ?hu ?hD ?hks ?hxd ?hr ?_; (case B => k_asm); (case F => k_asm); (case X => k_asm); (case N => k_asm); (case T => k_asm); (case hk => first | assumption | exact rfl); (case hd => first | exact n_up (by assumption) (by decide) | ktr_room); (case hu => first | exact n_up (by assumption) (by decide) | ktr_units); (case hD => assumption); (case hks => assumption); (case hxd => assumption); (case hr => assumption); k_whole); intro t' h' tk' F' N')) | fail); k_steps))
  refine' raise _ _ _ _ ?_ (by assumption) (by assumption) <;> assumption

theorem halign_c (B : Below A₀ base outer h₀) (F : Fr h₀ L s.heap m) (X : (Mine.hd.heap_39 w.params).In h₀) (N : News h₀ L s.heap ((x, instObj 177 dx) :: (dx, rdO h1 h2 h3 h4 k1 k2 k3 k4 t0 t1 t2 t3 D at_ held count) :: rest)) (T : Top p loose mean mg mb h₀) (hk : cs.kind = .function)
    (hd : dp + 12 < recursionLimit) (hu : un + 200 < cLine) (hD : KBw.bInts D = ks) (hks : ks.length ≤ 4096) (hxd : x ≠ dx) (hr : ∀ p ∈ rest, p.1 ≠ dx)
    (ret : ∀ t2 t3 h' tk, Fr h₀ L h' m → News h₀ L h' ((x, instObj 177 dx) :: (dx, rdO h1 h2 h3 h4 k1 k2 k3 k4 t0 t1 t2 t3 D at_ 0 0) :: rest) → Q .none { s with heap := h', toks := tk }) :
    wpAny (model Challenge.rw_nn0201_01.row.prog w) (ktrTop dp un gd cn cs L a ccd cl outer) (call (.ref 174) [.ref x]) Q E s := by
  refine wpAny_call ?_
  k_dflt (refine' code_def ?k1 ?k2 ?k3 ?k4 ?k5 ?kA ?kF ?kK ?k6 ?k7 ?k8 ?k9 ?kB ?_ ?c2 ?c3 ?c4 ?c5; (case kA => exact rfl); (case kF => exact rfl); (case kK => assumption); (case k1 => k_asm); (case k2 => k_asm); (case k3 => k_asm); (case k4 => k_asm); (case k5 => k_asm); (case k6 => k_is); (case k7 => k_is); (case k8 => ktr_room); (case k9 => first | exact BindsTo.of_eq rfl | exact binds_K (by k_in) rfl (by k_is) rfl rfl rfl); (case c5 => decide); (case kB => exact locs rfl); (case c2 => exact rfl); (case c3 => exact rfl); (case c4 => exact rfl); k_whole; intro g' L' h' FG' F' N' B' X' T'; (try dsimp only); (try k_lift B'); (try k_fold))
  k_steps
  refine' ret _ _ _ _ ?F ?N
  case N => k_asm
  case F => k_asm

end
end
section -- C15
set_option maxRecDepth 100000
set_option maxHeartbeats 8000000
set_option linter.unusedVariables false

local macro_rules | `(tactic| walk_at "exec While Compare cons nil") => `(tactic| refine of_stop ?_)

section
variable {w : World} {p : Program} {loose : List PySem.Str} {mean : ExcName → Option Value} {mg mb : PySem.Str → Option Value}
  {dp un : Nat} {gd : Option (List Code)} {cn : PySem.Str} {cs : Scope} {a : Addr} {ccd : Value} {cl : List (PySem.Str × Addr)} {outer : List Env} {A₀ : Around} {base h₀ : Heap} {L : Addr} {m : PySem.Str → Option Value} {rest : List (Addr × Obj)} {s : Shared} {Q E : Value → Shared → Prop}
  {h1 h2 h3 h4 : Int} {k1 k2 k3 k4 t0 t1 t2 t3 : Tok} {D : Array UInt8} {at_ held count : Int} {x dx : Addr} {ks : List Int}


theorem make_rd (B : Below A₀ base outer h₀) (F : Fr h₀ L s.heap m) (X : (Mine.hd.heap_39 w.params).In h₀) (N : News h₀ L s.heap rest) (T : Top p loose mean mg mb h₀) (hk : cs.kind = .function)
    (hd : dp + 12 < recursionLimit) (hu : un + 200 < cLine)
    (ret : ∀ x dx h1 h2 h3 h4 k1 k2 k3 k4 t0 t1 t2 t3 h' tk, x ≠ dx → (∀ p ∈ rest, p.1 < dx) → (∀ p ∈ rest, p.1 < x) → Fr h₀ L h' m → News h₀ L h' ((x, instObj 135 dx) :: (dx, rdO h1 h2 h3 h4 k1 k2 k3 k4 t0 t1 t2 t3 D at_ 0 0) :: rest) → Q (.ref x) { s with heap := h', toks := tk }) :
    wpAny (model Challenge.rw_nn0201_01.row.prog w) (ktrTop dp un gd cn cs L a ccd cl outer) (call (.ref 135) [.bytes D t0, .int at_ t1]) Q E s := by
  refine wpAny_call (make_K (fI := 97) F N (X.keeps F.keep) (by k_is) (by k_is) (by k_is) fun x dx h2 F2 N2 l1 l2 => ?_)
  rw [show (ktrTop dp un gd cn cs L a ccd cl outer).under (.builtin "type.__call__" ⟨.ref 135 :: [.bytes D t0, .int at_ t1], []⟩) = ktrTop (dp + 1) (un + 1) gd cn cs L a ccd cl outer from rfl]
  have xd : x ≠ dx := Nat.ne_of_gt l2
  have lx : ∀ p ∈ rest, p.1 < x := fun p hp => Nat.lt_trans (l1 p hp) l2
  have ld : ∀ p ∈ rest, p.1 ≠ dx := fun p hp => Nat.ne_of_lt (l1 p hp)
  k_dflt (refine' code_def ?k1 ?k2 ?k3 ?k4 ?k5 ?kA ?kF ?kK ?k6 ?k7 ?k8 ?k9 ?kB ?_ ?c2 ?c3 ?c4 ?c5; (case kA => exact rfl); (case kF => exact rfl); (case kK => assumption); (case k1 => k_asm); (case k2 => k_asm); (case k3 => k_asm); (case k4 => k_asm); (case k5 => k_asm); (case k6 => k_is); (case k7 => k_is); (case k8 => ktr_room); (case k9 => first | exact BindsTo.of_eq rfl | exact binds_K (by k_in) rfl (by k_is) rfl rfl rfl); (case c5 => decide); (case kB => exact locs rfl); (case c2 => exact rfl); (case c3 => exact rfl); (case c4 => exact rfl); k_whole; intro g' L' h' FG' F' N' B' X' T'; (try dsimp only); (try k_lift B'); (try k_fold))
  k_steps
  exact ret x dx _ _ _ _ _ _ _ _ _ _ _ _ _ _ xd l1 lx (by k_asm) (by k_asm)

theorem make_hrd (B : Below A₀ base outer h₀) (F : Fr h₀ L s.heap m) (X : (Mine.hd.heap_39 w.params).In h₀) (N : News h₀ L s.heap rest) (T : Top p loose mean mg mb h₀) (hk : cs.kind = .function)
    (hd : dp + 12 < recursionLimit) (hu : un + 200 < cLine)
    (ret : ∀ x dx h1 h2 h3 h4 k1 k2 k3 k4 t0 t1 t2 t3 h' tk, x ≠ dx → (∀ p ∈ rest, p.1 < dx) → (∀ p ∈ rest, p.1 < x) → Fr h₀ L h' m → News h₀ L h' ((x, instObj 177 dx) :: (dx, rdO h1 h2 h3 h4 k1 k2 k3 k4 t0 t1 t2 t3 D 0 0 0) :: rest) → Q (.ref x) { s with heap := h', toks := tk }) :
    wpAny (model Challenge.rw_nn0201_01.row.prog w) (ktrTop dp un gd cn cs L a ccd cl outer) (call (.ref 177) [.bytes D t0]) Q E s := by
  refine wpAny_call (make_K (fI := 153) F N (X.keeps F.keep) (by k_is) (by k_is) (by k_is) fun x dx h2 F2 N2 l1 l2 => ?_)
  rw [show (ktrTop dp un gd cn cs L a ccd cl outer).under (.builtin "type.__call__" ⟨.ref 177 :: [.bytes D t0], []⟩) = ktrTop (dp + 1) (un + 1) gd cn cs L a ccd cl outer from rfl]
  have xd : x ≠ dx := Nat.ne_of_gt l2
  have lx : ∀ p ∈ rest, p.1 < x := fun p hp => Nat.lt_trans (l1 p hp) l2
  have ld : ∀ p ∈ rest, p.1 ≠ dx := fun p hp => Nat.ne_of_lt (l1 p hp)
  k_dflt (refine' code_def ?k1 ?k2 ?k3 ?k4 ?k5 ?kA ?kF ?kK ?k6 ?k7 ?k8 ?k9 ?kB ?_ ?c2 ?c3 ?c4 ?c5; (case kA => exact rfl); (case kF => exact rfl); (case kK => assumption); (case k1 => k_asm); (case k2 => k_asm); (case k3 => k_asm); (case k4 => k_asm); (case k5 => k_asm); (case k6 => k_is); (case k7 => k_is); (case k8 => ktr_room); (case k9 => first | exact BindsTo.of_eq rfl | exact binds_K (by k_in) rfl (by k_is) rfl rfl rfl); (case c5 => decide); (case kB => exact locs rfl); (case c2 => exact rfl); (case c3 => exact rfl); (case c4 => exact rfl); k_whole; intro g' L' h' FG' F' N' B' X' T'; (try dsimp only); (try k_lift B'); (try k_fold))
  k_steps
  exact ret x dx _ _ _ _ _ _ _ _ _ _ _ _ _ _ xd l1 lx (by k_asm) (by k_asm)
end
end
section -- Co
open PyProof.Rows.LCg
set_option maxRecDepth 100000
set_option maxHeartbeats 4000000
set_option linter.unusedVariables false
section
variable {prog : Program} {w : World} {A : Around} {E : Value → Shared → Prop} {s : Shared} {h₀ : Heap} {L : Addr} {m : PySem.Str → Option Value} {env : Env}
def StepSrc (prog : Program) (w : World) (A : Around) (h₀ : Heap) (L : Addr) (m : PySem.Str → Option Value) (env : Env) (elt : Expr) (x : PySem.Str) (scope : Scope) (cl : List (PySem.Str × Addr)) (Fin : Shared → List Value → List (Addr × Obj) → Prop) (xv : Value) (s₁ : Shared) : Prop :=
  ∃ r a b c t u v n news, xv = .ref r ∧ A.handled = none ∧ Fr h₀ L s₁.heap m ∧ News h₀ L s₁.heap news ∧ IsRange s₁.heap r a b c t u v ∧ Builtin.Range.small a b c = true ∧ Builtin.Range.rangeSize a b c = ((n : Nat) : Int) ∧ n ≤ sizeLine ∧
      ∀ g, CompRest prog w A h₀ L m env elt x scope cl { s₁ with heap := g } (fun _ => True) (fun i v => ∃ t, v = .int (a + (i : Int) * c) t) (Fin { s₁ with heap := g }) n 0 [] news
theorem StepSrc.mk {elt : Expr} {x : PySem.Str} {scope : Scope} {cl : List (PySem.Str × Addr)} {Fin : Shared → List Value → List (Addr × Obj) → Prop} {r : Addr} {a b c : Int} {t u v : Tok} {news : List (Addr × Obj)} (n : Nat) (hh : A.handled = none) (F : Fr h₀ L s.heap m) (N : News h₀ L s.heap news)
    (hr : IsRange s.heap r a b c t u v) (hsm : Builtin.Range.small a b c = true) (hn : Builtin.Range.rangeSize a b c = ((n : Nat) : Int)) (hz : n ≤ sizeLine)
    (h : ∀ g, CompRest prog w A h₀ L m env elt x scope cl { s with heap := g } (fun _ => True) (fun i v => ∃ t, v = .int (a + (i : Int) * c) t) (Fin { s with heap := g }) n 0 [] news) : StepSrc prog w A h₀ L m env elt x scope cl Fin (.ref r) s :=
  ⟨r, a, b, c, t, u, v, n, news, rfl, hh, F, N, hr, hsm, hn, hz, h⟩
def EltEnd (h₀ : Heap) (L : Addr) (m : PySem.Str → Option Value) (s : Shared) (k : Int) (all : List (Addr × Obj)) (y : Value) (s₂ : Shared) : Prop := ∃ h' tk' t, y = .int k t ∧ s₂ = { s with heap := h', toks := tk' } ∧ Fr h₀ L h' m ∧ News h₀ L h' all
theorem EltEnd.mk {k : Int} {t : Tok} {all : List (Addr × Obj)} {h' : Heap} {tk' : Nat} (F : Fr h₀ L h' m) (N : News h₀ L h' all) : EltEnd h₀ L m s k all (.int k t) { s with heap := h', toks := tk' } := ⟨h', tk', t, rfl, rfl, F, N⟩
theorem EltEnd.of {k k' : Int} {t : Tok} {all : List (Addr × Obj)} {h' : Heap} {tk' : Nat} (e : k' = k) (F : Fr h₀ L h' m) (N : News h₀ L h' all) : EltEnd h₀ L m s k all (.int k' t) { s with heap := h', toks := tk' } := ⟨h', tk', t, by rw [e], rfl, F, N⟩
/- A list comprehension over a range of any step. -/
theorem ListComp_step {elt iter : Expr} {x : PySem.Str} {px : Pos} {scope : Scope} {cl : List (PySem.Str × Addr)} {pos : Pos} {Q : Value → Shared → Prop} (F₀ : Fr h₀ L s.heap m)
    (hclos : closureFor scope env = pure cl) (hcell : ∀ y ∈ scope.names, y.2 ≠ .cell) (hkind : scope.kind = .function)
    (hnames : ∀ y ∈ scope.names, y.2 = .local → scope.names.lookup y.1 = some .local) (hx : scope.names.lookup x = some .local)
    (h : wpAny (model prog w) A (eval iter env) (StepSrc prog w A h₀ L m env elt x scope cl (fun s₂ => FinE h₀ L m s₂ Q)) E s)
    (hs : ∀ x, foldedSetIterable iter env x = pure x := by intro _; rfl) :
    wpAny (model prog w) A (eval (.ListComp elt [⟨.Name x px, iter, [], 0⟩] scope pos) env) Q E s := by
  rw [eval_ListComp]
  refine wpAny_comprehension_free (use := none) rfl hs hclos hkind hnames (wpAny_mono h (fun xv s₁ h₁ => ?_) fun _ _ e => e)
  obtain ⟨r, a, b, c, t, u, v, n, news, rfl, hh, F, N, hr, hsm, hn, hsz, R⟩ := h₁
  refine wpAny_pyIter_range hr hsm ?_
  refine block_U (Walks.range hh s₁.heap.objs.size a c n) hsz (fun i h st => ⟨_, st⟩) (fun i h h' o nw st e e' _ _ _ => by
      have st' : h.get? _ = some _ := st
      show h'.get? _ = some _
      rw [e', ← e]; exact st') hcell hkind hx (by show IsRangeIter _ _ _ _ _; rw [hn]; simpa using Heap.get?_push_size _ rfl) (fun b hb => ?_)
    (F.keeps fun _ _ e => Heap.get?_push_of_some _ e) (N.grown fun _ _ e => Heap.get?_push_of_some _ e) (Nat.ne_of_lt F.ns.lt) (next_is_new F) (fun p hp => Nat.ne_of_lt (Heap.lt_size (N p hp).1)) trivial (R _) ?_
  · rw [List.mem_singleton.mp hb]
    show s₁.heap.objs.size < (s₁.heap.push _).objs.size
    rw [Heap.size_push]; exact Nat.lt_succ_self _
  · intro D C h tk m' ys news' F' N' o1 hn hC₀ hD₀ hCL hDL hCD offC fin
    refine ⟨m', hn, fun h'' hs'' => fin D h'' tk (F'.change hs'' hCL hC₀) (fun p hp => ?_) o1⟩
    refine ⟨hs''.extBut _ _ ?_ (N' p hp).1, (N' p hp).2⟩
    rcases List.mem_cons.mp hp with rfl | hp
    · exact Ne.symm hCD
    · exact offC p hp

theorem intsAre_snoc {vs : List Value} {ns : List Int} {y : Value} {k : Int} {t : Tok} (h : IntsAre vs ns) (e : y = .int k t) : IntsAre (vs ++ [y]) (ns ++ [k]) := by
  subst e
  exact h.append (.cons _ _ .nil)
theorem compRest_fold {elt : Expr} {x : PySem.Str} {scope : Scope} {cl : List (PySem.Str × Addr)} {S : List (Addr × Obj) → Prop} {P : Nat → Value → Prop} {Fin : List Value → List (Addr × Obj) → Prop} {news : List (Addr × Obj)} {n : Nat} (f : Nat → Int)
    (turn : ∀ i, i < n → ∀ ys v I oI C oC D m₂ h tk (E' : Value → Shared → Prop), P i v → NsObj oC m₂ → m₂ x = some v → Fr h₀ L h m → News h₀ L h ((I, oI) :: (C, oC) :: (D, lst ys) :: news) → Off3 I C D news → ((@Ne Nat I C) ∧ (@Ne Nat I D) ∧ (@Ne Nat C D)) →
      wpAny (model prog w) A (eval elt (compEnvC scope cl C env)) (EltEnd h₀ L m s (f i) ((I, oI) :: (C, oC) :: (D, lst ys) :: news)) E' { s with heap := h, toks := tk })
    (hS : S news) (fin : ∀ ys, IntsAre ys ((List.range n).map f) → Fin ys news) : CompRest prog w A h₀ L m env elt x scope cl s S P Fin n 0 [] news := by
  have go : ∀ k i ys, k + i = n → IntsAre ys ((List.range i).map f) → CompRest prog w A h₀ L m env elt x scope cl s S P Fin k i ys news := by
    intro k
    induction k with
    | zero =>
      intro i ys e hi
      obtain rfl : i = n := by omega
      exact CompRest.zero (fin ys hi)
    | succ k ih =>
      intro i ys e hi
      refine CompRest.succ fun v I oI C oC D m₂ h tk E' hP hC hx F N off ne => ?_
      refine wpAny_mono (turn i (by omega) ys v I oI C oC D m₂ h tk E' hP hC hx F N off ne) (fun y s₂ z => ?_) fun _ _ z => z
      obtain ⟨h', tk', t, e1, rfl, F', N'⟩ := z
      exact ⟨h', tk', news, rfl, F', N', off, hS, ih (i + 1) (ys ++ [y]) (by omega) (by rw [List.range_succ, List.map_append]; exact intsAre_snoc hi e1)⟩
  exact go n 0 [] (by omega) .nil
end
end
section -- Ca
open PyProof.Rows.LCg
set_option maxRecDepth 100000
set_option maxHeartbeats 4000000
set_option linter.unusedVariables false
section
variable {prog : Program} {w : World} {A : Around} {E : Value → Shared → Prop} {s : Shared} {h₀ : Heap} {L : Addr} {m : PySem.Str → Option Value} {env : Env}
/- A comprehension whose element changes the ledger. -/
def EltEndJ (h₀ : Heap) (L : Addr) (m : PySem.Str → Option Value) (s : Shared) (k : Int) (I C D : Addr) (oI oC oD : Obj) (J : List (Addr × Obj) → Prop) (y : Value) (s₂ : Shared) : Prop :=
  ∃ h' tk' t news', y = .int k t ∧ s₂ = { s with heap := h', toks := tk' } ∧ Fr h₀ L h' m ∧ News h₀ L h' ((I, oI) :: (C, oC) :: (D, oD) :: news') ∧ Off3 I C D news' ∧ J news'
theorem compRest_acc {elt : Expr} {x : PySem.Str} {scope : Scope} {cl : List (PySem.Str × Addr)} {P : Nat → Value → Prop} {Fin : List Value → List (Addr × Obj) → Prop} {news : List (Addr × Obj)} {n : Nat} (f : Nat → Int) (J : Nat → List (Addr × Obj) → Prop)
    (turn : ∀ i, i < n → ∀ news, J i news → ∀ ys v I oI C oC D m₂ h tk (E' : Value → Shared → Prop), P i v → NsObj oC m₂ → m₂ x = some v → Fr h₀ L h m → News h₀ L h ((I, oI) :: (C, oC) :: (D, lst ys) :: news) → Off3 I C D news → ((@Ne Nat I C) ∧ (@Ne Nat I D) ∧ (@Ne Nat C D)) →
      wpAny (model prog w) A (eval elt (compEnvC scope cl C env)) (EltEndJ h₀ L m s (f i) I C D oI oC (lst ys) (J (i + 1))) E' { s with heap := h, toks := tk })
    (hJ : J 0 news) (fin : ∀ ys news, J n news → IntsAre ys ((List.range n).map f) → Fin ys news) : CompRest prog w A h₀ L m env elt x scope cl s (fun _ => True) P Fin n 0 [] news := by
  have go : ∀ k i ys news, k + i = n → J i news → IntsAre ys ((List.range i).map f) → CompRest prog w A h₀ L m env elt x scope cl s (fun _ => True) P Fin k i ys news := by
    intro k
    induction k with
    | zero =>
      intro i ys news e hj hi
      obtain rfl : i = n := by omega
      exact CompRest.zero (fin ys news hj hi)
    | succ k ih =>
      intro i ys news e hj hi
      refine CompRest.succ fun v I oI C oC D m₂ h tk E' hP hC hx F N off ne => ?_
      refine wpAny_mono (turn i (by omega) news hj ys v I oI C oC D m₂ h tk E' hP hC hx F N off ne) (fun y s₂ z => ?_) fun _ _ z => z
      obtain ⟨h', tk', t, news', e1, rfl, F', N', off', hj'⟩ := z
      exact ⟨h', tk', news', rfl, F', N', off', trivial, ih (i + 1) (ys ++ [y]) news' (by omega) hj' (by rw [List.range_succ, List.map_append]; exact intsAre_snoc hi e1)⟩
  exact go n 0 [] news (by omega) hJ .nil
end
end
section -- G2
set_option maxRecDepth 100000
theorem size8 {q : Nat} {k : Nat} (h : k = 8 * q) : Builtin.Range.rangeSize 0 (k : Int) 8 = ((q : Nat) : Int) := by
  unfold Builtin.Range.rangeSize
  subst h
  rw [if_pos (by decide)]
  split <;> omega
theorem fits5 (i : Int) (h1 : -10000 ≤ i) (h2 : i ≤ 10000) : Builtin.Range.rangeFitsLong i = true := by
  unfold Builtin.Range.rangeFitsLong
  rw [Bool.and_eq_true, decide_eq_true_eq, decide_eq_true_eq]
  constructor <;> omega
theorem small8 {k q : Nat} (hq : k = 8 * q) (h : (k : Int) ≤ 5000) : Builtin.Range.small 0 (k : Int) 8 = true := by
  unfold Builtin.Range.small
  rw [size8 hq, fits5 0 (by decide) (by decide), fits5 k (by omega) (by omega), fits5 8 (by decide) (by decide), fits5 q (by omega) (by omega), if_pos (by decide), fits5 (k + (8 - 1)) (by omega) (by omega)]
  simp
end
section -- C20
open PyProof.Rows.LCg
set_option maxRecDepth 100000
set_option maxHeartbeats 8000000
set_option linter.unusedVariables false

local macro_rules | `(tactic| walk_at "eval ListComp") => `(tactic| refine of_stop ?_)
section
variable {w : World} {p : Program} {loose : List PySem.Str} {mean : ExcName → Option Value} {mg mb : PySem.Str → Option Value}
  {dp un : Nat} {gd : Option (List Code)} {cn : PySem.Str} {cs : Scope} {a : Addr} {ccd : Value} {cl : List (PySem.Str × Addr)} {outer : List Env} {A₀ : Around} {base h₀ : Heap} {L : Addr} {m : PySem.Str → Option Value} {news : List (Addr × Obj)} {s : Shared} {Q E : Value → Shared → Prop}
  {ks ns pad : List Int} {D : Array UInt8}

theorem pick {h₀ h : Heap} {L : Addr} {e : Addr × Obj} {l l' : List (Addr × Obj)} (N : News h₀ L h l) (hm : e ∈ l) (N' : News h₀ L h l') : News h₀ L h (e :: l') := fun p hp => by
  rcases List.mem_cons.mp hp with rfl | hp
  · exact N _ hm
  · exact N' p hp
local macro_rules | `(tactic| walk_at "pad") => `(tactic| skip)
theorem samples_c {c : Int} {tc tn t0 : Tok} (B : Below A₀ base outer h₀) (F : Fr h₀ L s.heap m) (X : (Mine.hd.heap_39 w.params).In h₀) (N : News h₀ L s.heap news) (T : Top p loose mean mg mb h₀) (hk : cs.kind = .function)
    (hd : dp + 32 < recursionLimit) (hu : un + 700 < cLine) (hD : KBw.bInts D = ks) (hks : ks.length ≤ 4096) (hn : ns.length ≤ 64) (c0 : 0 ≤ c) (c1 : c ≤ 40) (hb : ∀ k ∈ ns, 0 ≤ k ∧ k < 2 ^ c.toNat)
    (hbits : bitsH ks = (ns.flatMap fun k => rowH k c.toNat) ++ pad)
    (ret : ∀ l vs n h' tk, IntsAre vs ns → Fr h₀ L h' m → News h₀ L h' ((l, W.listOf vs.toArray n) :: news) → Q (.ref l) { s with heap := h', toks := tk }) :
    wpAny (model Challenge.rw_nn0201_01.row.prog w) (ktrTop dp un gd cn cs L a ccd cl outer) (call (.ref 284) [.bytes D t0, .int c tc, .int (ns.length : Int) tn]) Q E s := by
  refine wpAny_call ?_
  k_dflt (refine' code_defC ?k1 ?k2 ?k3 ?k4 ?k5 ?kA ?kF ?kK ?k6 ?k7 ?k8 ?k9 ?kB ?kD ?_ ?c2 ?c3 ?c4; (case kA => exact rfl); (case kF => exact rfl); (case kK => assumption); (case k1 => k_asm); (case k2 => k_asm); (case k3 => k_asm); (case k4 => k_asm); (case k5 => k_asm); (case k6 => k_is); (case k7 => k_is); (case k8 => ktr_room); (case k9 => first | exact BindsTo.of_eq rfl | exact binds_K (by k_in) rfl (by k_is) rfl rfl rfl | fail "k_enter: no rule for these arguments"); (case kB => exact rfl); (case kD => decide +kernel); (case c2 => exact rfl); (case c3 => exact rfl); (case c4 => exact rfl); k_whole; intro g' L' h' tk' cells' FG' F' N' Y' B' X' T' l1; (try k_lt l1); k_cells Y'; (try simp only [List.cons_append, List.nil_append] at N'); (try dsimp only); (try k_lift B'); (try k_fold))
  (k_steps <;> repeat' ((with_reducible refine go_on ?_); (first | (with_reducible (k_here; k_dflt (refine' make_hrd ?B ?F ?X ?N ?T ?hk ?hd ?hu  ?_; (case B => k_asm); (case F => k_asm); (case X => k_asm); (case N => k_asm); (case T => k_asm); (case hk => first | assumption | exact rfl); (case hd => first | exact n_up (by assumption) (by decide) | ktr_room); (case hu => first | exact n_up (by assumption) (by decide) | ktr_units); k_whole); intro x dx h1 h2 h3 h4 k1 k2 k3 k4 t0 t1 t2 t3 hM tkM xd ld lx FM NM)) | fail); k_steps))
  have q1 : x ≠ L' + 1 + 1 := Nat.ne_of_gt (lx _ (.head _))
  have q2 : dx ≠ L' + 1 + 1 := Nat.ne_of_gt (ld _ (.head _))
  have q3 : ∀ p ∈ news, p.1 ≠ L' + 1 + 1 := fun p hp => Nat.ne_of_lt (Nat.lt_trans (l1 p hp) (by omega))
  have q4 : ∀ p ∈ news, p.1 ≠ dx := fun p hp => Nat.ne_of_lt (ld p (.tail _ (.tail _ hp)))
  have q5 : L' + 1 ≠ dx := Nat.ne_of_lt (ld _ (.tail _ (.head _)))
  k_steps
  refine go_on ?_
  k_dflt (refine ListComp_step (F₀ := by k_asm) (by with_unfolding_all rfl) (by decide) (by rfl) (by decide) (by rfl) ?_)
  k_steps
  rename_i oc0 o2 dc0 dc2 hH oc FH NH dH hR tkR tR uR vR iR FR NR kR
  have hsz : Builtin.Range.rangeSize 0 (ns.length : Int) 1 = ((ns.length : Nat) : Int) := by rw [rangeSize_nat]; omega
  refine StepSrc.mk ns.length rfl (by k_asm) (by k_asm) (by with_reducible assumption) (small_one (by decide) (by decide) (by omega) (by omega)) hsz (by rw [sizeLine_eq]; omega) fun g => ?_
  refine compRest_acc (fun i => ns.getD i 0) (fun i news' => ∃ (at' held' count' : Int) (t1 t2 t3 : Tok), news' = (x, instObj 177 dx) :: (dx, rdO h1 h2 h3 h4 k1 k2 k3 k4 t0 t1 t2 t3 D at' held' count') :: (L' + 1 + 1, oc) :: (L' + 1, o2) :: news ∧
    0 ≤ at' ∧ at' ≤ ks.length ∧ 0 ≤ held' ∧ held' < 2 ^ count'.toNat ∧ 0 ≤ count' ∧ count' < 8 ∧ rowH held' count'.toNat ++ bitsH (ks.drop at'.toNat) = ((ns.drop i).flatMap fun k => rowH k c.toNat) ++ pad) ?turn ?init ?fin
  case init => exact ⟨0, 0, 0, t1, t2, t3, rfl, by omega, by omega, by omega, by decide, by omega, by omega, hbits⟩
  case turn =>
    rintro i hi' _ ⟨at', held', count', t1, t2, t3, rfl, i1, i2, i3, i4, i5, i6, i7⟩ ys v I oI C oC Dl m₂ h tk E' hP hC hx FI NI off ne
    have o1 := Off3.mem off
    have N9 : News g' L' h ((x, instObj 177 dx) :: (dx, rdO h1 h2 h3 h4 k1 k2 k3 k4 t0 t1 t2 t3 D at' held' count') :: (I, oI) :: (C, oC) :: (Dl, lst ys) :: (L' + 1 + 1, oc) :: (L' + 1, o2) :: news) :=
      pick NI (by k_mem) (pick NI (by k_mem) (pick NI (by k_mem) (pick NI (by k_mem) (pick NI (by k_mem) (fun p hp => NI p (.tail _ (.tail _ (.tail _ (.tail _ (.tail _ hp))))))))))
    have hr9 : ∀ p ∈ (I, oI) :: (C, oC) :: (Dl, lst ys) :: (L' + 1 + 1, oc) :: (L' + 1, o2) :: news, p.1 ≠ dx := fun p hp => by
      have z := o1 (dx, rdO h1 h2 h3 h4 k1 k2 k3 k4 t0 t1 t2 t3 D at' held' count') (.tail _ (.head _))
      rcases List.mem_cons.mp hp with rfl | hp
      · exact fun e => z.1 e.symm
      rcases List.mem_cons.mp hp with rfl | hp
      · exact fun e => z.2.1 e.symm
      rcases List.mem_cons.mp hp with rfl | hp
      · exact fun e => z.2.2 e.symm
      rcases List.mem_cons.mp hp with rfl | hp
      · exact Ne.symm q2
      rcases List.mem_cons.mp hp with rfl | hp
      · exact q5
      exact q4 p hp
    have e1 : ns.drop i = ns.getD i 0 :: ns.drop (i + 1) := drop_getD hi'
    have hv : 0 ≤ ns.getD i 0 ∧ ns.getD i 0 < 2 ^ c.toNat := hb _ (by rw [List.getD_eq_getElem?_getD, List.getElem?_eq_getElem hi']; exact List.getElem_mem hi')
    have hcc : c ≤ count' + 8 * ((ks.length : Int) - at') := by
      have z := congrArg List.length i7
      have lb : (bitsH (ks.drop at'.toNat)).length = 8 * (ks.drop at'.toNat).length := bits_len true _
      rw [e1, List.flatMap_cons] at z
      simp only [List.length_append, rowH_length, lb, List.length_drop] at z
      omega
    clear NI
    (k_steps <;> repeat' ((with_reducible refine go_on ?_); (first | (with_reducible (k_here; k_dflt (refine' htake_ok ?B ?F ?X ?N ?T ?hk ?hd ?hu hD hks xd hr9 hcc i1 i2 i3 i4 i5 i6 c0 c1 ?_; (case B => k_asm); (case F => k_asm); (case X => k_asm); (case N => k_asm); (case T => k_asm); (case hk => first | assumption | exact rfl); (case hd => first | exact n_up (by assumption) (by decide) | ktr_room); (case hu => first | exact n_up (by assumption) (by decide) | ktr_units); k_whole); intro vK atK heldK countK tK t1K t2K t3K hK tkK j1 j2 j3 j4 j5 j6 j7 j8 j9 j10 FK NK; (try dsimp only))) | fail); k_steps))
    have j8' := j8.symm.trans i7
    rw [e1, List.flatMap_cons, List.append_assoc] at j8'
    have z := List.append_inj j8' (by rw [rowH_length, rowH_length])
    have ev : vK = ns.getD i 0 := by
      have z1 := num_row true j9 j10
      have z2 := num_row true hv.1 hv.2
      rw [← z1, ← z2]
      exact congrArg (num true) z.1
    refine ⟨hK, tkK, tK, (x, instObj 177 dx) :: (dx, rdO h1 h2 h3 h4 k1 k2 k3 k4 t0 t1K t2K t3K D atK heldK countK) :: (L' + 1 + 1, oc) :: (L' + 1, o2) :: news, by rw [ev], rfl, FK, ?nk, ?off, atK, heldK, countK, t1K, t2K, t3K, rfl, j1, j2, j3, j4, j5, j6, z.2⟩
    case off => exact ⟨off.1, off.2.1, off.2.2⟩
    case nk => exact pick NK (by k_mem) (pick NK (by k_mem) (pick NK (by k_mem) (pick NK (by k_mem) (pick NK (by k_mem) (fun p hp => NK p (.tail _ (.tail _ (.tail _ (.tail _ (.tail _ hp))))))))))
  case fin =>
    rintro ys news' ⟨at', held', count', t1, t2, t3, rfl, i1, i2, i3, i4, i5, i6, i7⟩ hys
    intro Dl hD tkD FD ND offD
    k_steps
    rename_i kF kN Tc kX
    refine ret Dl ys ys.length _ _ ?_ kF fun p hp => kN p (by
      rcases List.mem_cons.mp hp with rfl | hp
      · exact .head _
      · exact .tail _ (.tail _ (.tail _ (.tail _ (.tail _ hp)))))
    have e : (List.range ns.length).map (fun i => ns.getD i 0) = ns := by
      apply List.ext_getElem
      · simp
      · intro i h1 h2
        simp only [List.getElem_map, List.getElem_range]
        rw [List.getD_eq_getElem?_getD, List.getElem?_eq_getElem h2]; rfl
    rw [e] at hys
    exact hys
end
end
section -- Tu
set_option maxRecDepth 100000
set_option maxHeartbeats 4000000
set_option linter.unusedVariables false
open Sem (wp)
section
variable {b : Bool} {prog : Program} {w : World} {A₀ A : Around} {s : Shared} {base h₀ : Heap} {outer : List Env} {L : Addr} {m : PySem.Str → Option Value} {env : Env} {news : List (Addr × Obj)} {K : Frag}
  {R : Result → Shared → Prop} {name qual : PySem.Str} {params : Arguments} {body : List Stmt} {scope : Scope} {dV kV doc pm cdv ct oc : Value} {an od : Option Addr} {osl : Array (Option Value)} {f : Addr} {args : Args} {binds : List (PySem.Str × Value)}
  {p : Program} {loose : List PySem.Str} {mean : ExcName → Option Value} {mg mb : PySem.Str → Option Value}
/- Entry where the frames below may turn (an exception is caught within). -/
theorem code_defT (B : Below A₀ base outer h₀) (F : Fr h₀ L s.heap m) (X₀ : K.In h₀) (N : News h₀ L s.heap news) (T : Top p loose mean mg mb h₀) (XB : K.In base) (TB : Top p loose mean mg mb base) (D : KtsDicts (outer.filterMap (·.frame)) h₀)
    (hA : A.frames = some (env :: outer)) (hf : env.frame = some L) (hke : env.scope.kind = .function)
    (ho : K.lookup f = some ⟨oc, od, .func (fnOf name qual params body scope dV kV doc pm an cdv ct), osl⟩) (hcd : codeIn K cdv qual = true) (hroom : A.depth < recursionLimit)
    (hbind : BindsTo s (fnOf name qual params body scope dV kV doc pm an cdv ct) args binds) (hloc : ∀ y ∈ binds, scope.names.lookup y.1 = some .local)
    (h : ∀ g L' h₁ tk, Fr h₀ L g m → Fr g L' h₁ (fun y => binds.reverse.lookup y) → News g L' h₁ news → Below A base (env :: outer) g → K.In g → Top p loose mean mg mb g → KtsDicts ((env :: outer).filterMap (·.frame)) g →
      wpM b (model prog w) (A.deeper (envOf qual scope L' f cdv)) (execs body (envOf qual scope L' f cdv))
        (fun fl s' => LeaveT A₀ base env outer K p loose mean mg mb h₀ L m R g (match fl with | .ret v => v | _ => .none) s')
        (fun e s' => wpAny (model prog w) (A.deeper (envOf qual scope L' f cdv)) (leaving (envOf qual scope L' f cdv) e) (fun _ s'' => R (.error e) s'') (fun e' s'' => R (.error e') s'') s')
        { s with heap := h₁, toks := tk })
    (hco : scope.isCoroutine = false) (hgen : scope.isGenerator = false) (hk : scope.kind = .function)
    (hcell : ∀ x ∈ scope.names, x.2 ≠ .cell) : codeM b (model prog w) A (.call (.ref f) args) R s :=
  enterM_plain (fun g v s' => LeaveT A₀ base env outer K p loose mean mg mb h₀ L m R g v s') B F X₀ N T hA hf hke ho hcd hroom hbind hloc (lvT B F N XB TB D hf)
    (fun g L' h₁ eg FG F' N' B' X' T' _ => h g L' h₁ _ FG F' N' B' X' T' (eg ▸ dictsT B F N hf D)) hco hgen hk hcell
theorem code_defTC (B : Below A₀ base outer h₀) (F : Fr h₀ L s.heap m) (X₀ : K.In h₀) (N : News h₀ L s.heap news) (T : Top p loose mean mg mb h₀) (XB : K.In base) (TB : Top p loose mean mg mb base) (D : KtsDicts (outer.filterMap (·.frame)) h₀)
    (hA : A.frames = some (env :: outer)) (hf : env.frame = some L) (hke : env.scope.kind = .function)
    (ho : K.lookup f = some ⟨oc, od, .func (fnOf name qual params body scope dV kV doc pm an cdv ct), osl⟩) (hcd : codeIn K cdv qual = true) (hroom : A.depth < recursionLimit)
    (hbind : BindsTo s (fnOf name qual params body scope dV kV doc pm an cdv ct) args binds) (hkind : (binds.all fun y => scope.names.lookup y.1 == some .local || scope.names.lookup y.1 == some .cell) = true)
    (hnd : ((cellsFrom 0 scope.names []).map (·.1)).Nodup)
    (h : ∀ g L' h₁ tk cells, Fr h₀ L g m → Fr g L' h₁ (bindL (envOfC qual scope L' f cdv).kindOf binds fun _ => none) → News g L' h₁ (cells ++ news) →
      CellsAre (bindC (envOfC qual scope L' f cdv).kindOf binds fun _ => none) (cellsFrom (L' + 1) scope.names []) cells → Below A base (env :: outer) g → K.In g → Top p loose mean mg mb g → KtsDicts ((env :: outer).filterMap (·.frame)) g → (∀ p ∈ news, p.1 < L') →
      wpM b (model prog w) (A.deeper (envOfC qual scope L' f cdv)) (execs body (envOfC qual scope L' f cdv))
        (fun fl s' => LeaveT A₀ base env outer K p loose mean mg mb h₀ L m R g (match fl with | .ret v => v | _ => .none) s')
        (fun e s' => wpAny (model prog w) (A.deeper (envOfC qual scope L' f cdv)) (leaving (envOfC qual scope L' f cdv) e) (fun _ s'' => R (.error e) s'') (fun e' s'' => R (.error e') s'') s')
        { s with heap := h₁, toks := tk })
    (hco : scope.isCoroutine = false) (hgen : scope.isGenerator = false) (hk : scope.kind = .function) : codeM b (model prog w) A (.call (.ref f) args) R s :=
  enterM_cells (fun g v s' => LeaveT A₀ base env outer K p loose mean mg mb h₀ L m R g v s') B F X₀ N T hA hf hke ho hcd hroom hbind hkind hnd (lvT B F N XB TB D hf)
    (fun g L' h₁ tk cells eg FG F' N' Y B' X' T' l => h g L' h₁ tk cells FG F' N' Y B' X' T' (eg ▸ dictsT B F N hf D) l) hco hgen hk
theorem leaveT_ {g g' : Heap} {v : Value} {s' : Shared} {L' : Addr} {m' : PySem.Str → Option Value} {news' : List (Addr × Obj)} (F' : Fr g' L' s'.heap m') (N' : News g' L' s'.heap news') (T' : KtsTurn ((env :: outer).filterMap (·.frame)) g g')
    (k : ∀ h₀', KtsTurn (outer.filterMap (·.frame)) h₀ h₀' → Fr h₀' L s'.heap m → News h₀' L s'.heap news' → Below A₀ base outer h₀' → K.In h₀' → Top p loose mean mg mb h₀' → KtsDicts (outer.filterMap (·.frame)) h₀' → R (.ok (.ret v)) s') :
    LeaveT A₀ base env outer K p loose mean mg mb h₀ L m R g v s' := ⟨g', L', m', news', T', F', N', k⟩
end

/- A for over a list of the ledger whose turns may turn the frames below: the ground is part of the invariant. -/
section
variable {b : Bool} {prog : Program} {w : World} {A : Around} {E : Value → Shared → Prop} {s : Shared} {g : Heap} {L a : Addr} {m : PySem.Str → Option Value} {name : PySem.Str} {scope : Scope} {cd : Value} {cl : List (PySem.Str × Addr)} {l : Addr} {vs : List Value} {n : Nat} {ch rest : List (Addr × Obj)}
theorem forListT {x : PySem.Str} {px : Pos} {body : List Stmt} {Q : Flow → Shared → Prop} (J : Nat → Heap → (PySem.Str → Option Value) → List (Addr × Obj) → Prop) (hh : A.handled = none)
    (F : Fr g L s.heap m) (N : News g L s.heap (ch ++ rest)) (hJ : J 0 g m ch)
    (hl : ∀ i g m ch, J i g m ch → (l, W.listOf vs.toArray n) ∈ ch ++ rest) (hc : ∀ i g m ch, J i g m ch → ∀ p ∈ ch, p.2.cls ≠ .type "list_iterator")
    (turn : ∀ i (hi : i < vs.length) it io g m ch h tk, IsIt io l (i + 1) → J i g m ch → Fr g L h (fun y => if y = x then some vs[i] else m y) → News g L h (ch ++ ((it, io) :: rest)) →
      wpM b (model prog w) A (execs body (envX name scope L a cd cl)) (fun f s₃ => match f with
        | .next => TurnG (J (i + 1)) L ((it, io) :: rest) s s₃
        | .ret v => Q (.ret v) s₃
        | _ => False) (fun _ _ => False) { s with heap := h, toks := tk })
    (done : ∀ g m ch h tk, J vs.length g m ch → Fr g L h m → News g L h (ch ++ rest) → Q .next { s with heap := h, toks := tk })
    (hk : scope.kind = .function := by rfl) (hx : (envX name scope L a cd cl).kindOf x = some .local := by rfl) :
    wpAny (model prog w) A (pyIter (.ref l)) (fun it s₂ => wpM b (model prog w) A (runOwn (.forLoop (.Name x px) it body [] (envX name scope L a cd cl)) (envX name scope L a cd cl)) Q E s₂) E s := by
  obtain ⟨hp, gn, dr, tk, os⟩ := s
  dsimp only at F N
  refine wpAny_pyIter_list ⟨_, (N _ (hl _ _ _ _ hJ)).1, rfl, _, rfl⟩ ?_
  dsimp only
  have ne0 : ∀ p ∈ ch ++ rest, p.1 ≠ hp.objs.size := fun p hq => Nat.ne_of_lt (Heap.lt_size (N p hq).1)
  have nr : ∀ p ∈ rest, p.1 ≠ hp.objs.size := fun p hq => ne0 p (List.mem_append.mpr (.inr hq))
  have F1 := F.push (itO l 0)
  have N0 := N.push F (itO l 0)
  have N1 : News g L (hp.push (itO l 0)) (ch ++ ((hp.objs.size, itO l 0) :: rest)) := fun p hq => N0 p (by
    simp only [List.mem_append, List.mem_cons] at hq ⊢
    rcases hq with h | h | h
    · exact .inr (.inl h)
    · exact .inl h
    · exact .inr (.inr h))
  refine forLoopM (fun k s' => ∃ i g m ch h tk' io, IsIt io l i ∧ k = vs.length - i ∧ i ≤ vs.length ∧ s' = ⟨h, gn, dr, tk', os⟩ ∧ J i g m ch ∧ Fr g L h m ∧ News g L h (ch ++ ((hp.objs.size, io) :: rest))) (vs.length - 0)
    ⟨0, g, m, ch, _, _, _, ⟨rfl, rfl⟩, rfl, Nat.zero_le _, rfl, hJ, F1, N1⟩ ?_
  rintro k s' ⟨i, g, m, ch, h, tk', io, ⟨io1, io2⟩, rfl, hi, rfl, hJ, F, N⟩
  have hlm := hl _ _ _ _ hJ
  have hL : h.get? l = some (W.listOf vs.toArray n) := (N (l, _) (by
    rcases List.mem_append.mp hlm with q | q
    · exact List.mem_append.mpr (.inl q)
    · exact List.mem_append.mpr (.inr (.tail _ q)))).1
  have hIt := N (hp.objs.size, io) (List.mem_append.mpr (.inr (.head _)))
  have nc : ∀ p ∈ ch, p.1 ≠ hp.objs.size := fun p hq e => by
    have z := (N p (List.mem_append.mpr (.inl hq))).1
    have := hc _ _ _ _ hJ p hq
    rw [e, hIt.1] at z
    have z := Option.some.inj z
    exact this (by rw [← z]; exact io1)
  by_cases q : i < vs.length
  · refine wpAny_pyNext_list_item ⟨_, hIt.1, io1, io2⟩ ⟨_, hL, rfl, _, rfl⟩ (x := vs[i]) (by simp [q]) fun h' hit hs => ?_
    obtain ⟨o', ho', hc', hd'⟩ := hit
    have F2 := F.change hs hIt.2.1 hIt.2.2
    have N2 := news_set N nc nr hs ho'
    dsimp only
    refine wpAny_of_eq (a := ()) rfl ?_
    refine PyProof.Rows.assign_Name ?_
    refine storeX_L (s := ⟨h', gn, dr, tk', os⟩) F2 N2 (fun h3 F3 N3 => ?_) hk hx
    refine wpR_mono (turn i q _ o' g m ch h3 _ ⟨hc', hd'⟩ hJ F3 N3) (fun f s₃ z => ?_) fun _ _ z => z
    cases f with
    | next =>
      obtain ⟨g', m', ch', h4, tk4, rfl, j, F4, N4⟩ := z
      exact ⟨_, by omega, i + 1, g', m', ch', h4, tk4, o', ⟨hc', hd'⟩, rfl, q, rfl, j, F4, N4⟩
    | ret v => exact z
    | cont => exact z
    | brk => exact z
  · obtain rfl : i = vs.length := by omega
    refine wpAny_pyNext_list_end hh ⟨_, hIt.1, io1, io2⟩ ⟨_, hL, rfl, _, rfl⟩ (by simp) fun h' hs => ?_
    refine done g m ch h' tk' hJ (fr_ext F hs hIt.2.1 hIt.2.2) fun p hq => ?_
    have z := N p (by
      rcases List.mem_append.mp hq with q | q
      · exact List.mem_append.mpr (.inl q)
      · exact List.mem_append.mpr (.inr (.tail _ q)))
    exact ⟨hs _ _ (by
      rcases List.mem_append.mp hq with q | q
      · exact nc _ q
      · exact nr _ q) z.1, z.2⟩
end
end
section -- C18
set_option maxRecDepth 100000
set_option maxHeartbeats 8000000
set_option linter.unusedVariables false

section
variable {w : World} {p : Program} {loose : List PySem.Str} {mean : ExcName → Option Value} {mg mb : PySem.Str → Option Value}
  {dp un : Nat} {gd : Option (List Code)} {cn : PySem.Str} {cs : Scope} {a : Addr} {ccd : Value} {cl : List (PySem.Str × Addr)} {outer : List Env} {A₀ : Around} {base h₀ : Heap} {L : Addr} {m : PySem.Str → Option Value} {rest : List (Addr × Obj)} {s : Shared} {Q E : Value → Shared → Prop}
  {h1 h2 h3 : Int} {k1 k2 k3 t2 t3 : Tok} {b : Array UInt8} {held count : Int} {x dx bb : Addr}

theorem refuses_low {v c : Int} {tv tc : Tok} (B : Below A₀ base outer h₀) (F : Fr h₀ L s.heap m) (X : (Mine.hd.heap_39 w.params).In h₀) (N : News h₀ L s.heap ((x, instObj 233 dx) :: (dx, wrO h1 h2 h3 k1 k2 k3 t2 t3 bb held count) :: (bb, baObj b) :: rest)) (T : Top p loose mean mg mb h₀) (hk : cs.kind = .function)
    (hd : dp + 20 < recursionLimit) (hu : un + 400 < cLine) (XB : (Mine.hd.heap_39 w.params).In base) (TB : Top p loose mean mg mb base) (D : KtsDicts (outer.filterMap (·.frame)) h₀)
    (x1 : x ≠ dx) (x2 : x ≠ bb) (x3 : dx ≠ bb) (r1 : ∀ p ∈ rest, p.1 ≠ dx) (r2 : ∀ p ∈ rest, p.1 ≠ bb)
    (bz : b.size ≤ 100000) (h0 : 0 ≤ held) (hh : held < 2 ^ count.toNat) (c0 : 0 ≤ count) (c8 : count < 8) (hc : c ≤ 64) (hno : c < 0 ∨ v < 0 ∨ v.fdiv (2 ^ c.toNat) ≠ 0)
    (ret : ∀ h₀' h' tk, KtsTurn (outer.filterMap (·.frame)) h₀ h₀' → Fr h₀' L h' m → News h₀' L h' ((x, instObj 233 dx) :: (dx, wrO h1 h2 h3 k1 k2 k3 t2 t3 bb held count) :: (bb, baObj b) :: rest) → Below A₀ base outer h₀' → (Mine.hd.heap_39 w.params).In h₀' → Top p loose mean mg mb h₀' → KtsDicts (outer.filterMap (·.frame)) h₀' → Q (.bool true) { s with heap := h', toks := tk }) :
    wpAny (model Challenge.rw_nn0201_01.row.prog w) (ktrTop dp un gd cn cs L a ccd cl outer) (call (.ref 322) [.ref x, .int v tv, .int c tc]) Q E s := by
  refine wpAny_call (code_of_M ?_)
  k_dflt (refine' code_defT (b := false) ?k1 ?k2 ?k3 ?k4 ?k5 ?XB ?TB ?D ?kA ?kF ?kK ?k6 ?k7 ?k8 ?k9 ?kB ?_ ?c2 ?c3 ?c4 ?c5; (case kA => exact rfl); (case kF => exact rfl); (case kK => assumption); (case k1 => k_asm); (case k2 => k_asm); (case k3 => k_asm); (case k4 => k_asm); (case k5 => k_asm); (case XB => assumption); (case TB => assumption); (case D => assumption); (case k6 => k_is); (case k7 => k_is); (case k8 => ktr_room); (case k9 => first | exact BindsTo.of_eq rfl | exact binds_K (by k_in) rfl (by k_is) rfl rfl rfl); (case c5 => decide); (case kB => exact locs rfl); (case c2 => exact rfl); (case c3 => exact rfl); (case c4 => exact rfl); k_whole; intro g' L' h' tkE FG' F' N' B' X' T' D'; (try dsimp only); (try k_lift B'); (try k_fold))
  refine wpR_any ?_
  (k_steps <;> repeat' ((with_reducible refine go_on ?_); (first | (with_reducible (k_here; k_dflt (refine' put_low_no ?B ?F ?X ?N ?T ?hk ?hd ?hu x1 x2 x3 r1 r2 bz h0 hh c0 c8 hc hno ?_; (case B => k_asm); (case F => k_asm); (case X => k_asm); (case N => k_asm); (case T => k_asm); (case hk => first | assumption | exact rfl); (case hd => first | exact n_up (by assumption) (by decide) | ktr_room); (case hu => first | exact n_up (by assumption) (by decide) | ktr_units); k_whole); intro gN eN hN tkN FgN RN UN; (try dsimp only at RN UN ⊢))) | fail); k_steps))
  dsimp only
  k_steps
  refine' leaveT_ ?F ?N ?T fun h₀' kT kF kN kB kX kP kD => ?_
  case F => k_asm
  case N => k_asm
  case T => assumption
  exact ret _ _ _ kT kF kN kB kX kP kD

theorem refuses_high {v c : Int} {tv tc : Tok} (B : Below A₀ base outer h₀) (F : Fr h₀ L s.heap m) (X : (Mine.hd.heap_39 w.params).In h₀) (N : News h₀ L s.heap ((x, instObj 275 dx) :: (dx, wrO h1 h2 h3 k1 k2 k3 t2 t3 bb held count) :: (bb, baObj b) :: rest)) (T : Top p loose mean mg mb h₀) (hk : cs.kind = .function)
    (hd : dp + 20 < recursionLimit) (hu : un + 400 < cLine) (XB : (Mine.hd.heap_39 w.params).In base) (TB : Top p loose mean mg mb base) (D : KtsDicts (outer.filterMap (·.frame)) h₀)
    (x1 : x ≠ dx) (x2 : x ≠ bb) (x3 : dx ≠ bb) (r1 : ∀ p ∈ rest, p.1 ≠ dx) (r2 : ∀ p ∈ rest, p.1 ≠ bb)
    (bz : b.size ≤ 100000) (h0 : 0 ≤ held) (hh : held < 2 ^ count.toNat) (c0 : 0 ≤ count) (c8 : count < 8) (hc : c ≤ 64) (hno : c < 0 ∨ v < 0 ∨ v.fdiv (2 ^ c.toNat) ≠ 0)
    (ret : ∀ h₀' h' tk, KtsTurn (outer.filterMap (·.frame)) h₀ h₀' → Fr h₀' L h' m → News h₀' L h' ((x, instObj 275 dx) :: (dx, wrO h1 h2 h3 k1 k2 k3 t2 t3 bb held count) :: (bb, baObj b) :: rest) → Below A₀ base outer h₀' → (Mine.hd.heap_39 w.params).In h₀' → Top p loose mean mg mb h₀' → KtsDicts (outer.filterMap (·.frame)) h₀' → Q (.bool true) { s with heap := h', toks := tk }) :
    wpAny (model Challenge.rw_nn0201_01.row.prog w) (ktrTop dp un gd cn cs L a ccd cl outer) (call (.ref 322) [.ref x, .int v tv, .int c tc]) Q E s := by
  refine wpAny_call (code_of_M ?_)
  k_dflt (refine' code_defT (b := false) ?k1 ?k2 ?k3 ?k4 ?k5 ?XB ?TB ?D ?kA ?kF ?kK ?k6 ?k7 ?k8 ?k9 ?kB ?_ ?c2 ?c3 ?c4 ?c5; (case kA => exact rfl); (case kF => exact rfl); (case kK => assumption); (case k1 => k_asm); (case k2 => k_asm); (case k3 => k_asm); (case k4 => k_asm); (case k5 => k_asm); (case XB => assumption); (case TB => assumption); (case D => assumption); (case k6 => k_is); (case k7 => k_is); (case k8 => ktr_room); (case k9 => first | exact BindsTo.of_eq rfl | exact binds_K (by k_in) rfl (by k_is) rfl rfl rfl); (case c5 => decide); (case kB => exact locs rfl); (case c2 => exact rfl); (case c3 => exact rfl); (case c4 => exact rfl); k_whole; intro g' L' h' tkE FG' F' N' B' X' T' D'; (try dsimp only); (try k_lift B'); (try k_fold))
  refine wpR_any ?_
  (k_steps <;> repeat' ((with_reducible refine go_on ?_); (first | (with_reducible (k_here; k_dflt (refine' put_high_no ?B ?F ?X ?N ?T ?hk ?hd ?hu x1 x2 x3 r1 r2 bz h0 hh c0 c8 hc hno ?_; (case B => k_asm); (case F => k_asm); (case X => k_asm); (case N => k_asm); (case T => k_asm); (case hk => first | assumption | exact rfl); (case hd => first | exact n_up (by assumption) (by decide) | ktr_room); (case hu => first | exact n_up (by assumption) (by decide) | ktr_units); k_whole); intro gN eN hN tkN FgN RN UN; (try dsimp only at RN UN ⊢))) | fail); k_steps))
  dsimp only
  k_steps
  refine' leaveT_ ?F ?N ?T fun h₀' kT kF kN kB kX kP kD => ?_
  case F => k_asm
  case N => k_asm
  case T => assumption
  exact ret _ _ _ kT kF kN kB kX kP kD
end
end
section -- C11
set_option maxRecDepth 100000
set_option maxHeartbeats 8000000
set_option linter.unusedVariables false


theorem drop2 {h₀ h : Heap} {L : Addr} {e a : Addr × Obj} {news : List (Addr × Obj)} (N : News h₀ L h (e :: a :: news)) : News h₀ L h (e :: news) := fun p hp => N p (by
  rcases List.mem_cons.mp hp with h | h
  · subst h; exact .head _
  · exact .tail _ (.tail _ h))
section
variable {w : World} {p : Program} {loose : List PySem.Str} {mean : ExcName → Option Value} {mg mb : PySem.Str → Option Value}
  {dp un : Nat} {gd : Option (List Code)} {cn : PySem.Str} {cs : Scope} {a : Addr} {ccd : Value} {cl : List (PySem.Str × Addr)} {outer : List Env} {A₀ : Around} {base h₀ : Heap} {L : Addr} {m : PySem.Str → Option Value} {news : List (Addr × Obj)} {s : Shared} {Q E : Value → Shared → Prop}

theorem row_c {v c : Int} {tv tc : Tok} {hi : Bool} (B : Below A₀ base outer h₀) (F : Fr h₀ L s.heap m) (X : (Mine.hd.heap_39 w.params).In h₀) (N : News h₀ L s.heap news) (T : Top p loose mean mg mb h₀) (hk : cs.kind = .function)
    (hd : dp + 12 < recursionLimit) (hu : un + 200 < cLine) (c0 : 0 ≤ c) (c1 : c ≤ 64)
    (ret : ∀ l vs n h' tk, IntsAre vs (row hi v c.toNat) → Fr h₀ L h' m → News h₀ L h' ((l, W.listOf vs.toArray n) :: news) → Q (.ref l) { s with heap := h', toks := tk }) :
    wpAny (model Challenge.rw_nn0201_01.row.prog w) (ktrTop dp un gd cn cs L a ccd cl outer) (call (.ref 296) [.int v tv, .int c tc, .bool hi]) Q E s := by
  refine wpAny_call ?_
  k_dflt (refine' code_defC ?k1 ?k2 ?k3 ?k4 ?k5 ?kA ?kF ?kK ?k6 ?k7 ?k8 ?k9 ?kB ?kD ?_ ?c2 ?c3 ?c4; (case kA => exact rfl); (case kF => exact rfl); (case kK => assumption); (case k1 => k_asm); (case k2 => k_asm); (case k3 => k_asm); (case k4 => k_asm); (case k5 => k_asm); (case k6 => k_is); (case k7 => k_is); (case k8 => ktr_room); (case k9 => first | exact BindsTo.of_eq rfl | exact binds_K (by k_in) rfl (by k_is) rfl rfl rfl | fail "k_enter: no rule for these arguments"); (case kB => exact rfl); (case kD => decide +kernel); (case c2 => exact rfl); (case c3 => exact rfl); (case c4 => exact rfl); k_whole; intro g' L' h' tk' cells' FG' F' N' Y' B' X' T' l1; (try k_lt l1); k_cells Y'; (try simp only [List.cons_append, List.nil_append] at N'); (try dsimp only); (try k_lift B'); (try k_fold))
  k_steps
  · rename_i kF kN Tc kX
    subst_vars
    exact ret _ _ _ _ _ (row_true (by assumption)) kF (drop2 (drop2 kN))
  · rename_i kF kN Tc kX
    subst_vars
    exact ret _ _ _ _ _ (row_false (by assumption)) kF (drop2 kN)
end
end
section -- C12
set_option maxRecDepth 100000
set_option maxHeartbeats 8000000
set_option linter.unusedVariables false


theorem drop2x {h₀ h : Heap} {L : Addr} {e a : Addr × Obj} {news : List (Addr × Obj)} (N : News h₀ L h (e :: a :: news)) : News h₀ L h (e :: news) := fun p hp => N p (by
  rcases List.mem_cons.mp hp with h | h
  · subst h; exact .head _
  · exact .tail _ (.tail _ h))
section
variable {w : World} {p : Program} {loose : List PySem.Str} {mean : ExcName → Option Value} {mg mb : PySem.Str → Option Value}
  {dp un : Nat} {gd : Option (List Code)} {cn : PySem.Str} {cs : Scope} {a : Addr} {ccd : Value} {cl : List (PySem.Str × Addr)} {outer : List Env} {A₀ : Around} {base h₀ : Heap} {L : Addr} {m : PySem.Str → Option Value} {news : List (Addr × Obj)} {s : Shared} {Q E : Value → Shared → Prop}

theorem number_c {l : Addr} {vs : List Value} {ns : List Int} {n : Nat} {hi : Bool} (B : Below A₀ base outer h₀) (F : Fr h₀ L s.heap m) (X : (Mine.hd.heap_39 w.params).In h₀) (N : News h₀ L s.heap ((l, W.listOf vs.toArray n) :: news)) (T : Top p loose mean mg mb h₀) (hk : cs.kind = .function)
    (hd : dp + 12 < recursionLimit) (hu : un + 200 < cLine) (hv : IntsAre vs ns) (hn : ns.length ≤ 64)
    (ret : ∀ t h' tk, Fr h₀ L h' m → News h₀ L h' ((l, W.listOf vs.toArray n) :: news) → Q (.int (num hi ns) t) { s with heap := h', toks := tk }) :
    wpAny (model Challenge.rw_nn0201_01.row.prog w) (ktrTop dp un gd cn cs L a ccd cl outer) (call (.ref 303) [.ref l, .bool hi]) Q E s := by
  refine wpAny_call (code_of_M ?_)
  k_dflt (refine' code_defM (b := false) ?k1 ?k2 ?k3 ?k4 ?k5 ?kA ?kF ?kK ?k6 ?k7 ?k8 ?k9 ?kB ?_ ?c2 ?c3 ?c4 ?c5; (case kA => exact rfl); (case kF => exact rfl); (case kK => assumption); (case k1 => k_asm); (case k2 => k_asm); (case k3 => k_asm); (case k4 => k_asm); (case k5 => k_asm); (case k6 => k_is); (case k7 => k_is); (case k8 => ktr_room); (case k9 => first | exact BindsTo.of_eq rfl | exact binds_K (by k_in) rfl (by k_is) rfl rfl rfl); (case c5 => decide); (case kB => exact locs rfl); (case c2 => exact rfl); (case c3 => exact rfl); (case c4 => exact rfl); k_whole; intro g' L' h' tkE FG' F' N' B' X' T'; (try dsimp only); (try k_lift B'); (try k_fold))
  refine execsM_any ?_
  k_steps
  dsimp only
  refine execsM_cons (ForM ?_)
  k_steps
  · rename_i hA FA NA qA
    subst qA
    refine' forListM (vs := vs) (n := n) (ch := []) (rest := (l, W.listOf vs.toArray n) :: news) (fun i m ch => ch = [] ∧ ∃ (b0 : Option Value) (t : Tok), ∀ y, m y = if y = PySem.Str.ofString "value" then some (.int (foldB (ns.take i)) t) else if y = PySem.Str.ofString "bit" then b0 else List.lookup y [(PySem.Str.ofString "is_high", Value.bool true), (PySem.Str.ofString "row", Value.ref l)]) rfl FA NA ?hJ ?hl ?hc ?turn ?done
    case hJ =>
      refine ⟨rfl, none, ?tt, fun y => ?_⟩
      rotate_left
      by_cases q : y = PySem.Str.ofString "value"
      · simp only [q, if_true]; rfl
      · rw [if_neg q, if_neg q]
        by_cases q2 : y = PySem.Str.ofString "bit"
        · subst q2; rw [if_pos rfl]; rfl
        · rw [if_neg q2]; rfl
    case hl => rintro i m ch ⟨rfl, _⟩; first | exact .head _ | exact .tail _ (.head _)
    case hc => rintro i m ch ⟨rfl, _⟩ p hp; exact absurd hp List.not_mem_nil
    case turn =>
      rintro i hi' it io m ch h3 tk3 io1 ⟨rfl, b0, t, hm⟩ F3 N3
      have hj : i < ns.length := by rw [← (hv).length]; exact hi'
      obtain ⟨tb, eb⟩ := intsAre_get hv i hi' hj
      rw [eb] at F3
      have F4 := fr_congr (m' := fun y => if y = PySem.Str.ofString "bit" then some (.int ns[i] tb) else if y = PySem.Str.ofString "value" then some (.int (foldB (ns.take i)) t) else List.lookup y [(PySem.Str.ofString "is_high", Value.bool true), (PySem.Str.ofString "row", Value.ref l)]) F3 (fun y => by
        by_cases q : y = PySem.Str.ofString "bit"
        · simp only [q, if_true]
        · rw [if_neg q, if_neg q, hm y, if_neg q])
      clear F3 hm eb
      refine execsM_any ?_
      k_steps
      dsimp only
      refine execsM_nil ?_
      refine' ⟨_, [], _, _, rfl, ?J, ?F, ?N⟩
      case F => k_asm
      case N => k_asm
      refine ⟨rfl, some (.int ns[i] tb), ?t2, fun y => ?_⟩
      rotate_left
      by_cases q : y = PySem.Str.ofString "value"
      · simp only [q, if_true]
        rw [List.take_succ_eq_append_getElem hj, foldB_snoc]
      · simp only [if_neg q]
    case done =>
      rintro m ch h3 tk3 ⟨rfl, b0, t, hm⟩ F3 N3
      have F4 := fr_congr (m' := fun y => if y = PySem.Str.ofString "value" then some (.int (foldB ns) t) else if y = PySem.Str.ofString "bit" then b0 else List.lookup y [(PySem.Str.ofString "is_high", Value.bool true), (PySem.Str.ofString "row", Value.ref l)]) F3 (fun y => by
        rw [hm y, (hv).length, List.take_length])
      clear F3 hm
      dsimp only
      refine execsM_any ?_
      k_steps
      rw [show foldB ns = num true ns from foldB_eq ns]
      exact ret _ _ _ (by k_asm) (by k_asm)
  · rename_i FB NB hI hC lB
    subst_vars
    refine' forListM (vs := _) (n := 0) (ch := []) (rest := _ :: (l, W.listOf vs.toArray n) :: news) (fun i m ch => ch = [] ∧ ∃ (b0 : Option Value) (t : Tok), ∀ y, m y = if y = PySem.Str.ofString "value" then some (.int (foldB (ns.reverse.take i)) t) else if y = PySem.Str.ofString "bit" then b0 else List.lookup y [(PySem.Str.ofString "is_high", Value.bool false), (PySem.Str.ofString "row", Value.ref l)]) rfl FB NB ?hJ9 ?hl9 ?hc9 ?turn9 ?done9
    case hJ9 =>
      refine ⟨rfl, none, ?t9, fun y => ?_⟩
      rotate_left
      by_cases q : y = PySem.Str.ofString "value"
      · simp only [q, if_true]; rfl
      · rw [if_neg q, if_neg q]
        by_cases q2 : y = PySem.Str.ofString "bit"
        · subst q2; rw [if_pos rfl]; rfl
        · rw [if_neg q2]; rfl
    case hl9 => rintro i m ch ⟨rfl, _⟩; first | exact .head _ | exact .tail _ (.head _)
    case hc9 => rintro i m ch ⟨rfl, _⟩ p hp; exact absurd hp List.not_mem_nil
    case turn9 =>
      rintro i hi' it io m ch h3 tk3 io1 ⟨rfl, b0, t, hm⟩ F3 N3
      have hj : i < ns.reverse.length := by rw [← (hI).length]; exact hi'
      obtain ⟨tb, eb⟩ := intsAre_get hI i hi' hj
      rw [eb] at F3
      have F4 := fr_congr (m' := fun y => if y = PySem.Str.ofString "bit" then some (.int ns.reverse[i] tb) else if y = PySem.Str.ofString "value" then some (.int (foldB (ns.reverse.take i)) t) else List.lookup y [(PySem.Str.ofString "is_high", Value.bool false), (PySem.Str.ofString "row", Value.ref l)]) F3 (fun y => by
        by_cases q : y = PySem.Str.ofString "bit"
        · simp only [q, if_true]
        · rw [if_neg q, if_neg q, hm y, if_neg q])
      clear F3 hm eb
      refine execsM_any ?_
      k_steps
      dsimp only
      refine execsM_nil ?_
      refine' ⟨_, [], _, _, rfl, ?J9, ?F9, ?N9⟩
      case F9 => k_asm
      case N9 => k_asm
      refine ⟨rfl, some (.int ns.reverse[i] tb), ?t8, fun y => ?_⟩
      rotate_left
      by_cases q : y = PySem.Str.ofString "value"
      · simp only [q, if_true]
        rw [List.take_succ_eq_append_getElem hj, foldB_snoc]
      · simp only [if_neg q]
    case done9 =>
      rintro m ch h3 tk3 ⟨rfl, b0, t, hm⟩ F3 N3
      have F4 := fr_congr (m' := fun y => if y = PySem.Str.ofString "value" then some (.int (foldB ns.reverse) t) else if y = PySem.Str.ofString "bit" then b0 else List.lookup y [(PySem.Str.ofString "is_high", Value.bool false), (PySem.Str.ofString "row", Value.ref l)]) F3 (fun y => by
        rw [hm y, (hI).length, List.take_length])
      clear F3 hm
      dsimp only
      refine execsM_any ?_
      k_steps
      rw [show foldB ns.reverse = num false ns from (foldB_eq _).trans (by rw [List.reverse_reverse]; rfl)]
      rename_i kF kN Tc kX
      exact ret _ _ _ kF (fun p hp => kN p (.tail _ hp))
end
end
section -- C13
set_option maxRecDepth 100000
set_option maxHeartbeats 8000000
set_option linter.unusedVariables false


theorem drop2y {h₀ h : Heap} {L : Addr} {e a : Addr × Obj} {news : List (Addr × Obj)} (N : News h₀ L h (e :: a :: news)) : News h₀ L h (e :: news) := fun p hp => N p (by
  rcases List.mem_cons.mp hp with h | h
  · subst h; exact .head _
  · exact .tail _ (.tail _ h))
theorem of_allLt {d : Addr} : ∀ {l : List (Addr × Obj)}, AllLt d l → ∀ p ∈ l, p.1 < d
  | [], _, p, h => absurd h List.not_mem_nil
  | q :: r, h, p, hp => by
    rcases List.mem_cons.mp hp with rfl | hp
    · exact h.1
    · exact of_allLt h.2 p hp
theorem cons_mem {h₀ h : Heap} {L : Addr} {e : Addr × Obj} {news : List (Addr × Obj)} (N : News h₀ L h news) (hm : e ∈ news) : News h₀ L h (e :: news) := fun p hp => by
  rcases List.mem_cons.mp hp with rfl | hp
  · exact N _ hm
  · exact N _ hp
theorem uncons {h₀ h : Heap} {L : Addr} {e : Addr × Obj} {news : List (Addr × Obj)} (N : News h₀ L h (e :: news)) : News h₀ L h news := fun p hp => N p (.tail _ hp)
theorem fill_ints {ws : List Value} {ns : List Int} (h : IntsAre ws (ns ++ (List.replicate ((-(ns.length : Int)).fmod 8).toNat [(0 : Int)]).flatten)) : IntsAre ws (ns ++ List.replicate ((-(ns.length : Int)) % 8).toNat 0) := by
  rwa [List.flatten_replicate_singleton, Int.fmod_eq_emod_of_nonneg _ (by decide)] at h
section
variable {w : World} {p : Program} {loose : List PySem.Str} {mean : ExcName → Option Value} {mg mb : PySem.Str → Option Value}
  {dp un : Nat} {gd : Option (List Code)} {cn : PySem.Str} {cs : Scope} {a : Addr} {ccd : Value} {cl : List (PySem.Str × Addr)} {outer : List Env} {A₀ : Around} {base h₀ : Heap} {L : Addr} {m : PySem.Str → Option Value} {news : List (Addr × Obj)} {s : Shared} {Q E : Value → Shared → Prop}

theorem filled_c {l : Addr} {vs : List Value} {ns : List Int} {n : Nat} (B : Below A₀ base outer h₀) (F : Fr h₀ L s.heap m) (X : (Mine.hd.heap_39 w.params).In h₀) (N : News h₀ L s.heap ((l, W.listOf vs.toArray n) :: news)) (T : Top p loose mean mg mb h₀) (hk : cs.kind = .function)
    (hd : dp + 16 < recursionLimit) (hu : un + 400 < cLine) (hv : IntsAre vs ns) (hn : ns.length ≤ 100000)
    (ret : ∀ l2 vs2 n2 h' tk, IntsAre vs2 (ns ++ List.replicate ((-(ns.length : Int)) % 8).toNat 0) → (∀ p ∈ news, p.1 < l2) → Fr h₀ L h' m → News h₀ L h' ((l2, W.listOf vs2.toArray n2) :: (l, W.listOf vs.toArray n) :: news) → Q (.ref l2) { s with heap := h', toks := tk }) :
    wpAny (model Challenge.rw_nn0201_01.row.prog w) (ktrTop dp un gd cn cs L a ccd cl outer) (call (.ref 310) [.ref l]) Q E s := by
  refine wpAny_call ?_
  k_dflt (refine' code_def ?k1 ?k2 ?k3 ?k4 ?k5 ?kA ?kF ?kK ?k6 ?k7 ?k8 ?k9 ?kB ?_ ?c2 ?c3 ?c4 ?c5; (case kA => exact rfl); (case kF => exact rfl); (case kK => assumption); (case k1 => k_asm); (case k2 => k_asm); (case k3 => k_asm); (case k4 => k_asm); (case k5 => k_asm); (case k6 => k_is); (case k7 => k_is); (case k8 => ktr_room); (case k9 => first | exact BindsTo.of_eq rfl | exact binds_K (by k_in) rfl (by k_is) rfl rfl rfl); (case c5 => decide); (case kB => exact locs rfl); (case c2 => exact rfl); (case c3 => exact rfl); (case c4 => exact rfl); k_whole; intro g' L' h' FG' F' N' B' X' T'; (try dsimp only); (try k_lift B'); (try k_fold))
  k_steps
  rename_i kF kN Tc kX
  refine ret _ _ _ _ _ (fill_ints (by assumption)) (of_allLt (by obtain ⟨_, _, _, z⟩ := (by assumption : _ ∧ _ ∧ _ ∧ AllLt _ news); exact z)) kF (drop2y (drop2y kN))

theorem filled_m {l : Addr} {vs : List Value} {ns : List Int} {n : Nat} (B : Below A₀ base outer h₀) (F : Fr h₀ L s.heap m) (X : (Mine.hd.heap_39 w.params).In h₀) (N : News h₀ L s.heap news) (hm : (l, W.listOf vs.toArray n) ∈ news) (T : Top p loose mean mg mb h₀) (hk : cs.kind = .function)
    (hd : dp + 16 < recursionLimit) (hu : un + 400 < cLine) (hv : IntsAre vs ns) (hn : ns.length ≤ 100000)
    (ret : ∀ l2 vs2 n2 ks h' tk, ks = ns ++ List.replicate ((-(ns.length : Int)) % 8).toNat 0 → IntsAre vs2 ks → ks.length ≤ ns.length + 7 → ks.length % 8 = 0 → (∀ p ∈ news, p.1 < l2) → Fr h₀ L h' m → News h₀ L h' ((l2, W.listOf vs2.toArray n2) :: news) → Q (.ref l2) { s with heap := h', toks := tk }) :
    wpAny (model Challenge.rw_nn0201_01.row.prog w) (ktrTop dp un gd cn cs L a ccd cl outer) (call (.ref 310) [.ref l]) Q E s :=
  filled_c B F X (cons_mem N hm) T hk hd hu hv hn fun l2 vs2 n2 h' tk hi lt F' N' => ret l2 vs2 n2 _ h' tk rfl hi (by rw [List.length_append, List.length_replicate]; omega) (by rw [List.length_append, List.length_replicate]; omega) lt F' (drop2y N')
theorem number_m {l : Addr} {vs : List Value} {ns : List Int} {n : Nat} {hi : Bool} (B : Below A₀ base outer h₀) (F : Fr h₀ L s.heap m) (X : (Mine.hd.heap_39 w.params).In h₀) (N : News h₀ L s.heap news) (hm : (l, W.listOf vs.toArray n) ∈ news) (T : Top p loose mean mg mb h₀) (hk : cs.kind = .function)
    (hd : dp + 12 < recursionLimit) (hu : un + 200 < cLine) (hv : IntsAre vs ns) (hn : ns.length ≤ 64)
    (ret : ∀ t h' tk, Fr h₀ L h' m → News h₀ L h' news → Q (.int (num hi ns) t) { s with heap := h', toks := tk }) :
    wpAny (model Challenge.rw_nn0201_01.row.prog w) (ktrTop dp un gd cn cs L a ccd cl outer) (call (.ref 303) [.ref l, .bool hi]) Q E s :=
  number_c B F X (cons_mem N hm) T hk hd hu hv hn fun t h' tk F' N' => ret t h' tk F' (uncons N')
end
end
section -- C14
set_option maxRecDepth 100000
set_option maxHeartbeats 8000000
set_option linter.unusedVariables false


theorem drop2z {h₀ h : Heap} {L : Addr} {e a : Addr × Obj} {news : List (Addr × Obj)} (N : News h₀ L h (e :: a :: news)) : News h₀ L h (e :: news) := fun p hp => N p (by
  rcases List.mem_cons.mp hp with h | h
  · subst h; exact .head _
  · exact .tail _ (.tail _ h))
local macro_rules | `(tactic| walk_at "eval ListComp") => `(tactic| refine of_stop ?_)
local macro_rules | `(tactic| k_all) => `(tactic| first | assumption | exact fun p hp => Nat.ne_of_lt (Nat.lt_of_lt_of_le (of_allLt (And.right (by assumption)) p hp) (by omega)) | exact fun p hp => Nat.ne_of_lt (Nat.lt_of_lt_of_le (of_allLt (by assumption) p hp) (by omega)))
section
variable {w : World} {p : Program} {loose : List PySem.Str} {mean : ExcName → Option Value} {mg mb : PySem.Str → Option Value}
  {dp un : Nat} {gd : Option (List Code)} {cn : PySem.Str} {cs : Scope} {a : Addr} {ccd : Value} {cl : List (PySem.Str × Addr)} {outer : List Env} {A₀ : Around} {base h₀ : Heap} {L : Addr} {m : PySem.Str → Option Value} {news : List (Addr × Obj)} {s : Shared} {Q E : Value → Shared → Prop}

theorem octets_law_c {l : Addr} {vs : List Value} {ns : List Int} {n : Nat} {hi : Bool} (B : Below A₀ base outer h₀) (F : Fr h₀ L s.heap m) (X : (Mine.hd.heap_39 w.params).In h₀) (N : News h₀ L s.heap ((l, W.listOf vs.toArray n) :: news)) (T : Top p loose mean mg mb h₀) (hk : cs.kind = .function)
    (hd : dp + 24 < recursionLimit) (hu : un + 600 < cLine) (hv : IntsAre vs ns) (hn : ns.length ≤ 4000) (hb : Bits ns)
    (ret : ∀ b t h' tk, KBw.bInts b = octsOf hi (filled ns) → Fr h₀ L h' m → News h₀ L h' ((l, W.listOf vs.toArray n) :: news) → Q (.bytes b t) { s with heap := h', toks := tk }) :
    wpAny (model Challenge.rw_nn0201_01.row.prog w) (ktrTop dp un gd cn cs L a ccd cl outer) (call (.ref 315) [.ref l, .bool hi]) Q E s := by
  refine wpAny_call ?_
  k_dflt (refine' code_defC ?k1 ?k2 ?k3 ?k4 ?k5 ?kA ?kF ?kK ?k6 ?k7 ?k8 ?k9 ?kB ?kD ?_ ?c2 ?c3 ?c4; (case kA => exact rfl); (case kF => exact rfl); (case kK => assumption); (case k1 => k_asm); (case k2 => k_asm); (case k3 => k_asm); (case k4 => k_asm); (case k5 => k_asm); (case k6 => k_is); (case k7 => k_is); (case k8 => ktr_room); (case k9 => first | exact BindsTo.of_eq rfl | exact binds_K (by k_in) rfl (by k_is) rfl rfl rfl | fail "k_enter: no rule for these arguments"); (case kB => exact rfl); (case kD => decide +kernel); (case c2 => exact rfl); (case c3 => exact rfl); (case c4 => exact rfl); k_whole; intro g' L' h' tk' cells' FG' F' N' Y' B' X' T' l1; (try k_lt l1); k_cells Y'; (try simp only [List.cons_append, List.nil_append] at N'); (try dsimp only); (try k_lift B'); (try k_fold))
  (k_steps <;> repeat' ((with_reducible refine go_on ?_); (first | (with_reducible (k_here; k_dflt (refine' filled_m ?B ?F ?X ?N ?hm ?T ?hk ?hd ?hu ?hv ?hn ?_; (case B => k_asm); (case F => k_asm); (case X => k_asm); (case N => k_asm); (case T => k_asm); (case hm => k_mem); (case hk => first | assumption | exact rfl); (case hd => first | exact n_up (by assumption) (by decide) | ktr_room); (case hu => first | exact n_up (by assumption) (by decide) | ktr_units); (case hv => assumption); (case hn => omega); k_whole); intro l2 vs2 n2 ks hF tkF hksE hvF hksL hks8 ltF FF_ NF; k_lt ltF)) | fail); k_steps))
  refine go_on ?_
  obtain ⟨q, hq⟩ : ∃ q, ks.length = 8 * q := ⟨ks.length / 8, by omega⟩
  k_dflt (refine ListComp_step (F₀ := by k_asm) (by with_unfolding_all rfl) (by decide) (by rfl) (by decide) (by rfl) ?_)
  k_steps
  have hkb : Bits ks := by rw [hksE]; exact bits_filled hb
  refine StepSrc.mk q rfl (by k_asm) (by k_asm) (by with_reducible assumption) (small8 hq (by omega)) (size8 hq) (by rw [sizeLine_eq]; omega) fun g => ?_
  refine compRest_fold (fun i => num hi ((ks.drop (8 * i)).take 8)) (fun i hi' ys v I oI C oC D m₂ h tk E' hP hC hx F N off ne => ?_) trivial fun ys hys => ?_
  · obtain ⟨tv, rfl⟩ := hP
    (k_steps <;> repeat' ((with_reducible refine go_on ?_); (first | (with_reducible (k_here; k_dflt (refine' number_m ?B ?F ?X ?N ?hm ?T ?hk ?hd ?hu ?hv ?hn ?_; (case B => k_asm); (case F => k_asm); (case X => k_asm); (case N => k_asm); (case T => k_asm); (case hm => k_mem); (case hk => first | assumption | exact rfl); (case hd => first | exact n_up (by assumption) (by decide) | ktr_room); (case hu => first | exact n_up (by assumption) (by decide) | ktr_units); (case hv => assumption); (case hn => (simp only [List.length_take, List.length_drop]; omega)); k_whole); intro tnN hnN tknN FnN NnN)) | fail); k_steps))
    refine EltEnd.of (by rw [slice8 hq hi']) (by k_asm) (by first | k_asm | exact fun p hp => NnN p (.tail _ hp))
  · intro D hD tkD FD ND offD
    k_steps
    have eo : (List.range q).map (fun i => num hi ((ks.drop (8 * i)).take 8)) = octsOf hi ks := by unfold octsOf; rw [show ks.length / 8 = q by omega]
    rw [eo] at hys
    have hin : KBa.In (octsOf hi ks) := octs_in hkb
    refine KBa.make_K (by k_asm) (by k_asm) rfl ⟨_, (ND (D, LCg.lst ys) (.head _)).1, rfl, _, rfl⟩ hys hin (by unfold octsOf; rw [List.length_map, List.length_range]; omega) fun hB tB kB FB NB _ => ?_
    k_steps
    rename_i kF kN Tc kX
    exact ret _ _ _ _ (by rw [KBa.ints_make hin, hksE]; rfl) kF fun p hp => kN p (by
      rcases List.mem_cons.mp hp with rfl | hp
      · simp
      · simp [hp])
end
end
section -- Fk
set_option maxRecDepth 100000
set_option maxHeartbeats 4000000
set_option linter.unusedVariables false
theorem fr_k5 {g h : Heap} {L : Addr} {m : PySem.Str → Option Value} {x1 x2 x3 x4 x5 : PySem.Str} {v1 v2 v3 v4 v5 : Value} (F : Fr g L h m) (e1 : m x1 = some v1) (e2 : m x2 = some v2) (e3 : m x3 = some v3) (e4 : m x4 = some v4) (e5 : m x5 = some v5) : Fr g L h (fun y => if y = x1 then some v1 else if y = x2 then some v2 else if y = x3 then some v3 else if y = x4 then some v4 else if y = x5 then some v5 else m y) := fr_congr F fun y => by
  by_cases q1 : y = x1
  · rw [if_pos q1, q1, e1]
  rw [if_neg q1]
  by_cases q2 : y = x2
  · rw [if_pos q2, q2, e2]
  rw [if_neg q2]
  by_cases q3 : y = x3
  · rw [if_pos q3, q3, e3]
  rw [if_neg q3]
  by_cases q4 : y = x4
  · rw [if_pos q4, q4, e4]
  rw [if_neg q4]
  by_cases q5 : y = x5
  · rw [if_pos q5, q5, e5]
  rw [if_neg q5]
theorem fr_k3 {g h : Heap} {L : Addr} {m : PySem.Str → Option Value} {x1 x2 x3 : PySem.Str} {v1 v2 v3 : Value} (F : Fr g L h m) (e1 : m x1 = some v1) (e2 : m x2 = some v2) (e3 : m x3 = some v3) : Fr g L h (fun y => if y = x1 then some v1 else if y = x2 then some v2 else if y = x3 then some v3 else m y) := fr_congr F fun y => by
  by_cases q1 : y = x1
  · rw [if_pos q1, q1, e1]
  rw [if_neg q1]
  by_cases q2 : y = x2
  · rw [if_pos q2, q2, e2]
  rw [if_neg q2]
  by_cases q3 : y = x3
  · rw [if_pos q3, q3, e3]
  rw [if_neg q3]
theorem fr_k4 {g h : Heap} {L : Addr} {m : PySem.Str → Option Value} {x1 x2 x3 x4 : PySem.Str} {v1 v2 v3 v4 : Value} (F : Fr g L h m) (e1 : m x1 = some v1) (e2 : m x2 = some v2) (e3 : m x3 = some v3) (e4 : m x4 = some v4) : Fr g L h (fun y => if y = x1 then some v1 else if y = x2 then some v2 else if y = x3 then some v3 else if y = x4 then some v4 else m y) := fr_congr F fun y => by
  by_cases q1 : y = x1
  · rw [if_pos q1, q1, e1]
  rw [if_neg q1]
  by_cases q2 : y = x2
  · rw [if_pos q2, q2, e2]
  rw [if_neg q2]
  by_cases q3 : y = x3
  · rw [if_pos q3, q3, e3]
  rw [if_neg q3]
  by_cases q4 : y = x4
  · rw [if_pos q4, q4, e4]
  rw [if_neg q4]
theorem ne_obj {h₀ h : Heap} {L a b : Addr} {oa ob : Obj} {news : List (Addr × Obj)} (N : News h₀ L h news) (ha : (a, oa) ∈ news) (hb : (b, ob) ∈ news) (hne : oa ≠ ob) : a ≠ b := fun e => by
  have z1 := (N _ ha).1
  have z2 := (N _ hb).1
  rw [show (a, oa).1 = b from e, z2] at z1
  exact hne (Option.some.inj z1).symm
theorem fr_k6 {g h : Heap} {L : Addr} {m : PySem.Str → Option Value} {x1 x2 x3 x4 x5 x6 : PySem.Str} {v1 v2 v3 v4 v5 v6 : Value} (F : Fr g L h m) (e1 : m x1 = some v1) (e2 : m x2 = some v2) (e3 : m x3 = some v3) (e4 : m x4 = some v4) (e5 : m x5 = some v5) (e6 : m x6 = some v6) : Fr g L h (fun y => if y = x1 then some v1 else if y = x2 then some v2 else if y = x3 then some v3 else if y = x4 then some v4 else if y = x5 then some v5 else if y = x6 then some v6 else m y) := fr_congr F fun y => by
  by_cases q1 : y = x1
  · rw [if_pos q1, q1, e1]
  rw [if_neg q1]
  by_cases q2 : y = x2
  · rw [if_pos q2, q2, e2]
  rw [if_neg q2]
  by_cases q3 : y = x3
  · rw [if_pos q3, q3, e3]
  rw [if_neg q3]
  by_cases q4 : y = x4
  · rw [if_pos q4, q4, e4]
  rw [if_neg q4]
  by_cases q5 : y = x5
  · rw [if_pos q5, q5, e5]
  rw [if_neg q5]
  by_cases q6 : y = x6
  · rw [if_pos q6, q6, e6]
  rw [if_neg q6]
theorem fr_k7 {g h : Heap} {L : Addr} {m : PySem.Str → Option Value} {x1 x2 x3 x4 x5 x6 x7 : PySem.Str} {v1 v2 v3 v4 v5 v6 v7 : Value} (F : Fr g L h m) (e1 : m x1 = some v1) (e2 : m x2 = some v2) (e3 : m x3 = some v3) (e4 : m x4 = some v4) (e5 : m x5 = some v5) (e6 : m x6 = some v6) (e7 : m x7 = some v7) : Fr g L h (fun y => if y = x1 then some v1 else if y = x2 then some v2 else if y = x3 then some v3 else if y = x4 then some v4 else if y = x5 then some v5 else if y = x6 then some v6 else if y = x7 then some v7 else m y) := fr_congr F fun y => by
  by_cases q1 : y = x1
  · rw [if_pos q1, q1, e1]
  rw [if_neg q1]
  by_cases q2 : y = x2
  · rw [if_pos q2, q2, e2]
  rw [if_neg q2]
  by_cases q3 : y = x3
  · rw [if_pos q3, q3, e3]
  rw [if_neg q3]
  by_cases q4 : y = x4
  · rw [if_pos q4, q4, e4]
  rw [if_neg q4]
  by_cases q5 : y = x5
  · rw [if_pos q5, q5, e5]
  rw [if_neg q5]
  by_cases q6 : y = x6
  · rw [if_pos q6, q6, e6]
  rw [if_neg q6]
  by_cases q7 : y = x7
  · rw [if_pos q7, q7, e7]
  rw [if_neg q7]
theorem fr_k8 {g h : Heap} {L : Addr} {m : PySem.Str → Option Value} {x1 x2 x3 x4 x5 x6 x7 x8 : PySem.Str} {v1 v2 v3 v4 v5 v6 v7 v8 : Value} (F : Fr g L h m) (e1 : m x1 = some v1) (e2 : m x2 = some v2) (e3 : m x3 = some v3) (e4 : m x4 = some v4) (e5 : m x5 = some v5) (e6 : m x6 = some v6) (e7 : m x7 = some v7) (e8 : m x8 = some v8) : Fr g L h (fun y => if y = x1 then some v1 else if y = x2 then some v2 else if y = x3 then some v3 else if y = x4 then some v4 else if y = x5 then some v5 else if y = x6 then some v6 else if y = x7 then some v7 else if y = x8 then some v8 else m y) := fr_congr F fun y => by
  by_cases q1 : y = x1
  · rw [if_pos q1, q1, e1]
  rw [if_neg q1]
  by_cases q2 : y = x2
  · rw [if_pos q2, q2, e2]
  rw [if_neg q2]
  by_cases q3 : y = x3
  · rw [if_pos q3, q3, e3]
  rw [if_neg q3]
  by_cases q4 : y = x4
  · rw [if_pos q4, q4, e4]
  rw [if_neg q4]
  by_cases q5 : y = x5
  · rw [if_pos q5, q5, e5]
  rw [if_neg q5]
  by_cases q6 : y = x6
  · rw [if_pos q6, q6, e6]
  rw [if_neg q6]
  by_cases q7 : y = x7
  · rw [if_pos q7, q7, e7]
  rw [if_neg q7]
  by_cases q8 : y = x8
  · rw [if_pos q8, q8, e8]
  rw [if_neg q8]
theorem fr_k9 {g h : Heap} {L : Addr} {m : PySem.Str → Option Value} {x1 x2 x3 x4 x5 x6 x7 x8 x9 : PySem.Str} {v1 v2 v3 v4 v5 v6 v7 v8 v9 : Value} (F : Fr g L h m) (e1 : m x1 = some v1) (e2 : m x2 = some v2) (e3 : m x3 = some v3) (e4 : m x4 = some v4) (e5 : m x5 = some v5) (e6 : m x6 = some v6) (e7 : m x7 = some v7) (e8 : m x8 = some v8) (e9 : m x9 = some v9) : Fr g L h (fun y => if y = x1 then some v1 else if y = x2 then some v2 else if y = x3 then some v3 else if y = x4 then some v4 else if y = x5 then some v5 else if y = x6 then some v6 else if y = x7 then some v7 else if y = x8 then some v8 else if y = x9 then some v9 else m y) := fr_congr F fun y => by
  by_cases q1 : y = x1
  · rw [if_pos q1, q1, e1]
  rw [if_neg q1]
  by_cases q2 : y = x2
  · rw [if_pos q2, q2, e2]
  rw [if_neg q2]
  by_cases q3 : y = x3
  · rw [if_pos q3, q3, e3]
  rw [if_neg q3]
  by_cases q4 : y = x4
  · rw [if_pos q4, q4, e4]
  rw [if_neg q4]
  by_cases q5 : y = x5
  · rw [if_pos q5, q5, e5]
  rw [if_neg q5]
  by_cases q6 : y = x6
  · rw [if_pos q6, q6, e6]
  rw [if_neg q6]
  by_cases q7 : y = x7
  · rw [if_pos q7, q7, e7]
  rw [if_neg q7]
  by_cases q8 : y = x8
  · rw [if_pos q8, q8, e8]
  rw [if_neg q8]
  by_cases q9 : y = x9
  · rw [if_pos q9, q9, e9]
  rw [if_neg q9]
theorem fr_k1 {g h : Heap} {L : Addr} {m : PySem.Str → Option Value} {x1 : PySem.Str} {v1 : Value} (F : Fr g L h m) (e1 : m x1 = some v1) : Fr g L h (fun y => if y = x1 then some v1 else m y) := fr_congr F fun y => by
  by_cases q1 : y = x1
  · rw [if_pos q1, q1, e1]
  rw [if_neg q1]
theorem fr_k2 {g h : Heap} {L : Addr} {m : PySem.Str → Option Value} {x1 x2 : PySem.Str} {v1 v2 : Value} (F : Fr g L h m) (e1 : m x1 = some v1) (e2 : m x2 = some v2) : Fr g L h (fun y => if y = x1 then some v1 else if y = x2 then some v2 else m y) := fr_congr F fun y => by
  by_cases q1 : y = x1
  · rw [if_pos q1, q1, e1]
  rw [if_neg q1]
  by_cases q2 : y = x2
  · rw [if_pos q2, q2, e2]
  rw [if_neg q2]
end
section -- En
set_option maxRecDepth 100000
set_option maxHeartbeats 4000000
set_option linter.unusedVariables false
open Sem (wp)
abbrev enO (it : Addr) (i : Int) (old : Value) : Obj := { cls := .type "enumerate", dict := none, data := .fields #[.none, .bool false, .ref it, rawInt i, .none, old], slots := #[] }
theorem pickN {h₀ h : Heap} {L : Addr} {e : Addr × Obj} {l l' : List (Addr × Obj)} (N : News h₀ L h l) (hm : e ∈ l) (N' : News h₀ L h l') : News h₀ L h (e :: l') := fun p hp => by
  rcases List.mem_cons.mp hp with rfl | hp
  · exact N _ hm
  · exact N' p hp
def NextAt (P : Heap → Prop) (s : Shared) (f : Flow) (s₃ : Shared) : Prop := f = .next ∧ ∃ h tk, s₃ = { s with heap := h, toks := tk } ∧ P h
theorem nextAt_ {P : Heap → Prop} {s : Shared} {h : Heap} {tk : Nat} (x : P h) : NextAt P s .next { s with heap := h, toks := tk } := ⟨rfl, h, tk, rfl, x⟩
abbrev tupO (items : Array Value) : Obj := { cls := .type "tuple", data := .seq items }
section
variable {b : Bool} {prog : Program} {w : World} {A : Around} {E : Value → Shared → Prop} {s : Shared} {g : Heap} {L a : Addr} {m : PySem.Str → Option Value} {name : PySem.Str} {scope : Scope} {cd : Value} {cl : List (PySem.Str × Addr)} {l : Addr} {vs : List Value} {n : Nat} {ch rest news : List (Addr × Obj)} {env : Env}
theorem call_enum_N {Q : Value → Shared → Prop} (F : Fr g L s.heap m) (N : News g L s.heap news) (hm : (l, W.listOf vs.toArray n) ∈ news)
    (h : ∀ e it io h', IsIt io l 0 → e ≠ it → (∀ p ∈ news, p.1 < it) → (∀ p ∈ news, p.1 < e) → Fr g L h' m → News g L h' ((e, enO it 0 .none) :: (it, io) :: news) → Q (.ref e) { s with heap := h' }) :
    wpAny (model prog w) A (call (.type "enumerate") [.ref l]) Q E s := by
  refine call_enumerate_list ⟨_, (N _ hm).1, rfl, n, rfl⟩ fun h' he hit hz hk => ?_
  obtain ⟨io, h1, h2, h3⟩ := hit
  have lt : ∀ p ∈ news, p.1 < s.heap.objs.size := fun p hp => Heap.lt_size (N p hp).1
  have gn : g.get? s.heap.objs.size = none := by
    cases q : g.get? s.heap.objs.size with
    | none => rfl
    | some o => exact absurd (Heap.lt_size (F.keep _ _ q)) (Nat.lt_irrefl _)
  have gn2 : g.get? (s.heap.objs.size + 1) = none := by
    cases q : g.get? (s.heap.objs.size + 1) with
    | none => rfl
    | some o => exact absurd (Heap.lt_size (F.keep _ _ q)) (Nat.not_lt.mpr (Nat.le_succ _))
  obtain ⟨oL, x1, x2, hL, x3⟩ := F.ns
  have ltL := Heap.lt_size hL
  refine h (s.heap.objs.size + 1) s.heap.objs.size io h' ⟨h2, h3⟩ (Nat.succ_ne_self _) lt (fun p hp => Nat.lt_succ_of_lt (lt p hp)) (F.keeps hk) fun p hp => ?_
  rcases List.mem_cons.mp hp with rfl | hp
  · exact ⟨he, Nat.ne_of_gt (Nat.lt_succ_of_lt ltL), gn2⟩
  rcases List.mem_cons.mp hp with rfl | hp
  · exact ⟨h1, Nat.ne_of_gt ltL, gn⟩
  · exact N.grown hk p hp

theorem news_both {h h' : Heap} {e it : Addr} {oe oi oe' oi' : Obj} (N : News g L h (ch ++ ((e, oe) :: (it, oi) :: rest))) (h1 : h'.get? e = some oe') (h2 : h'.get? it = some oi')
    (hk : ∀ b o, b ≠ e → b ≠ it → h.get? b = some o → h'.get? b = some o) (nc : ∀ p ∈ ch, p.1 ≠ e ∧ p.1 ≠ it) (nr : ∀ p ∈ rest, p.1 ≠ e ∧ p.1 ≠ it) : News g L h' (ch ++ ((e, oe') :: (it, oi') :: rest)) := by
  intro p hp
  have ze := N (e, oe) (List.mem_append.mpr (.inr (.head _)))
  have zi := N (it, oi) (List.mem_append.mpr (.inr (.tail _ (.head _))))
  rcases List.mem_append.mp hp with hp | hp
  · have z := N p (List.mem_append.mpr (.inl hp))
    exact ⟨hk _ _ (nc p hp).1 (nc p hp).2 z.1, z.2⟩
  rcases List.mem_cons.mp hp with rfl | hp
  · exact ⟨h1, ze.2⟩
  rcases List.mem_cons.mp hp with rfl | hp
  · exact ⟨h2, zi.2⟩
  · have z := N p (List.mem_append.mpr (.inr (.tail _ (.tail _ hp))))
    exact ⟨hk _ _ (nr p hp).1 (nr p hp).2 z.1, z.2⟩
theorem fr_but2 {h h' : Heap} {e it : Addr} (F : Fr g L h m) (hk : ∀ b o, b ≠ e → b ≠ it → h.get? b = some o → h'.get? b = some o) (he : e ≠ L) (hi : it ≠ L) (ge : g.get? e = none) (gi : g.get? it = none) : Fr g L h' m := by
  obtain ⟨oL, a1, a2, hoL, a3⟩ := F.ns
  refine ⟨⟨oL, a1, a2, hk _ _ he.symm hi.symm hoL, a3⟩, fun b x y => hk b x ?_ ?_ (F.keep b x y), F.above⟩
  · rintro rfl; rw [ge] at y; cases y
  · rintro rfl; rw [gi] at y; cases y

/- for a, b in enumerate(l), l a list of the ledger. -/
theorem forEnumM {elts : List Expr} {kk : Nat} {tpos : Pos} {body : List Stmt} {Q : Flow → Shared → Prop} {e it : Addr} {io : Obj} {old : Value} (J : Nat → (PySem.Str → Option Value) → List (Addr × Obj) → Prop) (hh : A.handled = none)
    (F : Fr g L s.heap m) (N : News g L s.heap (ch ++ ((e, enO it 0 old) :: (it, io) :: rest))) (io0 : IsIt io l 0) (hei : e ≠ it) (hJ : J 0 m ch)
    (hl : ∀ i m ch, J i m ch → (l, W.listOf vs.toArray n) ∈ ch ++ rest) (hc : ∀ i m ch, J i m ch → ∀ p ∈ ch, (p.2.cls ≠ .type "list_iterator" ∧ p.2.cls ≠ .type "enumerate") ∨ (p.1 ≠ e ∧ p.1 ≠ it)) (nr : ∀ p ∈ rest, p.1 ≠ e ∧ p.1 ≠ it)
    (turn : ∀ i (hi : i < vs.length) io T t old m ch h tk, IsIt io l (i + 1) → J i m ch → Fr g L h m → News g L h ((T, tupO #[.int (i : Int) t, vs[i]]) :: (ch ++ ((e, enO it ((i : Int) + 1) old) :: (it, io) :: rest))) → (∀ p ∈ ch ++ ((e, enO it ((i : Int) + 1) old) :: (it, io) :: rest), p.1 < T) →
      wpAny (model prog w) A (assign (.Tuple elts kk tpos) env (.ref T)) (fun _ s₂ => wpM b (model prog w) A (execs body env) (fun f s₃ => match f with
        | .next => TurnE (J (i + 1)) g L ((e, enO it ((i : Int) + 1) old) :: (it, io) :: rest) s s₃
        | .ret v => Q (.ret v) s₃
        | _ => False) (fun _ _ => False) s₂) (fun _ _ => False) { s with heap := h, toks := tk })
    (done : ∀ m ch h tk, J vs.length m ch → Fr g L h m → News g L h (ch ++ rest) → Q .next { s with heap := h, toks := tk }) :
    wpAny (model prog w) A (pyIter (.ref e)) (fun it s₂ => wpM b (model prog w) A (runOwn (.forLoop (.Tuple elts kk tpos) it body [] env) env) Q E s₂) E s := by
  obtain ⟨hp, gn, dr, tk, os⟩ := s
  dsimp only at F N
  refine wpAny_pyIter_enum (N (e, enO it 0 old) (List.mem_append.mpr (.inr (.head _)))).1 ?_
  refine forLoopM (fun k s' => ∃ i m ch h tk' io old, IsIt io l i ∧ k = vs.length - i ∧ i ≤ vs.length ∧ s' = ⟨h, gn, dr, tk', os⟩ ∧ J i m ch ∧ Fr g L h m ∧ News g L h (ch ++ ((e, enO it (i : Int) old) :: (it, io) :: rest))) (vs.length - 0)
    ⟨0, m, ch, _, _, _, _, io0, rfl, Nat.zero_le _, rfl, hJ, F, N⟩ ?_
  rintro k s' ⟨i, m, ch, h, tk', io, old, ⟨io1, io2⟩, rfl, hi, rfl, hJ, F, N⟩
  have hlm := hl _ _ _ hJ
  have hL : h.get? l = some (W.listOf vs.toArray n) := (N (l, _) (by
    rcases List.mem_append.mp hlm with q | q
    · exact List.mem_append.mpr (.inl q)
    · exact List.mem_append.mpr (.inr (.tail _ (.tail _ q))))).1
  have hE := N (e, enO it (i : Int) old) (List.mem_append.mpr (.inr (.head _)))
  have hIt := N (it, io) (List.mem_append.mpr (.inr (.tail _ (.head _))))
  have nc : ∀ p ∈ ch, p.1 ≠ e ∧ p.1 ≠ it := fun p hq => by
    have z := (N p (List.mem_append.mpr (.inl hq))).1
    rcases hc _ _ _ hJ p hq with y | y
    rotate_left
    · exact y
    refine ⟨fun e' => ?_, fun e' => ?_⟩
    · rw [e', hE.1] at z
      exact y.2 (by rw [← Option.some.inj z])
    · rw [e', hIt.1] at z
      exact y.1 (by rw [← Option.some.inj z]; exact io1)
  by_cases q : i < vs.length
  · refine wpAny_pyNext_enum_item hE.1 ⟨_, hIt.1, io1, io2⟩ ⟨_, hL, rfl, _, rfl⟩ (x := vs[i]) (by simp [q]) hei fun h' he' hit' ht' hz' hk' => ?_
    obtain ⟨io', hi1, hi2, hi3⟩ := hit'
    dsimp only
    refine wpAny_letOwnedTupleGo_enum he' fun h'' he'' hs'' => ?_
    have hse : Heap.SameBut e h' h'' := hs''
    have ltE : e < h.objs.size := Heap.lt_size hE.1
    have ltI : it < h.objs.size := Heap.lt_size hIt.1
    have k2 : ∀ b o, b ≠ e → b ≠ it → h.get? b = some o → h''.get? b = some o := fun b o b1 b2 hb => (hse.2 b b1).trans (hk' b o b1 b2 hb)
    have F2 := fr_but2 F k2 hE.2.1 hIt.2.1 hE.2.2 hIt.2.2
    have N2 := news_both N he'' ((hse.2 it hei.symm).trans hi1) k2 nc nr
    have lt2 : ∀ p ∈ ch ++ ((e, enO it ((i : Int) + 1) vs[i]) :: (it, io') :: rest), p.1 < h.objs.size := fun p hp => by
      rcases List.mem_append.mp hp with hp | hp
      · exact Heap.lt_size (N p (List.mem_append.mpr (.inl hp))).1
      rcases List.mem_cons.mp hp with rfl | hp
      · exact ltE
      rcases List.mem_cons.mp hp with rfl | hp
      · exact ltI
      · exact Heap.lt_size (N p (List.mem_append.mpr (.inr (.tail _ (.tail _ hp))))).1
    obtain ⟨oL, x1, x2, hL1, x3⟩ := F.ns
    have gT : g.get? h.objs.size = none := by
      cases q : g.get? h.objs.size with
      | none => rfl
      | some o => exact absurd (Heap.lt_size (F.keep _ _ q)) (Nat.lt_irrefl _)
    refine wpAny_mono (turn i q io' h.objs.size tk' vs[i] m ch h'' (tk' + 1) ⟨hi2, hi3⟩ hJ F2 (fun p hp => ?_) lt2) (fun _ s₂ z => ?_) fun _ _ z => z
    · rcases List.mem_cons.mp hp with rfl | hp
      · exact ⟨(hse.2 _ (Nat.ne_of_gt ltE)).trans ht', Nat.ne_of_gt (Heap.lt_size hL1), gT⟩
      · exact N2 p hp
    · refine wpR_mono z (fun f s₃ z => ?_) fun _ _ z => z
      cases f with
      | next =>
        obtain ⟨m', ch', h4, tk4, rfl, j, F4, N4⟩ := z
        exact ⟨_, by omega, i + 1, m', ch', h4, tk4, io', vs[i], ⟨hi2, hi3⟩, rfl, q, rfl, j, F4, N4⟩
      | ret v => exact z
      | cont => exact z
      | brk => exact z
  · obtain rfl : i = vs.length := by omega
    refine wpAny_pyNext_enum_end hh hE.1 ⟨_, hIt.1, io1, io2⟩ ⟨_, hL, rfl, _, rfl⟩ (by simp) fun h' hs => ?_
    refine done m ch h' tk' hJ (fr_ext F hs hIt.2.1 hIt.2.2) fun p hq => ?_
    have z := N p (by
      rcases List.mem_append.mp hq with q | q
      · exact List.mem_append.mpr (.inl q)
      · exact List.mem_append.mpr (.inr (.tail _ (.tail _ q))))
    exact ⟨hs _ _ (by
      rcases List.mem_append.mp hq with q | q
      · exact (nc _ q).2
      · exact (nr _ q).2) z.1, z.2⟩

/- for x in b, b a bytes. -/
theorem forBytesM {x : PySem.Str} {px : Pos} {body : List Stmt} {Q : Flow → Shared → Prop} {o : Array UInt8} {ot : Tok} (J : Nat → (PySem.Str → Option Value) → List (Addr × Obj) → Prop) (hh : A.handled = none)
    (F : Fr g L s.heap m) (N : News g L s.heap (ch ++ rest)) (hJ : J 0 m ch)
    (hc : ∀ i m ch, J i m ch → ∀ p ∈ ch, p.2.cls ≠ .type "bytes_iterator")
    (turn : ∀ i (hi : i < (KBw.bInts o).length) it io m ch h tk t, io.cls = .type "bytes_iterator" → J i m ch → Fr g L h (fun y => if y = x then some (.int (KBw.bInts o)[i] t) else m y) → News g L h (ch ++ ((it, io) :: rest)) → (∀ p ∈ rest, p.1 < it) →
      wpM b (model prog w) A (execs body (envX name scope L a cd cl)) (fun f s₃ => match f with
        | .next => TurnE (J (i + 1)) g L ((it, io) :: rest) s s₃
        | .ret v => Q (.ret v) s₃
        | _ => False) (fun _ _ => False) { s with heap := h, toks := tk })
    (done : ∀ m ch h tk, J (KBw.bInts o).length m ch → Fr g L h m → News g L h (ch ++ rest) → Q .next { s with heap := h, toks := tk })
    (hk : scope.kind = .function := by rfl) (hx : (envX name scope L a cd cl).kindOf x = some .local := by rfl) :
    wpAny (model prog w) A (pyIter (.bytes o ot)) (fun it s₂ => wpM b (model prog w) A (runOwn (.forLoop (.Name x px) it body [] (envX name scope L a cd cl)) (envX name scope L a cd cl)) Q E s₂) E s := by
  obtain ⟨hp, gn, dr, tk, os⟩ := s
  dsimp only at F N
  refine KBw.pyIter_bytes ?_
  dsimp only
  have ne0 : ∀ p ∈ ch ++ rest, p.1 < hp.objs.size := fun p hq => Heap.lt_size (N p hq).1
  have lr : ∀ p ∈ rest, p.1 < hp.objs.size := fun p hq => ne0 p (List.mem_append.mpr (.inr hq))
  have nr : ∀ p ∈ rest, p.1 ≠ hp.objs.size := fun p hq => Nat.ne_of_lt (lr p hq)
  have F1 := F.push { cls := .type "bytes_iterator", data := .fields #[.bytes o ot, .int 0 0] }
  have N0 := N.push F { cls := .type "bytes_iterator", data := .fields #[.bytes o ot, .int 0 0] }
  have N1 : News g L (hp.push { cls := .type "bytes_iterator", data := .fields #[.bytes o ot, .int 0 0] }) (ch ++ ((hp.objs.size, { cls := .type "bytes_iterator", data := .fields #[.bytes o ot, .int 0 0] }) :: rest)) := fun p hq => N0 p (by
    simp only [List.mem_append, List.mem_cons] at hq ⊢
    rcases hq with h | h | h
    · exact .inr (.inl h)
    · exact .inl h
    · exact .inr (.inr h))
  have sz : (KBw.bInts o).length = o.size := KBw.ints_length o
  refine forLoopM (fun k s' => ∃ i m ch h tk' io, (io.cls = .type "bytes_iterator" ∧ io.data = .fields #[.bytes o ot, .int (i : Nat) 0]) ∧ k = (KBw.bInts o).length - i ∧ i ≤ (KBw.bInts o).length ∧ s' = ⟨h, gn, dr, tk', os⟩ ∧ J i m ch ∧ Fr g L h m ∧ News g L h (ch ++ ((hp.objs.size, io) :: rest))) ((KBw.bInts o).length - 0)
    ⟨0, m, ch, _, _, _, ⟨rfl, rfl⟩, rfl, Nat.zero_le _, rfl, hJ, F1, N1⟩ ?_
  rintro k s' ⟨i, m, ch, h, tk', io, ⟨io1, io2⟩, rfl, hi, rfl, hJ, F, N⟩
  have hIt := N (hp.objs.size, io) (List.mem_append.mpr (.inr (.head _)))
  have nc : ∀ p ∈ ch, p.1 ≠ hp.objs.size := fun p hq e => by
    have z := (N p (List.mem_append.mpr (.inl hq))).1
    have := hc _ _ _ hJ p hq
    rw [e, hIt.1] at z
    have z := Option.some.inj z
    exact this (by rw [← z]; exact io1)
  by_cases q : i < (KBw.bInts o).length
  · have hx' : o[i]? = some o[i] := by simp
    have hv : (KBw.bInts o)[i] = ((o[i]).toNat : Int) := by simp [KBw.bInts]
    refine KBw.next_item ⟨_, hIt.1, io1, io2⟩ hx' fun h' hit hs => ?_
    obtain ⟨o', ho', hc', hd'⟩ := hit
    have F2 := F.change hs hIt.2.1 hIt.2.2
    have N2 := news_set N nc nr hs ho'
    dsimp only
    refine wpAny_of_eq (a := ()) rfl ?_
    refine PyProof.Rows.assign_Name ?_
    rw [← hv]
    refine storeX_L (s := ⟨h', gn, dr, _, os⟩) F2 N2 (fun h3 F3 N3 => ?_) hk hx
    refine wpR_mono (turn i q _ o' m ch h3 _ _ hc' hJ F3 N3 lr) (fun f s₃ z => ?_) fun _ _ z => z
    cases f with
    | next =>
      obtain ⟨m', ch', h4, tk4, rfl, j, F4, N4⟩ := z
      exact ⟨_, by omega, i + 1, m', ch', h4, tk4, o', ⟨hc', hd'⟩, rfl, q, rfl, j, F4, N4⟩
    | ret v => exact z
    | cont => exact z
    | brk => exact z
  · obtain rfl : i = (KBw.bInts o).length := by omega
    refine KBw.next_end hh ⟨_, hIt.1, io1, io2⟩ (by simp [sz]) fun h' hs => ?_
    refine done m ch h' tk' hJ (fr_ext F hs hIt.2.1 hIt.2.2) fun p hq => ?_
    have z := N p (by
      rcases List.mem_append.mp hq with q | q
      · exact List.mem_append.mpr (.inl q)
      · exact List.mem_append.mpr (.inr (.tail _ q)))
    exact ⟨hs _ _ (by
      rcases List.mem_append.mp hq with q | q
      · exact nc _ q
      · exact nr _ q) z.1, z.2⟩
end
end
section -- Et
set_option maxRecDepth 100000
set_option maxHeartbeats 4000000
set_option linter.unusedVariables false
open Sem (wp)
section
variable {b : Bool} {prog : Program} {w : World} {A : Around} {E : Value → Shared → Prop} {s : Shared} {g : Heap} {L a : Addr} {m : PySem.Str → Option Value} {rest : List (Addr × Obj)} {env : Env}
theorem go_tupiter {elts : List Expr} {x1} {pos : Pos} {I t T : Addr} {i : Nat} {Q : Unit → Shared → Prop} (hit : IsTupIter s.heap I t i) (hQ : Q () s) :
    wpAny (model prog w) A (letOwnedTupleGo (.Tuple elts x1 pos) (.ref I) (.ref T)) Q E s := by
  obtain ⟨o, ho, hc, hd⟩ := hit
  unfold letOwnedTupleGo
  refine wpAny_bind (wpAny_load ho ?_)
  rw [hc, hd]
  show wpAny _ A (if (["enumerate", "zip", "dict_itemiterator", "dict_reverseitemiterator", "odict_iterator", "itertools.zip_longest", "itertools.pairwise"].contains "tuple_iterator" &&
    (#[Value.ref t, .int i 0] : Array Value)[0]? == some (rawInt T)) = true then _ else _) Q E s
  rw [if_neg (by simp)]
  exact wpAny_pure hQ
/- for a, b in t, t a tuple of tuples of the ledger; the frames below may turn. -/
theorem forTupT {elts : List Expr} {kk : Nat} {tpos : Pos} {body : List Stmt} {Q : Flow → Shared → Prop} {tA : Addr} {ts : List Addr} {tn : Nat} (J : Nat → Heap → (PySem.Str → Option Value) → Prop) (hh : A.handled = none)
    (F : Fr g L s.heap m) (N : News g L s.heap rest) (hm : (tA, ({ cls := .type "tuple", data := .seq (ts.map Value.ref).toArray tn } : Obj)) ∈ rest) (hJ : J 0 g m)
    (turn : ∀ i (hi : i < ts.length) it io g m h tk, J i g m → Fr g L h m → News g L h ((it, io) :: rest) → (∀ p ∈ rest, p.1 < it) →
      wpAny (model prog w) A (assign (.Tuple elts kk tpos) env (.ref ts[i])) (fun _ s₂ => wpM b (model prog w) A (execs body env) (fun f s₃ => match f with
        | .next => TurnH (J (i + 1)) L ((it, io) :: rest) s s₃
        | .ret v => Q (.ret v) s₃
        | _ => False) (fun _ _ => False) s₂) (fun _ _ => False) { s with heap := h, toks := tk })
    (done : ∀ g m h tk, J ts.length g m → Fr g L h m → News g L h rest → Q .next { s with heap := h, toks := tk }) :
    wpAny (model prog w) A (pyIter (.ref tA)) (fun it s₂ => wpM b (model prog w) A (runOwn (.forLoop (.Tuple elts kk tpos) it body [] env) env) Q E s₂) E s := by
  obtain ⟨hp, gn, dr, tk, os⟩ := s
  dsimp only at F N
  refine iter_tuple ⟨_, (N _ hm).1, rfl, _, rfl⟩ ?_
  dsimp only
  have lr : ∀ p ∈ rest, p.1 < hp.objs.size := fun p hq => Heap.lt_size (N p hq).1
  have nr : ∀ p ∈ rest, p.1 ≠ hp.objs.size := fun p hq => Nat.ne_of_lt (lr p hq)
  have F1 := F.push { cls := .type "tuple_iterator", data := .fields #[.ref tA, .int 0 0] }
  have N1 := N.push F { cls := .type "tuple_iterator", data := .fields #[.ref tA, .int 0 0] }
  refine forLoopM (fun k s' => ∃ i g m h tk' io, (io.cls = .type "tuple_iterator" ∧ io.data = .fields #[.ref tA, .int (i : Nat) 0]) ∧ k = ts.length - i ∧ i ≤ ts.length ∧ s' = ⟨h, gn, dr, tk', os⟩ ∧ J i g m ∧ Fr g L h m ∧ News g L h ((hp.objs.size, io) :: rest)) (ts.length - 0)
    ⟨0, g, m, _, _, _, ⟨rfl, rfl⟩, rfl, Nat.zero_le _, rfl, hJ, F1, N1⟩ ?_
  rintro k s' ⟨i, g, m, h, tk', io, ⟨io1, io2⟩, rfl, hi, rfl, hJ, F, N⟩
  have hIt := N (hp.objs.size, io) (.head _)
  have hT := N (tA, _) (.tail _ hm)
  by_cases q : i < ts.length
  · refine next_tuple_item ⟨_, hIt.1, io1, io2⟩ ⟨_, hT.1, rfl, _, rfl⟩ (x := .ref ts[i]) (by simp [q]) fun h' hit hs => ?_
    have hit0 := hit
    obtain ⟨o', ho', hc', hd'⟩ := hit
    have F2 := F.change hs hIt.2.1 hIt.2.2
    have N2 := news_set (pre := []) N (fun p hq => absurd hq List.not_mem_nil) nr hs ho'
    dsimp only
    refine go_tupiter hit0 ?_
    refine wpAny_mono (turn i q _ o' g m h' _ hJ F2 N2 lr) (fun _ s₂ z => ?_) fun _ _ z => z
    refine wpR_mono z (fun f s₃ z => ?_) fun _ _ z => z
    cases f with
    | next =>
      obtain ⟨g', m', h4, tk4, rfl, j, F4, N4⟩ := z
      exact ⟨_, by omega, i + 1, g', m', h4, tk4, o', ⟨hc', hd'⟩, rfl, q, rfl, j, F4, N4⟩
    | ret v => exact z
    | cont => exact z
    | brk => exact z
  · obtain rfl : i = ts.length := by omega
    refine next_tuple_end hh ⟨_, hIt.1, io1, io2⟩ ⟨_, hT.1, rfl, _, rfl⟩ (by simp) fun h' hs => ?_
    exact done g m h' tk' hJ (fr_ext F hs hIt.2.1 hIt.2.2) fun p hq => ⟨hs _ _ (nr p hq) (N p (.tail _ hq)).1, (N p (.tail _ hq)).2⟩
end
end
section -- Mt5
set_option linter.unusedVariables false
theorem writer_low {B : List Int} {held count : Int} (hB : ∀ k ∈ B, 0 ≤ k ∧ k < 256) (h0 : 0 ≤ held) (hh : held < 2 ^ count.toNat) (c0 : 0 ≤ count) (c8 : count < 8) :
    octsOf false (filled (bitsL B ++ rowL held count.toNat)) = B ++ (if count = 0 then [] else [held]) := by
  have e : bitsL B = bits false B := rfl
  have lB := bits_len false B
  by_cases q : count = 0
  · subst q
    rw [if_pos rfl, List.append_nil]
    show octsOf false (filled (bitsL B ++ [])) = B
    rw [List.append_nil, e, filled_whole (by omega), octs_bits hB]
  · rw [if_neg q]
    have p := lt256 (n := count.toNat) (by omega) hh
    unfold filled
    rw [List.length_append, rowL_length, e, lB, show ((-((8 * B.length + count.toNat : Nat) : Int)) % 8).toNat = (8 - count).toNat by omega, List.append_assoc, padL h0 hh, show count.toNat + (8 - count).toNat = 8 by omega]
    have z := octs_bits (hi := false) (ks := B ++ [held]) (fun k hk => by
      rcases List.mem_append.mp hk with hk | hk
      · exact hB k hk
      · rw [List.mem_singleton.mp hk]; exact ⟨h0, p⟩)
    rw [bits_snoc] at z
    exact z
theorem bInts_inj {a b : Array UInt8} (h : KBw.bInts a = KBw.bInts b) : a = b := by
  have z : a.toList = b.toList := by
    unfold KBw.bInts at h
    refine List.map_inj_right (f := fun c : UInt8 => (c.toNat : Int)) ?_ |>.mp h
    intro x y hxy
    have hxy' : x.toNat = y.toNat := Int.ofNat.inj hxy
    exact UInt8.toNat_inj.mp hxy'
  exact Array.toList_inj.mp z
theorem bits_rowL5 (v : Int) (n : Nat) : Bits (rowL v n) := fun b hb => by
  obtain ⟨i, _, rfl⟩ := List.mem_map.mp hb
  omega
theorem bits_rowH5 (v : Int) (n : Nat) : Bits (rowH v n) := fun b hb => bits_rowL5 v n b (List.mem_reverse.mp hb)
theorem bits_app {a b : List Int} (ha : Bits a) (hb : Bits b) : Bits (a ++ b) := fun x hx => (List.mem_append.mp hx).elim (ha x) (hb x)
theorem bits_bitsL (ks : List Int) : Bits (bitsL ks) := fun x hx => by
  obtain ⟨k, _, h⟩ := List.mem_flatMap.mp hx
  exact bits_rowL5 _ _ _ h
theorem bits_bitsH (ks : List Int) : Bits (bitsH ks) := fun x hx => by
  obtain ⟨k, _, h⟩ := List.mem_flatMap.mp hx
  exact bits_rowH5 _ _ _ h
theorem bits_drop (hi : Bool) : ∀ (ks : List Int) (n : Nat), (bits hi ks).drop (8 * n) = bits hi (ks.drop n)
  | ks, 0 => rfl
  | [], n + 1 => by simp [bits]
  | k :: r, n + 1 => by
    show (row hi k 8 ++ bits hi r).drop (8 * (n + 1)) = bits hi (r.drop n)
    rw [List.drop_append, row_length, List.drop_of_length_le (by rw [row_length]; omega), List.nil_append, show 8 * (n + 1) - 8 = 8 * n by omega, bits_drop hi r n]
end
section -- Om
set_option maxRecDepth 100000
set_option maxHeartbeats 8000000
set_option linter.unusedVariables false
section
variable {w : World} {p : Program} {loose : List PySem.Str} {mean : ExcName → Option Value} {mg mb : PySem.Str → Option Value}
  {dp un : Nat} {gd : Option (List Code)} {cn : PySem.Str} {cs : Scope} {a : Addr} {ccd : Value} {cl : List (PySem.Str × Addr)} {outer : List Env} {A₀ : Around} {base h₀ : Heap} {L : Addr} {m : PySem.Str → Option Value} {news : List (Addr × Obj)} {s : Shared} {Q E : Value → Shared → Prop}
theorem octets_m {l : Addr} {vs : List Value} {ns : List Int} {n : Nat} {hi : Bool} (B : Below A₀ base outer h₀) (F : Fr h₀ L s.heap m) (X : (Mine.hd.heap_39 w.params).In h₀) (N : News h₀ L s.heap news) (hm : (l, W.listOf vs.toArray n) ∈ news) (T : Top p loose mean mg mb h₀) (hk : cs.kind = .function)
    (hd : dp + 24 < recursionLimit) (hu : un + 600 < cLine) (hv : IntsAre vs ns) (hn : ns.length ≤ 4000) (hb : Bits ns)
    (ret : ∀ b t h' tk, KBw.bInts b = octsOf hi (filled ns) → Fr h₀ L h' m → News h₀ L h' news → Q (.bytes b t) { s with heap := h', toks := tk }) :
    wpAny (model Challenge.rw_nn0201_01.row.prog w) (ktrTop dp un gd cn cs L a ccd cl outer) (call (.ref 315) [.ref l, .bool hi]) Q E s :=
  octets_law_c B F X (cons_mem N hm) T hk hd hu hv hn hb fun b t h' tk e F' N' => ret b t h' tk e F' (uncons N')
end
end
local macro_rules | `(tactic| kmk_sum) => `(tactic| (rw [sizeLine_eq]; (try simp only [row_length]); omega))
section -- C21
set_option maxRecDepth 100000
set_option maxHeartbeats 8000000
set_option linter.unusedVariables false
set_option linter.unusedSimpArgs false

local macro_rules | `(tactic| walk_at "eval ListComp") => `(tactic| refine of_stop ?_)
local macro_rules | `(tactic| walk_at "pyIter bytes") => `(tactic| refine of_stop ?_)
local macro_rules | `(tactic| walk_at "call type:enumerate") => `(tactic| refine of_stop ?_)
inductive WJ_low (x dx bb L' : Addr) (h1 h2 h3 : Int) (k1 k2 k3 : Tok) (i : Nat) (vS : Option Value) (m : PySem.Str → Option Value) (ch : List (Addr × Obj)) : Prop
  | mk (b : Array UInt8) (held count : Int) (t2 t3 : Tok) (lr : Addr) (rs : List Value) (R : List Int) (nr : Nat) (oS oR : Obj) (vR : Option Value) (e : ch = [(x, instObj 233 dx), (dx, wrO h1 h2 h3 k1 k2 k3 t2 t3 bb held count), (bb, baObj b), (lr, W.listOf rs.toArray nr), (L' + 1, oS), (L' + 1 + 1, oR)]) (dS : oS.data = .cell vS) (dR : oR.data = .cell vR) (i1 : 0 ≤ held) (i2 : held < 2 ^ count.toNat) (i3 : 0 ≤ count) (i4 : count < 8) (i5 : 8 * (b.size : Int) + count = R.length) (i6 : bitsL (KBw.bInts b) ++ rowL held count.toNat = R) (i7 : IntsAre rs R) (i8 : R.length ≤ 40 * i) (w1 : m (PySem.Str.ofString "writer") = some (.ref x)) (w2 : m (PySem.Str.ofString "is_high") = some (.bool false)) (w3 : m (PySem.Str.ofString "row") = some (.ref lr)) : WJ_low x dx bb L' h1 h2 h3 k1 k2 k3 i vS m ch
inductive BJ_low (x : Addr) (ksf ko : List Int) (o : Array UInt8) (ot : Tok) (k : Nat) (m : PySem.Str → Option Value) (ch : List (Addr × Obj)) : Prop
  | mk (lr2 : Addr) (rs2 : List Value) (R2 : List Int) (nr2 : Nat) (e : ch = [(lr2, W.listOf rs2.toArray nr2)]) (j1 : IntsAre rs2 R2) (j2 : R2 = ksf ++ bitsL (ko.take k)) (j3 : R2.length ≤ 2000 + 8 * k) (j4 : m (PySem.Str.ofString "writer") = some (.ref x)) (j5 : m (PySem.Str.ofString "is_high") = some (.bool false)) (j6 : m (PySem.Str.ofString "row") = some (.ref lr2)) (j7 : m (PySem.Str.ofString "more") = some (.bytes o ot)) : BJ_low x ksf ko o ot k m ch
section
variable {w : World} {p : Program} {loose : List PySem.Str} {mean : ExcName → Option Value} {mg mb : PySem.Str → Option Value}
  {dp un : Nat} {gd : Option (List Code)} {cn : PySem.Str} {cs : Scope} {a : Addr} {ccd : Value} {cl : List (PySem.Str × Addr)} {outer : List Env} {A₀ : Around} {base h₀ : Heap} {L : Addr} {m : PySem.Str → Option Value} {rest : List (Addr × Obj)} {s : Shared} {Q E : Value → Shared → Prop}
  {h1 h2 h3 : Int} {k1 k2 k3 t2 t3 : Tok} {x dx bb l : Addr} {vs : List Value} {ns : List Int} {n : Nat}

theorem written_low {ti : Tok} (B : Below A₀ base outer h₀) (F : Fr h₀ L s.heap m) (X : (Mine.hd.heap_39 w.params).In h₀) (N : News h₀ L s.heap ((x, instObj 233 dx) :: (dx, wrO h1 h2 h3 k1 k2 k3 t2 t3 bb 0 0) :: (bb, baObj #[]) :: rest)) (T : Top p loose mean mg mb h₀) (hk : cs.kind = .function)
    (hd : dp + 40 < recursionLimit) (hu : un + 1000 < cLine) (XB : (Mine.hd.heap_39 w.params).In base) (TB : Top p loose mean mg mb base) (D : KtsDicts (outer.filterMap (·.frame)) h₀)
    (x1 : x ≠ dx) (x2 : x ≠ bb) (x3 : dx ≠ bb) (r1 : ∀ p ∈ rest, p.1 ≠ dx) (r2 : ∀ p ∈ rest, p.1 ≠ bb) (hm : (l, W.listOf vs.toArray n) ∈ rest) (hv : IntsAre vs ns) (hn : ns.length ≤ 25)
    (ret : ∀ h₀' lr rs R nr h' tk, KtsTurn (outer.filterMap (·.frame)) h₀ h₀' → IntsAre rs R → Bits R → R.length ≤ 1000 → Fr h₀' L h' m → News h₀' L h' ((lr, W.listOf rs.toArray nr) :: rest) → Below A₀ base outer h₀' → (Mine.hd.heap_39 w.params).In h₀' → Top p loose mean mg mb h₀' → KtsDicts (outer.filterMap (·.frame)) h₀' → Q (.ref lr) { s with heap := h', toks := tk }) :
    wpR (model Challenge.rw_nn0201_01.row.prog w) (ktrTop dp un gd cn cs L a ccd cl outer) (call (.ref 334) [.ref x, .ref l, .bool false]) Q E s := by
  refine wpR_call ?_
  k_dflt (refine' code_defTC (b := true) ?k1 ?k2 ?k3 ?k4 ?k5 ?XB ?TB ?D ?kA ?kF ?kK ?k6 ?k7 ?k8 ?k9 ?kB ?kD ?_ ?c2 ?c3 ?c4; (case kA => exact rfl); (case kF => exact rfl); (case kK => assumption); (case k1 => k_asm); (case k2 => k_asm); (case k3 => k_asm); (case k4 => k_asm); (case k5 => k_asm); (case XB => assumption); (case TB => assumption); (case D => assumption); (case k6 => k_is); (case k7 => k_is); (case k8 => ktr_room); (case k9 => first | exact BindsTo.of_eq rfl | exact binds_K (by k_in) rfl (by k_is) rfl rfl rfl | fail "k_enter: no rule for these arguments"); (case kB => exact rfl); (case kD => decide +kernel); (case c2 => exact rfl); (case c3 => exact rfl); (case c4 => exact rfl); k_whole; intro g' L' h' tk' cells' FG' F' N' Y' B' X' T' D' l1; (try k_lt l1); k_cells Y'; (try simp only [List.cons_append, List.nil_append] at N'); (try dsimp only); (try k_lift B'); (try k_fold))
  refine execsM_any (hideQ fun Q' hQ' => ?_)
  k_steps
  all_goals (try (refine hQ' _ _ ?_; clear hQ' Q'))
  dsimp only
  refine execsM_cons (ForM ?_)
  k_steps
  refine go_on ?_
  rename_i oR0 oS0 dR dS lr hA ltA hE FE NE
  have NE' : News g' L' hE ((x, instObj 233 dx) :: (dx, wrO h1 h2 h3 k1 k2 k3 t2 t3 bb 0 0) :: (bb, baObj #[]) :: (lr, W.listOf #[] 0) :: (L' + 1, oS0) :: (L' + 1 + 1, oR0) :: rest) :=
    fun p hp => NE p (by simp only [List.mem_cons] at hp ⊢; rcases hp with h | h | h | h | h | h | h <;> simp [h])
  have q0 : ∀ p ∈ rest, p.1 < L' := of_allLt l1.2.2.2
  clear NE
  refine' call_enum_N (vs := vs) (n := n) FE NE' ?hm fun e it io hE2 io0 hei nI nE FE2 NE2 => ?_
  case hm => exact .tail _ (.tail _ (.tail _ (.tail _ (.tail _ (.tail _ hm)))))
  dsimp only
  refine' forEnumM (vs := vs) (n := n) (e := e) (it := it) (io := io) (old := .none) (rest := rest) (ch := [(x, instObj 233 dx), (dx, wrO h1 h2 h3 k1 k2 k3 t2 t3 bb 0 0), (bb, baObj #[]), (lr, W.listOf #[] 0), (L' + 1, oS0), (L' + 1 + 1, oR0)])
    (fun i m ch => ∃ vS, WJ_low x dx bb L' h1 h2 h3 k1 k2 k3 i vS m ch) rfl FE2 ?N io0 hei ?hJ ?hl ?hc ?nr ?turn ?done
  case N => exact fun p hp => NE2 p (by simp only [List.mem_cons, List.mem_append, List.not_mem_nil, or_false] at hp ⊢; rcases hp with (h | h | h | h | h | h) | h | h | h <;> simp [h])
  case hJ => exact ⟨_, #[], 0, 0, t2, t3, lr, [], [], 0, oS0, oR0, _, rfl, dS, dR, by decide, by decide, by decide, by decide, by simp, rfl, .nil, by simp, rfl, rfl, rfl⟩
  case hl => exact fun i m ch _ => List.mem_append.mpr (.inr hm)
  case hc =>
    intro i m ch hWz p hp
    refine hideG fun Gz hGz => ?_
    obtain ⟨vS, b, held, count, t2, t3, lr, rs, R, nr, oS, oR, vR, rfl, _⟩ := hWz
    refine hGz ?_
    clear hGz Gz
    simp only [List.mem_cons, List.not_mem_nil, or_false] at hp
    rcases hp with rfl | rfl | rfl | rfl | rfl | rfl
    · exact .inl ⟨by intro e; simp at e, by intro e; simp at e⟩
    · exact .inl ⟨by intro e; simp [dictOf] at e, by intro e; simp [dictOf] at e⟩
    · exact .inl ⟨by intro e; simp [baObj] at e, by intro e; simp [baObj] at e⟩
    · exact .inl ⟨by intro e; simp [W.listOf] at e, by intro e; simp [W.listOf] at e⟩
    · exact .inr ⟨Nat.ne_of_lt (nE (L' + 1, oS0) (.tail _ (.tail _ (.tail _ (.tail _ (.head _)))))), Nat.ne_of_lt (nI (L' + 1, oS0) (.tail _ (.tail _ (.tail _ (.tail _ (.head _))))))⟩
    · exact .inr ⟨Nat.ne_of_lt (nE (L' + 1 + 1, oR0) (.tail _ (.tail _ (.tail _ (.tail _ (.tail _ (.head _))))))), Nat.ne_of_lt (nI (L' + 1 + 1, oR0) (.tail _ (.tail _ (.tail _ (.tail _ (.tail _ (.head _)))))))⟩
  case nr => exact fun p hp => ⟨Nat.ne_of_lt (nE p (by simp [hp])), Nat.ne_of_lt (nI p (by simp [hp]))⟩
  case turn =>
    intro i hi' io T t old m ch h tk io1 hWz F3 N3 lt3
    refine hideG fun Gz hGz => ?_
    obtain ⟨vS, b, held, count, t2, t3, lr, rs, R, nr, oS, oR, vR, rfl, dS, dR, i1, i2, i3, i4, i5, i6, i7, i8, w1, w2, w3⟩ := hWz
    refine hGz ?_
    clear hGz Gz
    refine hideG fun Gz hGz => ?_
    obtain ⟨qe, qe2, qi, qi2⟩ : L' + 1 < e ∧ L' + 1 + 1 < e ∧ L' + 1 < it ∧ L' + 1 + 1 < it := ⟨nE _ (.tail _ (.tail _ (.tail _ (.tail _ (.head _))))), nE _ (.tail _ (.tail _ (.tail _ (.tail _ (.tail _ (.head _)))))), nI _ (.tail _ (.tail _ (.tail _ (.tail _ (.head _))))), nI _ (.tail _ (.tail _ (.tail _ (.tail _ (.tail _ (.head _))))))⟩
    refine hGz ?_
    clear hGz Gz
    refine hideG fun Gz hGz => ?_
    obtain ⟨qxe, qxi, qde, qdi, qbe, qbi⟩ : x ≠ e ∧ x ≠ it ∧ dx ≠ e ∧ dx ≠ it ∧ bb ≠ e ∧ bb ≠ it := ⟨Nat.ne_of_lt (nE _ (.head _)), Nat.ne_of_lt (nI _ (.head _)), Nat.ne_of_lt (nE _ (.tail _ (.head _))), Nat.ne_of_lt (nI _ (.tail _ (.head _))), Nat.ne_of_lt (nE _ (.tail _ (.tail _ (.head _)))), Nat.ne_of_lt (nI _ (.tail _ (.tail _ (.head _))))⟩
    refine hGz ?_
    clear hGz Gz
    have qs : ∀ p ∈ rest, p.1 ≠ L' + 1 := fun p hp => Nat.ne_of_lt (Nat.lt_succ_of_lt (q0 p hp))
    have qr : ∀ p ∈ rest, p.1 ≠ L' + 1 + 1 := fun p hp => Nat.ne_of_lt (Nat.lt_succ_of_lt (Nat.lt_succ_of_lt (q0 p hp)))
    refine hideG fun Gz hGz => ?_
    obtain ⟨l1a, l1b, l1c, _⟩ := l1
    refine hGz ?_
    clear hGz Gz
    clear hm nE nI NE2 FE2 FE NE' q0
    have N4 : News g' L' h ((T, tupO #[.int (i : Int) t, vs[i]]) :: (x, instObj 233 dx) :: (dx, wrO h1 h2 h3 k1 k2 k3 t2 t3 bb held count) :: (bb, baObj b) :: (lr, W.listOf rs.toArray nr) :: (L' + 1, oS) :: (L' + 1 + 1, oR) :: (e, enO it ((i : Int) + 1) old) :: (it, io) :: rest) := N3
    clear N3
    have nld : lr ≠ dx := ne_obj N4 (by k_mem) (by k_mem) (fun e => by have z := congrArg Obj.cls e; simp [W.listOf, dictOf] at z)
    have nlb : lr ≠ bb := ne_obj N4 (by k_mem) (by k_mem) (fun e => by have z := congrArg Obj.cls e; simp [W.listOf, baObj] at z)
    have nls : lr ≠ L' + 1 := ne_obj N4 (by k_mem) (by k_mem) (fun e => by rw [← e] at dS; cases dS)
    have nlr : lr ≠ L' + 1 + 1 := ne_obj N4 (by k_mem) (by k_mem) (fun e => by rw [← e] at dR; cases dR)
    have lt4 : ∀ p ∈ (x, instObj 233 dx) :: (dx, wrO h1 h2 h3 k1 k2 k3 t2 t3 bb held count) :: (bb, baObj b) :: (lr, W.listOf rs.toArray nr) :: (L' + 1, oS) :: (L' + 1 + 1, oR) :: (e, enO it ((i : Int) + 1) old) :: (it, io) :: rest, p.1 < T := lt3
    have qT1 : L' + 1 < T := lt4 _ (.tail _ (.tail _ (.tail _ (.tail _ (.head _)))))
    have qT2 : L' + 1 + 1 < T := lt4 _ (.tail _ (.tail _ (.tail _ (.tail _ (.tail _ (.head _))))))
    clear lt4
    clear lt3
    have hj : i < ns.length := by rw [← hv.length]; exact hi'
    obtain ⟨tb, eb⟩ := intsAre_get hv i hi' hj
    rw [eb] at N4
    clear eb
    generalize ns[i] = c at N4
    have hi25 : i < 25 := by omega
    have F4 := fr_k3 F3 w3 w1 w2
    clear F3 w1 w2 w3
    k_steps
    rename_i _ _ oS' dS' hF FF NF
    have NF5 : News g' L' hF ((x, instObj 233 dx) :: (dx, wrO h1 h2 h3 k1 k2 k3 t2 t3 bb held count) :: (bb, baObj b) :: (lr, W.listOf rs.toArray nr) :: (L' + 1, oS') :: (L' + 1 + 1, oR) :: (e, enO it ((i : Int) + 1) old) :: (it, io) :: rest) := fun p hp => NF p (.tail _ hp)
    clear NF
    refine execsM_any (hideQ fun Q' hQ' => ?_)
    k_steps
    all_goals (try (refine hQ' _ _ ?_; clear hQ' Q'))
    dsimp only
    refine execsM_any (hideQ fun Q' hQ' => ?_)
    k_steps
    all_goals (try (refine hQ' _ _ ?_; clear hQ' Q'))
    dsimp only
    rename_i uX tkX hG oR' FG NG dR'

    refine hideG fun Gz hGz => ?_
    obtain ⟨rr, tr, er, hrr, dR2⟩ : ∃ (rr : Int) (tr : Tok), rr = (if c < 0 then -c else c).fdiv 8 ∧ 0 ≤ rr ∧ oR'.data = .cell (some (.int rr tr)) := ⟨_, _, rfl, by split <;> (rw [Int.fdiv_eq_ediv_of_nonneg _ (by decide)]; omega), dR'⟩
    refine hGz ?_
    clear hGz Gz
    refine hideG fun Gz hGz => ?_
    obtain ⟨m2, tw, F2, w1, w2, w3, w4⟩ : ∃ m2 tw, Fr g' L' hG m2 ∧ m2 (PySem.Str.ofString "writer") = some (.ref x) ∧ m2 (PySem.Str.ofString "is_high") = some (.bool false) ∧ m2 (PySem.Str.ofString "row") = some (.ref lr) ∧ m2 (PySem.Str.ofString "way") = some (.int (c.fmod 8) tw) := ⟨_, _, FG, rfl, rfl, rfl, rfl⟩
    refine hGz ?_
    clear hGz Gz
    clear FG dR' er
    have F5 := fr_k4 F2 w3 w1 w2 w4
    clear F2
    have rdx : ∀ lo : Addr × Obj, lo.1 ≠ dx → ∀ p ∈ lo :: (L' + 1, oS') :: (L' + 1 + 1, oR') :: (e, enO it ((i : Int) + 1) old) :: (it, io) :: rest, p.1 ≠ dx := fun lo hlo p hp => by
      simp only [List.mem_cons] at hp
      rcases hp with rfl | rfl | rfl | rfl | rfl | hp
      · exact hlo
      · exact Nat.ne_of_gt (Nat.lt_succ_of_lt l1b)
      · exact Nat.ne_of_gt (Nat.lt_succ_of_lt (Nat.lt_succ_of_lt l1b))
      · exact qde.symm
      · exact qdi.symm
      · exact r1 p hp
    have rbx : ∀ lo : Addr × Obj, lo.1 ≠ bb → ∀ p ∈ lo :: (L' + 1, oS') :: (L' + 1 + 1, oR') :: (e, enO it ((i : Int) + 1) old) :: (it, io) :: rest, p.1 ≠ bb := fun lo hlo p hp => by
      simp only [List.mem_cons] at hp
      rcases hp with rfl | rfl | rfl | rfl | rfl | hp
      · exact hlo
      · exact Nat.ne_of_gt (Nat.lt_succ_of_lt l1c)
      · exact Nat.ne_of_gt (Nat.lt_succ_of_lt (Nat.lt_succ_of_lt l1c))
      · exact qbe.symm
      · exact qbi.symm
      · exact r2 p hp
    have rd := rdx (lr, W.listOf rs.toArray nr) nld
    have rb := rbx (lr, W.listOf rs.toArray nr) nlb
    have bz : b.size ≤ 100000 := by first | exact n_bz i3 i5 i8 (Nat.le_of_lt hi25) | exact n_bz i3 i5 i8 hi25 | exact n_bz i3 i5 i8 (hvl ▸ hn) | omega
    refine execsM_cons (wpR_mono (Q := WPost (WJ_low x dx bb L' h1 h2 h3 k1 k2 k3 (i + 1) (some (.int (i : Int) t))) g' L' ((e, enO it ((i : Int) + 1) old) :: (it, io) :: rest) s) (IfM ?mid) (fun f s₃ hmid => ?tail) fun _ _ x => x)
    case tail =>
      refine hideG fun Gz hGz => ?_
      obtain ⟨rfl, m, ch, hM, tk3, rfl, FM, NM, b, held, count, t2, t3, lr, rs, R, nr, oS2, oR2, vR2, rfl, dS2, dR3, i1, i2, i3, i4, i5, i6, i7, i8, w1, w2, w3⟩ := hmid
      refine hGz ?_
      clear hGz Gz
      dsimp only
      have F6 := fr_k3 FM w3 w1 w2
      clear FM w1 w2 w3 dR2 dS' rd rb bz rdx rbx NG F5
      have N6 : News g' L' hM ((x, instObj 233 dx) :: (dx, wrO h1 h2 h3 k1 k2 k3 t2 t3 bb held count) :: (bb, baObj b) :: (lr, W.listOf rs.toArray nr) :: (L' + 1, oS2) :: (L' + 1 + 1, oR2) :: (e, enO it ((i : Int) + 1) old) :: (it, io) :: rest) := NM
      clear NM
      have nld : lr ≠ dx := ne_obj N6 (by k_mem) (by k_mem) (fun e => by have z := congrArg Obj.cls e; simp [W.listOf, dictOf] at z)
      have nlb : lr ≠ bb := ne_obj N6 (by k_mem) (by k_mem) (fun e => by have z := congrArg Obj.cls e; simp [W.listOf, baObj] at z)
      have rd : ∀ p ∈ (lr, W.listOf rs.toArray nr) :: (L' + 1, oS2) :: (L' + 1 + 1, oR2) :: (e, enO it ((i : Int) + 1) old) :: (it, io) :: rest, p.1 ≠ dx := fun p hp => by
        simp only [List.mem_cons] at hp
        rcases hp with rfl | rfl | rfl | rfl | rfl | hp
        · exact nld
        · exact Nat.ne_of_gt (Nat.lt_succ_of_lt l1b)
        · exact Nat.ne_of_gt (Nat.lt_succ_of_lt (Nat.lt_succ_of_lt l1b))
        · exact qde.symm
        · exact qdi.symm
        · exact r1 p hp
      have rb : ∀ p ∈ (lr, W.listOf rs.toArray nr) :: (L' + 1, oS2) :: (L' + 1 + 1, oR2) :: (e, enO it ((i : Int) + 1) old) :: (it, io) :: rest, p.1 ≠ bb := fun p hp => by
        simp only [List.mem_cons] at hp
        rcases hp with rfl | rfl | rfl | rfl | rfl | hp
        · exact nlb
        · exact Nat.ne_of_gt (Nat.lt_succ_of_lt l1c)
        · exact Nat.ne_of_gt (Nat.lt_succ_of_lt (Nat.lt_succ_of_lt l1c))
        · exact qbe.symm
        · exact qbi.symm
        · exact r2 p hp
      have bz : b.size ≤ 100000 := by first | exact n_bz i3 i5 i8 (Nat.le_of_lt hi25) | exact n_bz i3 i5 i8 hi25 | exact n_bz i3 i5 i8 (hvl ▸ hn) | omega
      have hbR : Bits R := i6 ▸ bits_app (bits_bitsL _) (bits_rowL5 _ _)
      have hw : octsOf false (filled R) = KBw.bInts b ++ (if count = 0 then [] else [held]) := i6 ▸ writer_low (B := KBw.bInts b) (fun k hk => KBw.ints_in hk) i1 i2 i3 i4
      refine execsM_cons (wpR_mono (Q := NextAt (fun hM => Fr g' L' hM (fun y => if y = PySem.Str.ofString "row" then some (.ref lr) else if y = PySem.Str.ofString "writer" then some (.ref x) else if y = PySem.Str.ofString "is_high" then some (.bool false) else m y) ∧ News g' L' hM ((x, instObj 233 dx) :: (dx, wrO h1 h2 h3 k1 k2 k3 t2 t3 bb held count) :: (bb, baObj b) :: (lr, W.listOf rs.toArray nr) :: (L' + 1, oS2) :: (L' + 1 + 1, oR2) :: (e, enO it ((i : Int) + 1) old) :: (it, io) :: rest)) s) (wpR_any ?st1) (fun f s₃ hq => ?st2) fun _ _ x => x)
      case st1 =>
        (k_steps <;> repeat' ((with_reducible refine go_on ?_); (first | (with_reducible (k_here; k_dflt (refine' octets_m ?B ?F ?X ?N ?hm ?T ?hk ?hd ?hu ?hv ?hn ?hb ?_; (case B => k_asm); (case F => k_asm); (case X => k_asm); (case N => k_asm); (case T => k_asm); (case hk => first | assumption | exact rfl); (case hd => first | exact n_up (by assumption) (by decide) | ktr_room); (case hu => first | exact n_up (by assumption) (by decide) | ktr_units); (case hm => k_mem); (case hv => assumption); (case hn => omega); (case hb => assumption); k_whole); intro oM tM hM2 tkM eM FM2 NM2; (try dsimp only))) | (with_reducible (k_here; k_dflt (refine' octs_low ?B ?F ?X ?N ?T ?hk ?hd ?hu x1 x2 x3 rd rb bz i1 i2 i3 i4 ?_; (case B => k_asm); (case F => k_asm); (case X => k_asm); (case N => k_asm); (case T => k_asm); (case hk => first | assumption | exact rfl); (case hd => first | exact n_up (by assumption) (by decide) | ktr_room); (case hu => first | exact n_up (by assumption) (by decide) | ktr_units); k_whole); intro oO tO hO tkO eO FO NO; (try dsimp only))) | fail); k_steps))
        · rename_i hne
          obtain rfl : oO = oM := bInts_inj (eO.trans (eM.trans hw).symm)
          simp at hne
        · exact nextAt_ ⟨by k_asm, by k_asm⟩
        · exact nextAt_ ⟨by k_asm, by k_asm⟩
      case st2 =>
        refine hideG fun Gz hGz => ?_
        obtain ⟨rfl, hM3, tk4, rfl, F7, N7⟩ := hq
        refine hGz ?_
        clear hGz Gz
        clear F6 N6
        dsimp only
        refine execsM_any (hideQ fun Q' hQ' => ?_)
        (k_steps <;> repeat' ((with_reducible refine go_on ?_); (first | (with_reducible (k_here; k_dflt (refine' bit_count_c ?B ?F ?X ?N ?T ?hk ?hd ?hu x1 x2 x3 rd rb bz i1 i2 i3 i4 ?_; (case B => k_asm); (case F => k_asm); (case X => k_asm); (case N => k_asm); (case T => k_asm); (case hk => first | assumption | exact rfl); (case hd => first | exact n_up (by assumption) (by decide) | ktr_room); (case hu => first | exact n_up (by assumption) (by decide) | ktr_units); k_whole); intro tC hC tkC FC NC; (try dsimp only))) | fail); k_steps))
        all_goals (try (refine hQ' _ _ ?_; clear hQ' Q'))
        · exact absurd i5 (by assumption)
        dsimp only
        refine execsM_nil ?_
        exact ⟨_, [(x, instObj 233 dx), (dx, wrO h1 h2 h3 k1 k2 k3 t2 t3 bb held count), (bb, baObj b), (lr, W.listOf rs.toArray nr), (L' + 1, oS2), (L' + 1 + 1, oR2)], _, _, rfl, ⟨_, b, held, count, t2, t3, lr, rs, R, nr, oS2, oR2, vR2, rfl, dS2, dR3, i1, i2, i3, i4, i5, i6, i7, i8, rfl, rfl, rfl⟩, by k_asm, by k_asm⟩
    case mid =>
      k_steps
      · refine execsM_cons (ExprM (MethodM ?_))
        k_steps
        refine callWithM_of (P := (Mine.hd.heap_39 w.params).In) rfl (keeps_K (by k_is)) (evalArgsM_nil ?_)
        refine ⟨X'.keeps F5.keep, ?_⟩
        show wpM true _ _ (call (.ref 209) [.ref x]) _ _ _
        k_dflt (refine' align_low ?B ?F ?X ?N ?T ?hk ?hd ?hu x1 x2 x3 rd rb ?bz i1 i2 i3 i4 ?_; (case B => k_asm); (case F => k_asm); (case X => k_asm); (case N => k_asm); (case T => k_asm); (case hk => first | assumption | exact rfl); (case hd => first | exact n_up (by assumption) (by decide) | ktr_room); (case hu => first | exact n_up (by assumption) (by decide) | ktr_units); (case bz => exact bz); k_whole)
        intro b2 t2' t3' hP tkP p5 p6 FP NP
        refine ⟨rfl, ?_⟩
        dsimp only
        refine execsM_any (hideQ fun Q' hQ' => ?_)
        (k_steps <;> repeat' ((with_reducible refine go_on ?_); (first | (with_reducible (k_here; k_dflt (refine' filled_m ?B ?F ?X ?N ?hm ?T ?hk ?hd ?hu ?hv ?hn ?_; (case B => k_asm); (case F => k_asm); (case X => k_asm); (case N => k_asm); (case T => k_asm); (case hk => first | assumption | exact rfl); (case hd => first | exact n_up (by assumption) (by decide) | ktr_room); (case hu => first | exact n_up (by assumption) (by decide) | ktr_units); (case hm => k_mem); (case hv => assumption); (case hn => omega); k_whole); intro lf vf nf ksf hFl tkFl kf1 kf2 kf3 kf4 kf5 FFl NFl; (try dsimp only))) | fail); k_steps))
        all_goals (try (refine hQ' _ _ ?_; clear hQ' Q'))
        dsimp only
        refine execsM_nil ?_
        rename_i hW2 FD ND
        refine ⟨rfl, _, [(x, instObj 233 dx), (dx, wrO h1 h2 h3 k1 k2 k3 t2' t3' bb 0 0), (bb, baObj b2), (lf, W.listOf vf.toArray nf), (L' + 1, oS'), (L' + 1 + 1, oR')], _, _, rfl, FD, ?N, b2, 0, 0, t2', t3', lf, vf, ksf, nf, oS', oR', _, rfl, dS', dR2, by decide, by decide, by decide, by decide, ?len, ?eq, kf2, ?le, rfl, rfl, rfl⟩
        case N => exact pickN ND (by k_mem) (pickN ND (by k_mem) (pickN ND (by k_mem) (pickN ND (by k_mem) (pickN ND (by k_mem) (pickN ND (by k_mem) (fun p hp => ND p (.tail _ (.tail _ (.tail _ (.tail _ (.tail _ (.tail _ (.tail _ hp))))))))))))) 
        case len => rw [kf1, List.length_append, List.length_replicate]; first | exact n_pad i5 p5 | omega
        case eq =>
          rw [kf1, p6, i6, rowL_zero, show (-count % 8).toNat = (-(R.length : Int) % 8).toNat from congrArg Int.toNat (n_neg i5)]
          exact List.append_nil _
        case le => omega
      · refine execsM_cons (IfM ?_)
        k_steps
        · refine execsM_any ?_
          k_steps
          refine go_on ?_
          k_dflt (refine ListComp_step (F₀ := by k_asm) (by with_unfolding_all rfl) (by decide) (by rfl) (by decide) (by rfl) ?_)
          k_steps
          rename_i hR tR1 tR2 tR3 tR4 iR FR NR kR
          refine hideG fun Gz hGz => ?_
          obtain ⟨nn, hnn, hn3⟩ : ∃ nn : Nat, rr.fmod 4 = (nn : Int) ∧ nn ≤ 3 := by
            have z0 := Int.fmod_nonneg_of_pos rr (by decide : (0 : Int) < 4)
            have z1 := Int.fmod_lt_of_pos rr (by decide : (0 : Int) < 4)
            exact ⟨(rr.fmod 4).toNat, by omega, by omega⟩
          refine hGz ?_
          clear hGz Gz
          rw [hnn] at iR
          have hsz : Builtin.Range.rangeSize 0 (nn : Int) 1 = ((nn : Nat) : Int) := by rw [rangeSize_nat]; omega
          refine StepSrc.mk nn rfl (by k_asm) (by k_asm) (by with_reducible assumption) (small_one (by decide) (by decide) (by omega) (by omega)) hsz (by rw [sizeLine_eq]; omega) fun g => ?_
          refine compRest_fold (fun i2 => (rr + 37 * (i2 : Int) + (i : Int)).fmod 256) (fun i2 hi2 ys v I oI C oC Dl m₂ h tk E' hP hC hx F N off ne => ?_) trivial fun ys hys => ?_
          · obtain ⟨tv, rfl⟩ := hP
            k_steps
            refine EltEnd.of (by rw [show (0 : Int) + (i2 : Int) * 1 = (i2 : Int) by omega]) (by k_asm) (by k_asm)
          · intro Dl hD tkD FD ND offD
            k_steps
            have hin : KBa.In ((List.range nn).map fun i2 : Nat => (rr + 37 * (i2 : Int) + (i : Int)).fmod 256) := fun k hk => by
              refine hideG fun Gz hGz => ?_
              obtain ⟨i2, _, rfl⟩ := List.mem_map.mp hk
              refine hGz ?_
              clear hGz Gz
              exact ⟨Int.fmod_nonneg_of_pos _ (by decide), Int.fmod_lt_of_pos _ (by decide)⟩
            refine KBa.make_K (by k_asm) (by k_asm) rfl ⟨_, (ND (Dl, LCg.lst ys) (.head _)).1, rfl, _, rfl⟩ hys hin (by rw [List.length_map, List.length_range]; omega) fun hB tB kB FB NB _ => ?_
            k_steps
            dsimp only
            rename_i _ hX FX NX
            refine hideG fun Gz hGz => ?_
            obtain ⟨m3, o, ot, ko, F6, y1, y2, y3, y4, eo, ko3, kin⟩ : ∃ (m3 : PySem.Str → Option Value) (o : Array UInt8) (ot : Tok) (ko : List Int), Fr g' L' hX m3 ∧ m3 (PySem.Str.ofString "writer") = some (.ref x) ∧ m3 (PySem.Str.ofString "is_high") = some (.bool false) ∧ m3 (PySem.Str.ofString "row") = some (.ref lr) ∧ m3 (PySem.Str.ofString "more") = some (.bytes o ot) ∧ KBw.bInts o = ko ∧ ko.length ≤ 3 ∧ (∀ k ∈ ko, 0 ≤ k ∧ k < 256) :=
              ⟨_, _, _, _, FX, rfl, rfl, rfl, rfl, KBa.ints_make hin, by rw [List.length_map, List.length_range]; exact hn3, hin⟩
            refine hGz ?_
            clear hGz Gz
            clear FX hin hys offD
            have F7 := fr_k4 F6 y3 y1 y2 y4
            clear F6
            have NX' := uncons NX
            clear NX
            refine execsM_any (hideQ fun Q' hQ' => ?_)
            (k_steps <;> repeat' ((with_reducible refine go_on ?_); (first | (with_reducible (k_here; k_dflt (refine' filled_m ?B ?F ?X ?N ?hm ?T ?hk ?hd ?hu ?hv ?hn ?_; (case B => k_asm); (case F => k_asm); (case X => k_asm); (case N => k_asm); (case T => k_asm); (case hk => first | assumption | exact rfl); (case hd => first | exact n_up (by assumption) (by decide) | ktr_room); (case hu => first | exact n_up (by assumption) (by decide) | ktr_units); (case hm => k_mem); (case hv => assumption); (case hn => omega); k_whole); intro lf vf nf ksf hFl tkFl kf1 kf2 kf3 kf4 kf5 FFl NFl; (try dsimp only))) | fail); k_steps))
            all_goals (try (refine hQ' _ _ ?_; clear hQ' Q'))
            dsimp only
            rename_i hX2 F8 N8
            refine hideG fun Gz hGz => ?_
            obtain ⟨m4, F9, z1, z2, z3, z4⟩ : ∃ (m4 : PySem.Str → Option Value), Fr g' L' hX2 m4 ∧ m4 (PySem.Str.ofString "writer") = some (.ref x) ∧ m4 (PySem.Str.ofString "is_high") = some (.bool false) ∧ m4 (PySem.Str.ofString "row") = some (.ref lf) ∧ m4 (PySem.Str.ofString "more") = some (.bytes o ot) := ⟨_, F8, rfl, rfl, rfl, rfl⟩
            refine hGz ?_
            clear hGz Gz
            clear F8
            have F10 := fr_k4 F9 z3 z1 z2 z4
            clear F9
            have N10 : News g' L' hX2 ((lf, W.listOf vf.toArray nf) :: (x, instObj 233 dx) :: (dx, wrO h1 h2 h3 k1 k2 k3 t2 t3 bb held count) :: (bb, baObj b) :: (L' + 1, oS') :: (L' + 1 + 1, oR') :: (e, enO it ((i : Int) + 1) old) :: (it, io) :: rest) :=
              pickN N8 (by k_mem) (pickN N8 (by k_mem) (pickN N8 (by k_mem) (pickN N8 (by k_mem) (fun p hp => N8 p (.tail _ (.tail _ (.tail _ (.tail _ (.tail _ hp)))))))))
            clear N8
            refine execsM_cons (ForM ?_)
            k_steps
            refine go_on ?_
            refine' forBytesM (ch := [(lf, W.listOf vf.toArray nf)]) (rest := (x, instObj 233 dx) :: (dx, wrO h1 h2 h3 k1 k2 k3 t2 t3 bb held count) :: (bb, baObj b) :: (L' + 1, oS') :: (L' + 1 + 1, oR') :: (e, enO it ((i : Int) + 1) old) :: (it, io) :: rest)
              (BJ_low x ksf ko o ot) rfl ?FB ?NB ?hJB ?hcB ?turnB ?doneB
            case FB => k_asm
            case NB => k_asm
            case hJB => exact ⟨lf, vf, ksf, nf, rfl, kf2, (List.append_nil _).symm, by omega, rfl, rfl, rfl, rfl⟩
            case hcB =>
              intro k m ch hWz p hp
              refine hideG fun Gz hGz => ?_
              obtain ⟨lr2, rs2, R2, nr2, rfl, _⟩ := hWz
              refine hGz ?_
              clear hGz Gz
              rw [List.mem_singleton.mp hp]
              intro e; simp [W.listOf] at e
            case turnB =>
              intro k hk itb iob m ch h tk tb ioc hWz F11 N11 lt11
              refine hideG fun Gz hGz => ?_
              obtain ⟨lr2, rs2, R2, nr2, rfl, j1, j2, j3, j4, j5, j6, j7⟩ := hWz
              refine hGz ?_
              clear hGz Gz
              have hk' : k < ko.length := eo ▸ hk
              have ek : (KBw.bInts o)[k] = ko[k] := by simp only [eo]
              rw [ek] at F11
              obtain ⟨kv, ekv⟩ : ∃ kv, ko[k] = kv := ⟨_, rfl⟩
              have hkv := kin _ (List.getElem_mem hk')
              rw [ekv] at F11 hkv
              refine hideG fun Gz hGz => ?_
              obtain ⟨m5, F12, w1, w2, w3, w4⟩ : ∃ (m5 : PySem.Str → Option Value), Fr g' L' h m5 ∧ m5 (PySem.Str.ofString "writer") = some (.ref x) ∧ m5 (PySem.Str.ofString "is_high") = some (.bool false) ∧ m5 (PySem.Str.ofString "row") = some (.ref lr2) ∧ m5 (PySem.Str.ofString "more") = some (.bytes o ot) ∧ m5 (PySem.Str.ofString "octet") = some (.int kv tb) := ⟨_, F11, j4, j5, j6, j7, rfl⟩
              refine hGz ?_
              clear hGz Gz
              obtain ⟨w4, w5⟩ := w4
              have F13 := fr_k5 F12 w3 w1 w2 w4 w5
              clear F11 F12
              have N13 : News g' L' h ((lr2, W.listOf rs2.toArray nr2) :: (itb, iob) :: (x, instObj 233 dx) :: (dx, wrO h1 h2 h3 k1 k2 k3 t2 t3 bb held count) :: (bb, baObj b) :: (L' + 1, oS') :: (L' + 1 + 1, oR') :: (e, enO it ((i : Int) + 1) old) :: (it, io) :: rest) := N11
              clear N11
              refine execsM_any (hideQ fun Q' hQ' => ?_)
              (k_steps <;> repeat' ((with_reducible refine go_on ?_); (first | (with_reducible (k_here; k_dflt (refine' row_c ?B ?F ?X ?N ?T ?hk ?hd ?hu ?c0 ?c1 ?_; (case B => k_asm); (case F => k_asm); (case X => k_asm); (case N => k_asm); (case T => k_asm); (case hk => first | assumption | exact rfl); (case hd => first | exact n_up (by assumption) (by decide) | ktr_room); (case hu => first | exact n_up (by assumption) (by decide) | ktr_units); (case c0 => omega); (case c1 => omega); k_whole); intro lw vw nw hW tkW rw_ FW NW; (try dsimp only))) | fail); k_steps))
              all_goals (try (refine hQ' _ _ ?_; clear hQ' Q'))
              dsimp only
              refine execsM_nil ?_
              rename_i Dw wsw hW1 hID lD hW2 FD ND
              refine ⟨_, [(Dw, W.listOf wsw.toArray 0)], _, _, rfl, ⟨Dw, wsw, R2 ++ row false kv (8 : Int).toNat, 0, rfl, hID, ?eB, ?lB, rfl, rfl, rfl, rfl⟩, FD, ?NT⟩
              case NT => exact pickN ND (by k_mem) (fun p hp => ND p (.tail _ (.tail _ (.tail _ hp))))
              case lB =>
                rw [List.length_append, row_length]
                have : (8 : Int).toNat = 8 := rfl
                omega
              case eB =>
                rw [j2, List.take_succ_eq_append_getElem hk', bitsL_append, ekv, List.append_assoc]
                simp [bitsL, row]
            case doneB =>
              intro m ch h tk hWz F11 N11
              refine hideG fun Gz hGz => ?_
              obtain ⟨lr2, rs2, R2, nr2, rfl, j1, j2, j3, j4, j5, j6, j7⟩ := hWz
              refine hGz ?_
              clear hGz Gz
              rw [eo, List.take_length] at j2
              have F12 := fr_k4 F11 j6 j4 j5 j7
              clear F11
              have N12 : News g' L' h ((x, instObj 233 dx) :: (dx, wrO h1 h2 h3 k1 k2 k3 t2 t3 bb held count) :: (bb, baObj b) :: (lr2, W.listOf rs2.toArray nr2) :: (L' + 1, oS') :: (L' + 1 + 1, oR') :: (e, enO it ((i : Int) + 1) old) :: (it, io) :: rest) :=
                pickN N11 (by simp) (pickN N11 (by simp) (pickN N11 (by simp) (pickN N11 (by simp) (fun p hp => N11 p (.tail _ (.tail _ (.tail _ (.tail _ hp))))))))
              clear N11
              dsimp only
              refine execsM_cons (IfM ?_)
              k_steps
              have n2d : lr2 ≠ dx := ne_obj N12 (by k_mem) (by k_mem) (fun e => by have z := congrArg Obj.cls e; simp [W.listOf, dictOf] at z)
              have n2b : lr2 ≠ bb := ne_obj N12 (by k_mem) (by k_mem) (fun e => by have z := congrArg Obj.cls e; simp [W.listOf, baObj] at z)
              have rd2 := rdx (lr2, W.listOf rs2.toArray nr2) n2d
              have rb2 := rbx (lr2, W.listOf rs2.toArray nr2) n2b
              have osz : o.size = ko.length := by rw [← eo, KBw.ints_length]
              refine execsM_cons (ExprM (MethodM ?_))
              k_steps
              refine callWithM_of (P := (Mine.hd.heap_39 w.params).In) rfl (keeps_K (by k_is)) ?_
              refine evalArgsM_plain (splicedM_cons (wpR_any ?_))
              rw [if_neg Bool.false_ne_true]
              k_steps
              refine wpR_pure ?_
              refine ⟨X'.keeps F12.keep, ?_⟩
              show wpM true _ _ (call (.ref 216) [.ref x, .bytes o ot]) _ _ _
              k_dflt (refine' put_octets_low ?B ?F ?X ?N ?T ?hk ?hd ?hu x1 x2 x3 rd2 rb2 ?bz i1 i2 i3 i4 ?oz ?_; (case B => k_asm); (case F => k_asm); (case X => k_asm); (case N => k_asm); (case T => k_asm); (case hk => first | assumption | exact rfl); (case hd => first | exact n_up (by assumption) (by decide) | ktr_room); (case hu => first | exact n_up (by assumption) (by decide) | ktr_units); (case bz => exact bz); (case oz => omega); k_whole)
              intro b2 t2' t3' hP tkP p5 p6 FP NP
              refine ⟨rfl, ?_⟩
              dsimp only
              refine execsM_nil ?_
              dsimp only
              refine execsM_nil ?_
              dsimp only
              refine execsM_nil ?_
              refine ⟨rfl, _, [(x, instObj 233 dx), (dx, wrO h1 h2 h3 k1 k2 k3 t2' t3' bb 0 0), (bb, baObj b2), (lr2, W.listOf rs2.toArray nr2), (L' + 1, oS'), (L' + 1 + 1, oR')], _, _, rfl, FP, NP, b2, 0, 0, t2', t3', lr2, rs2, R2, nr2, oS', oR', _, rfl, dS', dR2, by decide, by decide, by decide, by decide, ?lenO, ?eqO, j1, ?leO, rfl, rfl, rfl⟩
              case lenO =>
                have lb : (bitsL ko).length = 8 * ko.length := bits_len false ko
                rw [j2, List.length_append, lb, kf1, List.length_append, List.length_replicate]; first | exact n_pad8 i5 osz p5 | omega
              case eqO =>
                rw [j2, kf1, p6, i6, rowL_zero, eo, show (-count % 8).toNat = (-(R.length : Int) % 8).toNat from congrArg Int.toNat (n_neg i5)]
                exact List.append_nil _
              case leO =>
                have lb : (bitsL ko).length = 8 * ko.length := bits_len false ko
                rw [j2, List.length_append, lb]; omega
        · refine execsM_any (hideQ fun Q' hQ' => ?_)
          k_steps
          all_goals (try (refine hQ' _ _ ?_; clear hQ' Q'))
          dsimp only
          refine execsM_any (hideQ fun Q' hQ' => ?_)
          k_steps
          all_goals (try (refine hQ' _ _ ?_; clear hQ' Q'))
          dsimp only
          rename_i _ _ _ hlo hhi hV FV NV
          have hpw : (0 : Int) < 1 * 2 ^ ((rr + (i : Int)).fmod 18).toNat := by rw [Int.one_mul]; exact two_pos _
          refine hideG fun Gz hGz => ?_
          obtain ⟨m3, cc, vv, tcc, tvv, F6, y1, y2, y3, y4, y5, c0, c18, v0, v1⟩ : ∃ (m3 : PySem.Str → Option Value) (cc vv : Int) (tcc tvv : Tok), Fr g' L' hV m3 ∧ m3 (PySem.Str.ofString "writer") = some (.ref x) ∧ m3 (PySem.Str.ofString "is_high") = some (.bool false) ∧ m3 (PySem.Str.ofString "row") = some (.ref lr) ∧ m3 (PySem.Str.ofString "count") = some (.int cc tcc) ∧ m3 (PySem.Str.ofString "value") = some (.int vv tvv) ∧ 0 ≤ cc ∧ cc < 18 ∧ 0 ≤ vv ∧ vv < 2 ^ cc.toNat :=
            ⟨_, _, _, _, _, FV, rfl, rfl, rfl, rfl, rfl, hlo, hhi, Int.fmod_nonneg_of_pos _ hpw, by have z := Int.fmod_lt_of_pos (rr.fdiv 18 + 977 * (i : Int)) hpw; rw [Int.one_mul] at z ⊢; exact z⟩
          refine hGz ?_
          clear hGz Gz
          clear FV hpw hlo hhi
          have F7 := fr_k5 F6 y3 y1 y2 y4 y5
          clear F6
          refine execsM_cons (ExprM (MethodM ?_))
          k_steps
          refine callWithM_of (P := (Mine.hd.heap_39 w.params).In) rfl (keeps_K (by k_is)) ?_
          refine evalArgsM_plain (splicedM_cons (wpR_any ?_))
          rw [if_neg Bool.false_ne_true]
          k_steps
          refine splicedM_cons (wpR_any ?_)
          dsimp only
          rw [if_neg Bool.false_ne_true]
          k_steps
          refine wpR_pure ?_
          refine ⟨X'.keeps F7.keep, ?_⟩
          show wpM true _ _ (call (.ref 202) [.ref x, .int vv _, .int cc _]) _ _ _
          k_dflt (refine' put_low ?B ?F ?X ?N ?T ?hk ?hd ?hu x1 x2 x3 rd rb ?bz i1 i2 i3 i4 c0 ?c1 v0 v1 ?_; (case B => k_asm); (case F => k_asm); (case X => k_asm); (case N => k_asm); (case T => k_asm); (case hk => first | assumption | exact rfl); (case hd => first | exact n_up (by assumption) (by decide) | ktr_room); (case hu => first | exact n_up (by assumption) (by decide) | ktr_units); (case bz => exact bz); (case c1 => omega); k_whole)
          intro b2 held2 count2 t2' t3' hP tkP p1 p2 p3 p4 p5 p6 FP NP
          refine ⟨rfl, ?_⟩
          dsimp only
          refine execsM_any (hideQ fun Q' hQ' => ?_)
          (k_steps <;> repeat' ((with_reducible refine go_on ?_); (first | (with_reducible (k_here; k_dflt (refine' row_c ?B ?F ?X ?N ?T ?hk ?hd ?hu ?c0 ?c1 ?_; (case B => k_asm); (case F => k_asm); (case X => k_asm); (case N => k_asm); (case T => k_asm); (case hk => first | assumption | exact rfl); (case hd => first | exact n_up (by assumption) (by decide) | ktr_room); (case hu => first | exact n_up (by assumption) (by decide) | ktr_units); (case c0 => omega); (case c1 => omega); k_whole); intro lw vw nw hW tkW rw_ FW NW; (try dsimp only))) | fail); k_steps))
          all_goals (try (refine hQ' _ _ ?_; clear hQ' Q'))
          dsimp only
          refine execsM_nil ?_
          dsimp only
          refine execsM_nil ?_
          rename_i Dw wsw hW1 hID lD hW2 FD ND
          refine ⟨rfl, _, [(x, instObj 233 dx), (dx, wrO h1 h2 h3 k1 k2 k3 t2' t3' bb held2 count2), (bb, baObj b2), (Dw, W.listOf wsw.toArray 0), (L' + 1, oS'), (L' + 1 + 1, oR')], _, _, rfl, FD, ?N, b2, held2, count2, t2', t3', Dw, wsw, R ++ row false vv cc.toNat, 0, oS', oR', _, rfl, dS', dR2, p1, p2, p3, p4, ?len, ?eq, hID, ?le, rfl, rfl, rfl⟩
          case N => exact pickN ND (by k_mem) (pickN ND (by k_mem) (pickN ND (by k_mem) (pickN ND (by k_mem) (pickN ND (by k_mem) (pickN ND (by k_mem) (fun p hp => ND p (.tail _ (.tail _ (.tail _ (.tail _ (.tail _ (.tail _ (.tail _ (.tail _ hp)))))))))))))) 
          case len => rw [List.length_append, row_length]; first | exact n_app i5 p5 c0 | omega
          case eq => rw [p6, i6]; rfl
          case le => rw [List.length_append, row_length]; first | exact n_grow i8 c18 | omega
  case done =>
    intro m ch h tk hWz F3 N3
    refine hideG fun Gz hGz => ?_
    obtain ⟨vS, b, held, count, t2, t3, lr, rs, R, nr, oS, oR, vR, rfl, dS, dR, i1, i2, i3, i4, i5, i6, i7, i8, w1, w2, w3⟩ := hWz
    refine hGz ?_
    clear hGz Gz
    have F4 := fr_k3 F3 w3 w1 w2
    clear F3 w1 w2 w3 NE2 FE2 FE NE' nE nI
    dsimp only
    refine execsM_cons (ForM ?_)
    k_steps
    rename_i d4 hd4 ld4 d3 hd3 ld3 d2 hd2 ld2 d1 hd1 ld1 dA hdA FA NA lA
    simp only [List.cons_append, List.nil_append] at NA
    refine hideG fun Gz hGz => ?_
    obtain ⟨u1, u2, u3, u4, u5, u6, u7, u8, N0⟩ : ∃ u1 u2 u3 u4 u5 u6 u7 u8 : Tok, News g' L' hdA ((x, instObj 233 dx) :: (dx, wrO h1 h2 h3 k1 k2 k3 t2 t3 bb held count) :: (bb, baObj b) :: (lr, W.listOf rs.toArray nr) :: (L' + 1, oS) :: (L' + 1 + 1, oR) :: (dA, tupO #[.ref d4, .ref d3, .ref d2, .ref d1]) :: (d4, tupO #[.int (1 * 2 ^ (3 : Int).toNat) u1, .int 3 u2]) :: (d3, tupO #[.int (-1) u3, .int 4 u4]) :: (d2, tupO #[.int 0 u5, .int (-1) u6]) :: (d1, tupO #[.int 1 u7, .int 0 u8]) :: rest) :=
      ⟨_, _, _, _, _, _, _, _, pickN NA (by k_mem) (pickN NA (by k_mem) (pickN NA (by k_mem) (pickN NA (by k_mem) (pickN NA (by k_mem) (pickN NA (by k_mem) (pickN NA (.head _) (pickN NA (.tail _ (.tail _ (.tail _ (.tail _ (.head _))))) (pickN NA (.tail _ (.tail _ (.tail _ (.head _)))) (pickN NA (.tail _ (.tail _ (.head _))) (pickN NA (.tail _ (.head _)) (fun p hp => NA p (.tail _ (.tail _ (.tail _ (.tail _ (.tail _ (.tail _ (.tail _ (.tail _ (.tail _ (.tail _ (.tail _ hp))))))))))))))))))))))⟩
    refine hGz ?_
    clear hGz Gz
    clear NA ld4 ld3 ld2 ld1 lA
    refine hideG fun Gz hGz => ?_
    obtain ⟨l1a, l1b, l1c, _⟩ := l1
    refine hGz ?_
    clear hGz Gz
    have rdt : ∀ p ∈ (lr, W.listOf rs.toArray nr) :: (L' + 1, oS) :: (L' + 1 + 1, oR) :: (dA, tupO #[.ref d4, .ref d3, .ref d2, .ref d1]) :: (d4, tupO #[.int (1 * 2 ^ (3 : Int).toNat) u1, .int 3 u2]) :: (d3, tupO #[.int (-1) u3, .int 4 u4]) :: (d2, tupO #[.int 0 u5, .int (-1) u6]) :: (d1, tupO #[.int 1 u7, .int 0 u8]) :: rest, p.1 ≠ dx := fun p hp => by
      simp only [List.mem_cons] at hp
      rcases hp with rfl | rfl | rfl | rfl | rfl | rfl | rfl | rfl | hp
      · exact ne_obj N0 (by k_mem) (by k_mem) (fun e => by have z := congrArg Obj.cls e; simp [W.listOf, dictOf, baObj] at z)
      · exact Nat.ne_of_gt (Nat.lt_succ_of_lt l1b)
      · exact Nat.ne_of_gt (Nat.lt_succ_of_lt (Nat.lt_succ_of_lt l1b))
      · exact ne_obj N0 (by k_mem) (by k_mem) (fun e => by have z := congrArg Obj.cls e; simp [dictOf, baObj] at z)
      · exact ne_obj N0 (by k_mem) (by k_mem) (fun e => by have z := congrArg Obj.cls e; simp [dictOf, baObj] at z)
      · exact ne_obj N0 (by k_mem) (by k_mem) (fun e => by have z := congrArg Obj.cls e; simp [dictOf, baObj] at z)
      · exact ne_obj N0 (by k_mem) (by k_mem) (fun e => by have z := congrArg Obj.cls e; simp [dictOf, baObj] at z)
      · exact ne_obj N0 (by k_mem) (by k_mem) (fun e => by have z := congrArg Obj.cls e; simp [dictOf, baObj] at z)
      · exact r1 p hp
    have rbt : ∀ p ∈ (lr, W.listOf rs.toArray nr) :: (L' + 1, oS) :: (L' + 1 + 1, oR) :: (dA, tupO #[.ref d4, .ref d3, .ref d2, .ref d1]) :: (d4, tupO #[.int (1 * 2 ^ (3 : Int).toNat) u1, .int 3 u2]) :: (d3, tupO #[.int (-1) u3, .int 4 u4]) :: (d2, tupO #[.int 0 u5, .int (-1) u6]) :: (d1, tupO #[.int 1 u7, .int 0 u8]) :: rest, p.1 ≠ bb := fun p hp => by
      simp only [List.mem_cons] at hp
      rcases hp with rfl | rfl | rfl | rfl | rfl | rfl | rfl | rfl | hp
      · exact ne_obj N0 (by k_mem) (by k_mem) (fun e => by have z := congrArg Obj.cls e; simp [W.listOf, dictOf, baObj] at z)
      · exact Nat.ne_of_gt (Nat.lt_succ_of_lt l1c)
      · exact Nat.ne_of_gt (Nat.lt_succ_of_lt (Nat.lt_succ_of_lt l1c))
      · exact ne_obj N0 (by k_mem) (by k_mem) (fun e => by have z := congrArg Obj.cls e; simp [dictOf, baObj] at z)
      · exact ne_obj N0 (by k_mem) (by k_mem) (fun e => by have z := congrArg Obj.cls e; simp [dictOf, baObj] at z)
      · exact ne_obj N0 (by k_mem) (by k_mem) (fun e => by have z := congrArg Obj.cls e; simp [dictOf, baObj] at z)
      · exact ne_obj N0 (by k_mem) (by k_mem) (fun e => by have z := congrArg Obj.cls e; simp [dictOf, baObj] at z)
      · exact ne_obj N0 (by k_mem) (by k_mem) (fun e => by have z := congrArg Obj.cls e; simp [dictOf, baObj] at z)
      · exact r2 p hp
    have hvl := hv.length
    have bz : b.size ≤ 100000 := by first | exact n_bz i3 i5 i8 (Nat.le_of_lt hi25) | exact n_bz i3 i5 i8 hi25 | exact n_bz i3 i5 i8 (hvl ▸ hn) | omega
    have hbR : Bits R := i6 ▸ bits_app (bits_bitsL _) (bits_rowL5 _ _)
    have hw : octsOf false (filled R) = KBw.bInts b ++ (if count = 0 then [] else [held]) := i6 ▸ writer_low (B := KBw.bInts b) (fun k hk => KBw.ints_in hk) i1 i2 i3 i4
    refine' forTupT (tA := dA) (ts := [d4, d3, d2, d1]) (tn := 0) (rest := (x, instObj 233 dx) :: (dx, wrO h1 h2 h3 k1 k2 k3 t2 t3 bb held count) :: (bb, baObj b) :: (lr, W.listOf rs.toArray nr) :: (L' + 1, oS) :: (L' + 1 + 1, oR) :: (dA, tupO #[.ref d4, .ref d3, .ref d2, .ref d1]) :: (d4, tupO #[.int (1 * 2 ^ (3 : Int).toNat) u1, .int 3 u2]) :: (d3, tupO #[.int (-1) u3, .int 4 u4]) :: (d2, tupO #[.int 0 u5, .int (-1) u6]) :: (d1, tupO #[.int 1 u7, .int 0 u8]) :: rest)
      (fun _ g m => TJ w p loose mean mg mb (ktrTop dp un gd cn cs L a ccd cl outer) base (envX cn cs L a ccd cl :: outer) g' x lr false g m) rfl FA N0 ?hmT ⟨KtsTurn.refl, B', X', T', D', rfl, rfl, rfl⟩ ?turnT ?doneT
    case hmT => exact .tail _ (.tail _ (.tail _ (.tail _ (.tail _ (.tail _ (.head _))))))
    case turnT =>
      clear B' X' T' D' FG'
      intro i hi' it io g m h tk hWz F5 N5 lt5
      refine hideG fun Gz hGz => ?_
      obtain ⟨kT, kB, kX, kP, kD, w1, w2, w3⟩ := hWz
      refine hGz ?_
      clear hGz Gz
      have N6 : News g L' h ((x, instObj 233 dx) :: (dx, wrO h1 h2 h3 k1 k2 k3 t2 t3 bb held count) :: (bb, baObj b) :: (it, io) :: (lr, W.listOf rs.toArray nr) :: (L' + 1, oS) :: (L' + 1 + 1, oR) :: (dA, tupO #[.ref d4, .ref d3, .ref d2, .ref d1]) :: (d4, tupO #[.int (1 * 2 ^ (3 : Int).toNat) u1, .int 3 u2]) :: (d3, tupO #[.int (-1) u3, .int 4 u4]) :: (d2, tupO #[.int 0 u5, .int (-1) u6]) :: (d1, tupO #[.int 1 u7, .int 0 u8]) :: rest) := pickN N5 (by k_mem) (pickN N5 (by k_mem) (pickN N5 (by k_mem) (pickN N5 (by k_mem) (fun p hp => N5 p (.tail _ (.tail _ (.tail _ (.tail _ hp))))))))
      have rd : ∀ p ∈ (it, io) :: (lr, W.listOf rs.toArray nr) :: (L' + 1, oS) :: (L' + 1 + 1, oR) :: (dA, tupO #[.ref d4, .ref d3, .ref d2, .ref d1]) :: (d4, tupO #[.int (1 * 2 ^ (3 : Int).toNat) u1, .int 3 u2]) :: (d3, tupO #[.int (-1) u3, .int 4 u4]) :: (d2, tupO #[.int 0 u5, .int (-1) u6]) :: (d1, tupO #[.int 1 u7, .int 0 u8]) :: rest, p.1 ≠ dx := List.forall_mem_cons.mpr ⟨Nat.ne_of_gt (lt5 _ (.tail _ (.head _))), rdt⟩
      have rb : ∀ p ∈ (it, io) :: (lr, W.listOf rs.toArray nr) :: (L' + 1, oS) :: (L' + 1 + 1, oR) :: (dA, tupO #[.ref d4, .ref d3, .ref d2, .ref d1]) :: (d4, tupO #[.int (1 * 2 ^ (3 : Int).toNat) u1, .int 3 u2]) :: (d3, tupO #[.int (-1) u3, .int 4 u4]) :: (d2, tupO #[.int 0 u5, .int (-1) u6]) :: (d1, tupO #[.int 1 u7, .int 0 u8]) :: rest, p.1 ≠ bb := List.forall_mem_cons.mpr ⟨Nat.ne_of_gt (lt5 _ (.tail _ (.tail _ (.head _)))), rbt⟩
      clear N5 lt5
      have F6 := fr_k3 F5 w3 w1 w2
      clear F5 w1 w2 w3
      have hi4 : i < 4 := hi'
      rcases n_i4 hi4 with rfl | rfl | rfl | rfl
      · have e : ([d4, d3, d2, d1] : List Addr)[0]'hi' = d4 := rfl
        rw [e]
        k_steps
        refine execsM_any (hideQ fun Q' hQ' => ?_)
        (k_steps <;> repeat' ((with_reducible refine go_on ?_); (first | (with_reducible (k_here; k_dflt (refine' refuses_low ?B ?F ?X ?N ?T ?hk ?hd ?hu XB TB ?D x1 x2 x3 rd rb bz i1 i2 i3 i4 ?hc ?hno ?_; (case B => k_asm); (case F => k_asm); (case X => k_asm); (case N => k_asm); (case T => k_asm); (case hk => first | assumption | exact rfl); (case hd => first | exact n_up (by assumption) (by decide) | ktr_room); (case hu => first | exact n_up (by assumption) (by decide) | ktr_units); (case D => assumption); (case hc => omega); (case hno => decide); k_whole); intro gR hR tkR kT2 FR NR kB2 kX2 kP2 kD2; (try dsimp only))) | fail); k_steps))
        all_goals (try (refine hQ' _ _ ?_; clear hQ' Q'))
        dsimp only
        refine execsM_nil ?_
        exact ⟨_, _, _, _, rfl, ⟨kT.trans kT2, kB2, kX2, kP2, kD2, rfl, rfl, rfl⟩, FR, pickN NR (by k_mem) (pickN NR (.head _) (pickN NR (by k_mem) (pickN NR (by k_mem) (fun p hp => NR p (.tail _ (.tail _ (.tail _ (.tail _ hp))))))))⟩
      · have e : ([d4, d3, d2, d1] : List Addr)[1]'hi' = d3 := rfl
        rw [e]
        k_steps
        refine execsM_any (hideQ fun Q' hQ' => ?_)
        (k_steps <;> repeat' ((with_reducible refine go_on ?_); (first | (with_reducible (k_here; k_dflt (refine' refuses_low ?B ?F ?X ?N ?T ?hk ?hd ?hu XB TB ?D x1 x2 x3 rd rb bz i1 i2 i3 i4 ?hc ?hno ?_; (case B => k_asm); (case F => k_asm); (case X => k_asm); (case N => k_asm); (case T => k_asm); (case hk => first | assumption | exact rfl); (case hd => first | exact n_up (by assumption) (by decide) | ktr_room); (case hu => first | exact n_up (by assumption) (by decide) | ktr_units); (case D => assumption); (case hc => omega); (case hno => decide); k_whole); intro gR hR tkR kT2 FR NR kB2 kX2 kP2 kD2; (try dsimp only))) | fail); k_steps))
        all_goals (try (refine hQ' _ _ ?_; clear hQ' Q'))
        dsimp only
        refine execsM_nil ?_
        exact ⟨_, _, _, _, rfl, ⟨kT.trans kT2, kB2, kX2, kP2, kD2, rfl, rfl, rfl⟩, FR, pickN NR (by k_mem) (pickN NR (.head _) (pickN NR (by k_mem) (pickN NR (by k_mem) (fun p hp => NR p (.tail _ (.tail _ (.tail _ (.tail _ hp))))))))⟩
      · have e : ([d4, d3, d2, d1] : List Addr)[2]'hi' = d2 := rfl
        rw [e]
        k_steps
        refine execsM_any (hideQ fun Q' hQ' => ?_)
        (k_steps <;> repeat' ((with_reducible refine go_on ?_); (first | (with_reducible (k_here; k_dflt (refine' refuses_low ?B ?F ?X ?N ?T ?hk ?hd ?hu XB TB ?D x1 x2 x3 rd rb bz i1 i2 i3 i4 ?hc ?hno ?_; (case B => k_asm); (case F => k_asm); (case X => k_asm); (case N => k_asm); (case T => k_asm); (case hk => first | assumption | exact rfl); (case hd => first | exact n_up (by assumption) (by decide) | ktr_room); (case hu => first | exact n_up (by assumption) (by decide) | ktr_units); (case D => assumption); (case hc => omega); (case hno => decide); k_whole); intro gR hR tkR kT2 FR NR kB2 kX2 kP2 kD2; (try dsimp only))) | fail); k_steps))
        all_goals (try (refine hQ' _ _ ?_; clear hQ' Q'))
        dsimp only
        refine execsM_nil ?_
        exact ⟨_, _, _, _, rfl, ⟨kT.trans kT2, kB2, kX2, kP2, kD2, rfl, rfl, rfl⟩, FR, pickN NR (by k_mem) (pickN NR (.head _) (pickN NR (by k_mem) (pickN NR (by k_mem) (fun p hp => NR p (.tail _ (.tail _ (.tail _ (.tail _ hp))))))))⟩
      · have e : ([d4, d3, d2, d1] : List Addr)[3]'hi' = d1 := rfl
        rw [e]
        k_steps
        refine execsM_any (hideQ fun Q' hQ' => ?_)
        (k_steps <;> repeat' ((with_reducible refine go_on ?_); (first | (with_reducible (k_here; k_dflt (refine' refuses_low ?B ?F ?X ?N ?T ?hk ?hd ?hu XB TB ?D x1 x2 x3 rd rb bz i1 i2 i3 i4 ?hc ?hno ?_; (case B => k_asm); (case F => k_asm); (case X => k_asm); (case N => k_asm); (case T => k_asm); (case hk => first | assumption | exact rfl); (case hd => first | exact n_up (by assumption) (by decide) | ktr_room); (case hu => first | exact n_up (by assumption) (by decide) | ktr_units); (case D => assumption); (case hc => omega); (case hno => decide); k_whole); intro gR hR tkR kT2 FR NR kB2 kX2 kP2 kD2; (try dsimp only))) | fail); k_steps))
        all_goals (try (refine hQ' _ _ ?_; clear hQ' Q'))
        dsimp only
        refine execsM_nil ?_
        exact ⟨_, _, _, _, rfl, ⟨kT.trans kT2, kB2, kX2, kP2, kD2, rfl, rfl, rfl⟩, FR, pickN NR (by k_mem) (pickN NR (.head _) (pickN NR (by k_mem) (pickN NR (by k_mem) (fun p hp => NR p (.tail _ (.tail _ (.tail _ (.tail _ hp))))))))⟩
    case doneT =>
      clear B' X' T' D' FG'
      intro g m h tk hWz F5 N5
      refine hideG fun Gz hGz => ?_
      obtain ⟨kT, kB, kX, kP, kD, w1, w2, w3⟩ := hWz
      refine hGz ?_
      clear hGz Gz
      have F6 := fr_k3 F5 w3 w1 w2
      clear F5 w1 w2 w3
      have rd := rdt
      have rb := rbt
      dsimp only
      refine execsM_any (hideQ fun Q' hQ' => ?_)
      (k_steps <;> repeat' ((with_reducible refine go_on ?_); (first | (with_reducible (k_here; k_dflt (refine' octets_m ?B ?F ?X ?N ?hm ?T ?hk ?hd ?hu ?hv ?hn ?hb ?_; (case B => k_asm); (case F => k_asm); (case X => k_asm); (case N => k_asm); (case T => k_asm); (case hk => first | assumption | exact rfl); (case hd => first | exact n_up (by assumption) (by decide) | ktr_room); (case hu => first | exact n_up (by assumption) (by decide) | ktr_units); (case hm => k_mem); (case hv => assumption); (case hn => omega); (case hb => assumption); k_whole); intro oM tM hM2 tkM eM FM2 NM2; (try dsimp only))) | (with_reducible (k_here; k_dflt (refine' octs_low ?B ?F ?X ?N ?T ?hk ?hd ?hu x1 x2 x3 rd rb bz i1 i2 i3 i4 ?_; (case B => k_asm); (case F => k_asm); (case X => k_asm); (case N => k_asm); (case T => k_asm); (case hk => first | assumption | exact rfl); (case hd => first | exact n_up (by assumption) (by decide) | ktr_room); (case hu => first | exact n_up (by assumption) (by decide) | ktr_units); k_whole); intro oO tO hO tkO eO FO NO; (try dsimp only))) | fail); k_steps))
      all_goals (try (refine hQ' _ _ ?_; clear hQ' Q'))
      · refine' leaveT_ ?F ?N ?T fun h₀' kT' kF' kN' kB' kX' kP' kD' => ?_
        case F => k_asm
        case N => k_asm
        case T => exact kT
        exact ret h₀' lr rs R nr _ _ kT' i7 hbR (by omega) kF' (pickN kN' (by k_mem) (fun p hp => kN' p (.tail _ (.tail _ (.tail _ (.tail _ (.tail _ (.tail _ (.tail _ (.tail _ (.tail _ (.tail _ (.tail _ hp))))))))))))) kB' kX' kP' kD'
      · rename_i hne
        obtain rfl : oO = oM := bInts_inj (eO.trans (eM.trans hw).symm)
        simp at hne
end
end
section -- C22
set_option maxRecDepth 100000
set_option maxHeartbeats 8000000
set_option linter.unusedVariables false
set_option linter.unusedSimpArgs false

local macro_rules | `(tactic| walk_at "eval ListComp") => `(tactic| refine of_stop ?_)
local macro_rules | `(tactic| walk_at "pyIter bytes") => `(tactic| refine of_stop ?_)
local macro_rules | `(tactic| walk_at "call type:enumerate") => `(tactic| refine of_stop ?_)
inductive WJ_high (x dx bb L' : Addr) (h1 h2 h3 : Int) (k1 k2 k3 : Tok) (i : Nat) (vS : Option Value) (m : PySem.Str → Option Value) (ch : List (Addr × Obj)) : Prop
  | mk (b : Array UInt8) (held count : Int) (t2 t3 : Tok) (lr : Addr) (rs : List Value) (R : List Int) (nr : Nat) (oS oR : Obj) (vR : Option Value) (e : ch = [(x, instObj 275 dx), (dx, wrO h1 h2 h3 k1 k2 k3 t2 t3 bb held count), (bb, baObj b), (lr, W.listOf rs.toArray nr), (L' + 1, oS), (L' + 1 + 1, oR)]) (dS : oS.data = .cell vS) (dR : oR.data = .cell vR) (i1 : 0 ≤ held) (i2 : held < 2 ^ count.toNat) (i3 : 0 ≤ count) (i4 : count < 8) (i5 : 8 * (b.size : Int) + count = R.length) (i6 : bitsH (KBw.bInts b) ++ rowH held count.toNat = R) (i7 : IntsAre rs R) (i8 : R.length ≤ 40 * i) (w1 : m (PySem.Str.ofString "writer") = some (.ref x)) (w2 : m (PySem.Str.ofString "is_high") = some (.bool true)) (w3 : m (PySem.Str.ofString "row") = some (.ref lr)) : WJ_high x dx bb L' h1 h2 h3 k1 k2 k3 i vS m ch
inductive BJ_high (x : Addr) (ksf ko : List Int) (o : Array UInt8) (ot : Tok) (k : Nat) (m : PySem.Str → Option Value) (ch : List (Addr × Obj)) : Prop
  | mk (lr2 : Addr) (rs2 : List Value) (R2 : List Int) (nr2 : Nat) (e : ch = [(lr2, W.listOf rs2.toArray nr2)]) (j1 : IntsAre rs2 R2) (j2 : R2 = ksf ++ bitsH (ko.take k)) (j3 : R2.length ≤ 2000 + 8 * k) (j4 : m (PySem.Str.ofString "writer") = some (.ref x)) (j5 : m (PySem.Str.ofString "is_high") = some (.bool true)) (j6 : m (PySem.Str.ofString "row") = some (.ref lr2)) (j7 : m (PySem.Str.ofString "more") = some (.bytes o ot)) : BJ_high x ksf ko o ot k m ch
inductive PJ_high (x dx bb lr2 : Addr) (h1 h2 h3 : Int) (k1 k2 k3 : Tok) (b2 : Array UInt8) (ko : List Int) (o : Array UInt8) (ot : Tok) (k : Nat) (m : PySem.Str → Option Value) (ch : List (Addr × Obj)) : Prop
  | mk (b' : Array UInt8) (held' count' : Int) (t2 t3 : Tok) (q0 : ch = [(x, instObj 275 dx), (dx, wrO h1 h2 h3 k1 k2 k3 t2 t3 bb held' count'), (bb, baObj b')]) (q1 : 0 ≤ held') (q2 : held' < 2 ^ count'.toNat) (q3 : 0 ≤ count') (q4 : count' < 8) (q5 : 8 * (b'.size : Int) + count' = 8 * (b2.size : Int) + 8 * k) (q6 : bitsH (KBw.bInts b') ++ rowH held' count'.toNat = bitsH (KBw.bInts b2) ++ bitsH (ko.take k)) (q7 : m (PySem.Str.ofString "writer") = some (.ref x)) (q8 : m (PySem.Str.ofString "is_high") = some (.bool true)) (q9 : m (PySem.Str.ofString "row") = some (.ref lr2)) (q10 : m (PySem.Str.ofString "more") = some (.bytes o ot)) : PJ_high x dx bb lr2 h1 h2 h3 k1 k2 k3 b2 ko o ot k m ch
section
variable {w : World} {p : Program} {loose : List PySem.Str} {mean : ExcName → Option Value} {mg mb : PySem.Str → Option Value}
  {dp un : Nat} {gd : Option (List Code)} {cn : PySem.Str} {cs : Scope} {a : Addr} {ccd : Value} {cl : List (PySem.Str × Addr)} {outer : List Env} {A₀ : Around} {base h₀ : Heap} {L : Addr} {m : PySem.Str → Option Value} {rest : List (Addr × Obj)} {s : Shared} {Q E : Value → Shared → Prop}
  {h1 h2 h3 : Int} {k1 k2 k3 t2 t3 : Tok} {x dx bb l : Addr} {vs : List Value} {ns : List Int} {n : Nat}

theorem written_high {ti : Tok} (B : Below A₀ base outer h₀) (F : Fr h₀ L s.heap m) (X : (Mine.hd.heap_39 w.params).In h₀) (N : News h₀ L s.heap ((x, instObj 275 dx) :: (dx, wrO h1 h2 h3 k1 k2 k3 t2 t3 bb 0 0) :: (bb, baObj #[]) :: rest)) (T : Top p loose mean mg mb h₀) (hk : cs.kind = .function)
    (hd : dp + 40 < recursionLimit) (hu : un + 1000 < cLine) (XB : (Mine.hd.heap_39 w.params).In base) (TB : Top p loose mean mg mb base) (D : KtsDicts (outer.filterMap (·.frame)) h₀)
    (x1 : x ≠ dx) (x2 : x ≠ bb) (x3 : dx ≠ bb) (r1 : ∀ p ∈ rest, p.1 ≠ dx) (r2 : ∀ p ∈ rest, p.1 ≠ bb) (hm : (l, W.listOf vs.toArray n) ∈ rest) (hv : IntsAre vs ns) (hn : ns.length ≤ 25)
    (ret : ∀ h₀' lr rs R nr h' tk, KtsTurn (outer.filterMap (·.frame)) h₀ h₀' → IntsAre rs R → Bits R → R.length ≤ 1000 → Fr h₀' L h' m → News h₀' L h' ((lr, W.listOf rs.toArray nr) :: rest) → Below A₀ base outer h₀' → (Mine.hd.heap_39 w.params).In h₀' → Top p loose mean mg mb h₀' → KtsDicts (outer.filterMap (·.frame)) h₀' → Q (.ref lr) { s with heap := h', toks := tk }) :
    wpR (model Challenge.rw_nn0201_01.row.prog w) (ktrTop dp un gd cn cs L a ccd cl outer) (call (.ref 334) [.ref x, .ref l, .bool true]) Q E s := by
  refine wpR_call ?_
  k_dflt (refine' code_defTC (b := true) ?k1 ?k2 ?k3 ?k4 ?k5 ?XB ?TB ?D ?kA ?kF ?kK ?k6 ?k7 ?k8 ?k9 ?kB ?kD ?_ ?c2 ?c3 ?c4; (case kA => exact rfl); (case kF => exact rfl); (case kK => assumption); (case k1 => k_asm); (case k2 => k_asm); (case k3 => k_asm); (case k4 => k_asm); (case k5 => k_asm); (case XB => assumption); (case TB => assumption); (case D => assumption); (case k6 => k_is); (case k7 => k_is); (case k8 => ktr_room); (case k9 => first | exact BindsTo.of_eq rfl | exact binds_K (by k_in) rfl (by k_is) rfl rfl rfl | fail "k_enter: no rule for these arguments"); (case kB => exact rfl); (case kD => decide +kernel); (case c2 => exact rfl); (case c3 => exact rfl); (case c4 => exact rfl); k_whole; intro g' L' h' tk' cells' FG' F' N' Y' B' X' T' D' l1; (try k_lt l1); k_cells Y'; (try simp only [List.cons_append, List.nil_append] at N'); (try dsimp only); (try k_lift B'); (try k_fold))
  refine execsM_any (hideQ fun Q' hQ' => ?_)
  k_steps
  all_goals (try (refine hQ' _ _ ?_; clear hQ' Q'))
  dsimp only
  refine execsM_cons (ForM ?_)
  k_steps
  refine go_on ?_
  rename_i oR0 oS0 dR dS lr hA ltA hE FE NE
  have NE' : News g' L' hE ((x, instObj 275 dx) :: (dx, wrO h1 h2 h3 k1 k2 k3 t2 t3 bb 0 0) :: (bb, baObj #[]) :: (lr, W.listOf #[] 0) :: (L' + 1, oS0) :: (L' + 1 + 1, oR0) :: rest) :=
    fun p hp => NE p (by simp only [List.mem_cons] at hp ⊢; rcases hp with h | h | h | h | h | h | h <;> simp [h])
  have q0 : ∀ p ∈ rest, p.1 < L' := of_allLt l1.2.2.2
  clear NE
  refine' call_enum_N (vs := vs) (n := n) FE NE' ?hm fun e it io hE2 io0 hei nI nE FE2 NE2 => ?_
  case hm => exact .tail _ (.tail _ (.tail _ (.tail _ (.tail _ (.tail _ hm)))))
  dsimp only
  refine' forEnumM (vs := vs) (n := n) (e := e) (it := it) (io := io) (old := .none) (rest := rest) (ch := [(x, instObj 275 dx), (dx, wrO h1 h2 h3 k1 k2 k3 t2 t3 bb 0 0), (bb, baObj #[]), (lr, W.listOf #[] 0), (L' + 1, oS0), (L' + 1 + 1, oR0)])
    (fun i m ch => ∃ vS, WJ_high x dx bb L' h1 h2 h3 k1 k2 k3 i vS m ch) rfl FE2 ?N io0 hei ?hJ ?hl ?hc ?nr ?turn ?done
  case N => exact fun p hp => NE2 p (by simp only [List.mem_cons, List.mem_append, List.not_mem_nil, or_false] at hp ⊢; rcases hp with (h | h | h | h | h | h) | h | h | h <;> simp [h])
  case hJ => exact ⟨_, #[], 0, 0, t2, t3, lr, [], [], 0, oS0, oR0, _, rfl, dS, dR, by decide, by decide, by decide, by decide, by simp, rfl, .nil, by simp, rfl, rfl, rfl⟩
  case hl => exact fun i m ch _ => List.mem_append.mpr (.inr hm)
  case hc =>
    intro i m ch hWz p hp
    refine hideG fun Gz hGz => ?_
    obtain ⟨vS, b, held, count, t2, t3, lr, rs, R, nr, oS, oR, vR, rfl, _⟩ := hWz
    refine hGz ?_
    clear hGz Gz
    simp only [List.mem_cons, List.not_mem_nil, or_false] at hp
    rcases hp with rfl | rfl | rfl | rfl | rfl | rfl
    · exact .inl ⟨by intro e; simp at e, by intro e; simp at e⟩
    · exact .inl ⟨by intro e; simp [dictOf] at e, by intro e; simp [dictOf] at e⟩
    · exact .inl ⟨by intro e; simp [baObj] at e, by intro e; simp [baObj] at e⟩
    · exact .inl ⟨by intro e; simp [W.listOf] at e, by intro e; simp [W.listOf] at e⟩
    · exact .inr ⟨Nat.ne_of_lt (nE (L' + 1, oS0) (.tail _ (.tail _ (.tail _ (.tail _ (.head _)))))), Nat.ne_of_lt (nI (L' + 1, oS0) (.tail _ (.tail _ (.tail _ (.tail _ (.head _))))))⟩
    · exact .inr ⟨Nat.ne_of_lt (nE (L' + 1 + 1, oR0) (.tail _ (.tail _ (.tail _ (.tail _ (.tail _ (.head _))))))), Nat.ne_of_lt (nI (L' + 1 + 1, oR0) (.tail _ (.tail _ (.tail _ (.tail _ (.tail _ (.head _)))))))⟩
  case nr => exact fun p hp => ⟨Nat.ne_of_lt (nE p (by simp [hp])), Nat.ne_of_lt (nI p (by simp [hp]))⟩
  case turn =>
    intro i hi' io T t old m ch h tk io1 hWz F3 N3 lt3
    refine hideG fun Gz hGz => ?_
    obtain ⟨vS, b, held, count, t2, t3, lr, rs, R, nr, oS, oR, vR, rfl, dS, dR, i1, i2, i3, i4, i5, i6, i7, i8, w1, w2, w3⟩ := hWz
    refine hGz ?_
    clear hGz Gz
    refine hideG fun Gz hGz => ?_
    obtain ⟨qe, qe2, qi, qi2⟩ : L' + 1 < e ∧ L' + 1 + 1 < e ∧ L' + 1 < it ∧ L' + 1 + 1 < it := ⟨nE _ (.tail _ (.tail _ (.tail _ (.tail _ (.head _))))), nE _ (.tail _ (.tail _ (.tail _ (.tail _ (.tail _ (.head _)))))), nI _ (.tail _ (.tail _ (.tail _ (.tail _ (.head _))))), nI _ (.tail _ (.tail _ (.tail _ (.tail _ (.tail _ (.head _))))))⟩
    refine hGz ?_
    clear hGz Gz
    refine hideG fun Gz hGz => ?_
    obtain ⟨qxe, qxi, qde, qdi, qbe, qbi⟩ : x ≠ e ∧ x ≠ it ∧ dx ≠ e ∧ dx ≠ it ∧ bb ≠ e ∧ bb ≠ it := ⟨Nat.ne_of_lt (nE _ (.head _)), Nat.ne_of_lt (nI _ (.head _)), Nat.ne_of_lt (nE _ (.tail _ (.head _))), Nat.ne_of_lt (nI _ (.tail _ (.head _))), Nat.ne_of_lt (nE _ (.tail _ (.tail _ (.head _)))), Nat.ne_of_lt (nI _ (.tail _ (.tail _ (.head _))))⟩
    refine hGz ?_
    clear hGz Gz
    have qs : ∀ p ∈ rest, p.1 ≠ L' + 1 := fun p hp => Nat.ne_of_lt (Nat.lt_succ_of_lt (q0 p hp))
    have qr : ∀ p ∈ rest, p.1 ≠ L' + 1 + 1 := fun p hp => Nat.ne_of_lt (Nat.lt_succ_of_lt (Nat.lt_succ_of_lt (q0 p hp)))
    refine hideG fun Gz hGz => ?_
    obtain ⟨l1a, l1b, l1c, _⟩ := l1
    refine hGz ?_
    clear hGz Gz
    clear hm nE nI NE2 FE2 FE NE' q0
    have N4 : News g' L' h ((T, tupO #[.int (i : Int) t, vs[i]]) :: (x, instObj 275 dx) :: (dx, wrO h1 h2 h3 k1 k2 k3 t2 t3 bb held count) :: (bb, baObj b) :: (lr, W.listOf rs.toArray nr) :: (L' + 1, oS) :: (L' + 1 + 1, oR) :: (e, enO it ((i : Int) + 1) old) :: (it, io) :: rest) := N3
    clear N3
    have nld : lr ≠ dx := ne_obj N4 (by k_mem) (by k_mem) (fun e => by have z := congrArg Obj.cls e; simp [W.listOf, dictOf] at z)
    have nlb : lr ≠ bb := ne_obj N4 (by k_mem) (by k_mem) (fun e => by have z := congrArg Obj.cls e; simp [W.listOf, baObj] at z)
    have nls : lr ≠ L' + 1 := ne_obj N4 (by k_mem) (by k_mem) (fun e => by rw [← e] at dS; cases dS)
    have nlr : lr ≠ L' + 1 + 1 := ne_obj N4 (by k_mem) (by k_mem) (fun e => by rw [← e] at dR; cases dR)
    have lt4 : ∀ p ∈ (x, instObj 275 dx) :: (dx, wrO h1 h2 h3 k1 k2 k3 t2 t3 bb held count) :: (bb, baObj b) :: (lr, W.listOf rs.toArray nr) :: (L' + 1, oS) :: (L' + 1 + 1, oR) :: (e, enO it ((i : Int) + 1) old) :: (it, io) :: rest, p.1 < T := lt3
    have qT1 : L' + 1 < T := lt4 _ (.tail _ (.tail _ (.tail _ (.tail _ (.head _)))))
    have qT2 : L' + 1 + 1 < T := lt4 _ (.tail _ (.tail _ (.tail _ (.tail _ (.tail _ (.head _))))))
    clear lt4
    clear lt3
    have hj : i < ns.length := by rw [← hv.length]; exact hi'
    obtain ⟨tb, eb⟩ := intsAre_get hv i hi' hj
    rw [eb] at N4
    clear eb
    generalize ns[i] = c at N4
    have hi25 : i < 25 := by omega
    have F4 := fr_k3 F3 w3 w1 w2
    clear F3 w1 w2 w3
    k_steps
    rename_i _ _ oS' dS' hF FF NF
    have NF5 : News g' L' hF ((x, instObj 275 dx) :: (dx, wrO h1 h2 h3 k1 k2 k3 t2 t3 bb held count) :: (bb, baObj b) :: (lr, W.listOf rs.toArray nr) :: (L' + 1, oS') :: (L' + 1 + 1, oR) :: (e, enO it ((i : Int) + 1) old) :: (it, io) :: rest) := fun p hp => NF p (.tail _ hp)
    clear NF
    refine execsM_any (hideQ fun Q' hQ' => ?_)
    k_steps
    all_goals (try (refine hQ' _ _ ?_; clear hQ' Q'))
    dsimp only
    refine execsM_any (hideQ fun Q' hQ' => ?_)
    k_steps
    all_goals (try (refine hQ' _ _ ?_; clear hQ' Q'))
    dsimp only
    rename_i uX tkX hG oR' FG NG dR'

    refine hideG fun Gz hGz => ?_
    obtain ⟨rr, tr, er, hrr, dR2⟩ : ∃ (rr : Int) (tr : Tok), rr = (if c < 0 then -c else c).fdiv 8 ∧ 0 ≤ rr ∧ oR'.data = .cell (some (.int rr tr)) := ⟨_, _, rfl, by split <;> (rw [Int.fdiv_eq_ediv_of_nonneg _ (by decide)]; omega), dR'⟩
    refine hGz ?_
    clear hGz Gz
    refine hideG fun Gz hGz => ?_
    obtain ⟨m2, tw, F2, w1, w2, w3, w4⟩ : ∃ m2 tw, Fr g' L' hG m2 ∧ m2 (PySem.Str.ofString "writer") = some (.ref x) ∧ m2 (PySem.Str.ofString "is_high") = some (.bool true) ∧ m2 (PySem.Str.ofString "row") = some (.ref lr) ∧ m2 (PySem.Str.ofString "way") = some (.int (c.fmod 8) tw) := ⟨_, _, FG, rfl, rfl, rfl, rfl⟩
    refine hGz ?_
    clear hGz Gz
    clear FG dR' er
    have F5 := fr_k4 F2 w3 w1 w2 w4
    clear F2
    have rdx : ∀ lo : Addr × Obj, lo.1 ≠ dx → ∀ p ∈ lo :: (L' + 1, oS') :: (L' + 1 + 1, oR') :: (e, enO it ((i : Int) + 1) old) :: (it, io) :: rest, p.1 ≠ dx := fun lo hlo p hp => by
      simp only [List.mem_cons] at hp
      rcases hp with rfl | rfl | rfl | rfl | rfl | hp
      · exact hlo
      · exact Nat.ne_of_gt (Nat.lt_succ_of_lt l1b)
      · exact Nat.ne_of_gt (Nat.lt_succ_of_lt (Nat.lt_succ_of_lt l1b))
      · exact qde.symm
      · exact qdi.symm
      · exact r1 p hp
    have rbx : ∀ lo : Addr × Obj, lo.1 ≠ bb → ∀ p ∈ lo :: (L' + 1, oS') :: (L' + 1 + 1, oR') :: (e, enO it ((i : Int) + 1) old) :: (it, io) :: rest, p.1 ≠ bb := fun lo hlo p hp => by
      simp only [List.mem_cons] at hp
      rcases hp with rfl | rfl | rfl | rfl | rfl | hp
      · exact hlo
      · exact Nat.ne_of_gt (Nat.lt_succ_of_lt l1c)
      · exact Nat.ne_of_gt (Nat.lt_succ_of_lt (Nat.lt_succ_of_lt l1c))
      · exact qbe.symm
      · exact qbi.symm
      · exact r2 p hp
    have rd := rdx (lr, W.listOf rs.toArray nr) nld
    have rb := rbx (lr, W.listOf rs.toArray nr) nlb
    have bz : b.size ≤ 100000 := by first | exact n_bz i3 i5 i8 (Nat.le_of_lt hi25) | exact n_bz i3 i5 i8 hi25 | exact n_bz i3 i5 i8 (hvl ▸ hn) | omega
    refine execsM_cons (wpR_mono (Q := WPost (WJ_high x dx bb L' h1 h2 h3 k1 k2 k3 (i + 1) (some (.int (i : Int) t))) g' L' ((e, enO it ((i : Int) + 1) old) :: (it, io) :: rest) s) (IfM ?mid) (fun f s₃ hmid => ?tail) fun _ _ x => x)
    case tail =>
      refine hideG fun Gz hGz => ?_
      obtain ⟨rfl, m, ch, hM, tk3, rfl, FM, NM, b, held, count, t2, t3, lr, rs, R, nr, oS2, oR2, vR2, rfl, dS2, dR3, i1, i2, i3, i4, i5, i6, i7, i8, w1, w2, w3⟩ := hmid
      refine hGz ?_
      clear hGz Gz
      dsimp only
      have F6 := fr_k3 FM w3 w1 w2
      clear FM w1 w2 w3 dR2 dS' rd rb bz rdx rbx NG F5
      have N6 : News g' L' hM ((x, instObj 275 dx) :: (dx, wrO h1 h2 h3 k1 k2 k3 t2 t3 bb held count) :: (bb, baObj b) :: (lr, W.listOf rs.toArray nr) :: (L' + 1, oS2) :: (L' + 1 + 1, oR2) :: (e, enO it ((i : Int) + 1) old) :: (it, io) :: rest) := NM
      clear NM
      have nld : lr ≠ dx := ne_obj N6 (by k_mem) (by k_mem) (fun e => by have z := congrArg Obj.cls e; simp [W.listOf, dictOf] at z)
      have nlb : lr ≠ bb := ne_obj N6 (by k_mem) (by k_mem) (fun e => by have z := congrArg Obj.cls e; simp [W.listOf, baObj] at z)
      have rd : ∀ p ∈ (lr, W.listOf rs.toArray nr) :: (L' + 1, oS2) :: (L' + 1 + 1, oR2) :: (e, enO it ((i : Int) + 1) old) :: (it, io) :: rest, p.1 ≠ dx := fun p hp => by
        simp only [List.mem_cons] at hp
        rcases hp with rfl | rfl | rfl | rfl | rfl | hp
        · exact nld
        · exact Nat.ne_of_gt (Nat.lt_succ_of_lt l1b)
        · exact Nat.ne_of_gt (Nat.lt_succ_of_lt (Nat.lt_succ_of_lt l1b))
        · exact qde.symm
        · exact qdi.symm
        · exact r1 p hp
      have rb : ∀ p ∈ (lr, W.listOf rs.toArray nr) :: (L' + 1, oS2) :: (L' + 1 + 1, oR2) :: (e, enO it ((i : Int) + 1) old) :: (it, io) :: rest, p.1 ≠ bb := fun p hp => by
        simp only [List.mem_cons] at hp
        rcases hp with rfl | rfl | rfl | rfl | rfl | hp
        · exact nlb
        · exact Nat.ne_of_gt (Nat.lt_succ_of_lt l1c)
        · exact Nat.ne_of_gt (Nat.lt_succ_of_lt (Nat.lt_succ_of_lt l1c))
        · exact qbe.symm
        · exact qbi.symm
        · exact r2 p hp
      have bz : b.size ≤ 100000 := by first | exact n_bz i3 i5 i8 (Nat.le_of_lt hi25) | exact n_bz i3 i5 i8 hi25 | exact n_bz i3 i5 i8 (hvl ▸ hn) | omega
      have hbR : Bits R := i6 ▸ bits_app (bits_bitsH _) (bits_rowH5 _ _)
      have hw : octsOf true (filled R) = KBw.bInts b ++ (if count = 0 then [] else [held * 2 ^ (8 - count).toNat]) := i6 ▸ writer_high (B := KBw.bInts b) (fun k hk => KBw.ints_in hk) i1 i2 i3 i4
      refine execsM_cons (wpR_mono (Q := NextAt (fun hM => Fr g' L' hM (fun y => if y = PySem.Str.ofString "row" then some (.ref lr) else if y = PySem.Str.ofString "writer" then some (.ref x) else if y = PySem.Str.ofString "is_high" then some (.bool true) else m y) ∧ News g' L' hM ((x, instObj 275 dx) :: (dx, wrO h1 h2 h3 k1 k2 k3 t2 t3 bb held count) :: (bb, baObj b) :: (lr, W.listOf rs.toArray nr) :: (L' + 1, oS2) :: (L' + 1 + 1, oR2) :: (e, enO it ((i : Int) + 1) old) :: (it, io) :: rest)) s) (wpR_any ?st1) (fun f s₃ hq => ?st2) fun _ _ x => x)
      case st1 =>
        (k_steps <;> repeat' ((with_reducible refine go_on ?_); (first | (with_reducible (k_here; k_dflt (refine' octets_m ?B ?F ?X ?N ?hm ?T ?hk ?hd ?hu ?hv ?hn ?hb ?_; (case B => k_asm); (case F => k_asm); (case X => k_asm); (case N => k_asm); (case T => k_asm); (case hk => first | assumption | exact rfl); (case hd => first | exact n_up (by assumption) (by decide) | ktr_room); (case hu => first | exact n_up (by assumption) (by decide) | ktr_units); (case hm => k_mem); (case hv => assumption); (case hn => omega); (case hb => assumption); k_whole); intro oM tM hM2 tkM eM FM2 NM2; (try dsimp only))) | (with_reducible (k_here; k_dflt (refine' octs_high ?B ?F ?X ?N ?T ?hk ?hd ?hu x1 x2 x3 rd rb bz i1 i2 i3 i4 ?_; (case B => k_asm); (case F => k_asm); (case X => k_asm); (case N => k_asm); (case T => k_asm); (case hk => first | assumption | exact rfl); (case hd => first | exact n_up (by assumption) (by decide) | ktr_room); (case hu => first | exact n_up (by assumption) (by decide) | ktr_units); k_whole); intro oO tO hO tkO eO FO NO; (try dsimp only))) | fail); k_steps))
        · rename_i hne
          obtain rfl : oO = oM := bInts_inj (eO.trans (eM.trans hw).symm)
          simp at hne
        · exact nextAt_ ⟨by k_asm, by k_asm⟩
        · exact nextAt_ ⟨by k_asm, by k_asm⟩
      case st2 =>
        refine hideG fun Gz hGz => ?_
        obtain ⟨rfl, hM3, tk4, rfl, F7, N7⟩ := hq
        refine hGz ?_
        clear hGz Gz
        clear F6 N6
        dsimp only
        refine execsM_any (hideQ fun Q' hQ' => ?_)
        k_steps
        all_goals (try (refine hQ' _ _ ?_; clear hQ' Q'))
        dsimp only
        refine execsM_nil ?_
        exact ⟨_, [(x, instObj 275 dx), (dx, wrO h1 h2 h3 k1 k2 k3 t2 t3 bb held count), (bb, baObj b), (lr, W.listOf rs.toArray nr), (L' + 1, oS2), (L' + 1 + 1, oR2)], _, _, rfl, ⟨_, b, held, count, t2, t3, lr, rs, R, nr, oS2, oR2, vR2, rfl, dS2, dR3, i1, i2, i3, i4, i5, i6, i7, i8, rfl, rfl, rfl⟩, by k_asm, by k_asm⟩
    case mid =>
      k_steps
      · refine execsM_cons (ExprM (MethodM ?_))
        k_steps
        refine callWithM_of (P := (Mine.hd.heap_39 w.params).In) rfl (keeps_K (by k_is)) (evalArgsM_nil ?_)
        refine ⟨X'.keeps F5.keep, ?_⟩
        show wpM true _ _ (call (.ref 265) [.ref x]) _ _ _
        k_dflt (refine' align_high ?B ?F ?X ?N ?T ?hk ?hd ?hu x1 x2 x3 rd rb ?bz i1 i2 i3 i4 ?_; (case B => k_asm); (case F => k_asm); (case X => k_asm); (case N => k_asm); (case T => k_asm); (case hk => first | assumption | exact rfl); (case hd => first | exact n_up (by assumption) (by decide) | ktr_room); (case hu => first | exact n_up (by assumption) (by decide) | ktr_units); (case bz => exact bz); k_whole)
        intro b2 t2' t3' hP tkP p5 p6 FP NP
        refine ⟨rfl, ?_⟩
        dsimp only
        refine execsM_any (hideQ fun Q' hQ' => ?_)
        (k_steps <;> repeat' ((with_reducible refine go_on ?_); (first | (with_reducible (k_here; k_dflt (refine' filled_m ?B ?F ?X ?N ?hm ?T ?hk ?hd ?hu ?hv ?hn ?_; (case B => k_asm); (case F => k_asm); (case X => k_asm); (case N => k_asm); (case T => k_asm); (case hk => first | assumption | exact rfl); (case hd => first | exact n_up (by assumption) (by decide) | ktr_room); (case hu => first | exact n_up (by assumption) (by decide) | ktr_units); (case hm => k_mem); (case hv => assumption); (case hn => omega); k_whole); intro lf vf nf ksf hFl tkFl kf1 kf2 kf3 kf4 kf5 FFl NFl; (try dsimp only))) | fail); k_steps))
        all_goals (try (refine hQ' _ _ ?_; clear hQ' Q'))
        dsimp only
        refine execsM_nil ?_
        rename_i hW2 FD ND
        refine ⟨rfl, _, [(x, instObj 275 dx), (dx, wrO h1 h2 h3 k1 k2 k3 t2' t3' bb 0 0), (bb, baObj b2), (lf, W.listOf vf.toArray nf), (L' + 1, oS'), (L' + 1 + 1, oR')], _, _, rfl, FD, ?N, b2, 0, 0, t2', t3', lf, vf, ksf, nf, oS', oR', _, rfl, dS', dR2, by decide, by decide, by decide, by decide, ?len, ?eq, kf2, ?le, rfl, rfl, rfl⟩
        case N => exact pickN ND (by k_mem) (pickN ND (by k_mem) (pickN ND (by k_mem) (pickN ND (by k_mem) (pickN ND (by k_mem) (pickN ND (by k_mem) (fun p hp => ND p (.tail _ (.tail _ (.tail _ (.tail _ (.tail _ (.tail _ (.tail _ hp))))))))))))) 
        case len => rw [kf1, List.length_append, List.length_replicate]; first | exact n_pad i5 p5 | omega
        case eq =>
          rw [kf1, p6, i6, rowH_zero, show (-count % 8).toNat = (-(R.length : Int) % 8).toNat from congrArg Int.toNat (n_neg i5)]
          exact List.append_nil _
        case le => omega
      · refine execsM_cons (IfM ?_)
        k_steps
        · refine execsM_any ?_
          k_steps
          refine go_on ?_
          k_dflt (refine ListComp_step (F₀ := by k_asm) (by with_unfolding_all rfl) (by decide) (by rfl) (by decide) (by rfl) ?_)
          k_steps
          rename_i hR tR1 tR2 tR3 tR4 iR FR NR kR
          refine hideG fun Gz hGz => ?_
          obtain ⟨nn, hnn, hn3⟩ : ∃ nn : Nat, rr.fmod 4 = (nn : Int) ∧ nn ≤ 3 := by
            have z0 := Int.fmod_nonneg_of_pos rr (by decide : (0 : Int) < 4)
            have z1 := Int.fmod_lt_of_pos rr (by decide : (0 : Int) < 4)
            exact ⟨(rr.fmod 4).toNat, by omega, by omega⟩
          refine hGz ?_
          clear hGz Gz
          rw [hnn] at iR
          have hsz : Builtin.Range.rangeSize 0 (nn : Int) 1 = ((nn : Nat) : Int) := by rw [rangeSize_nat]; omega
          refine StepSrc.mk nn rfl (by k_asm) (by k_asm) (by with_reducible assumption) (small_one (by decide) (by decide) (by omega) (by omega)) hsz (by rw [sizeLine_eq]; omega) fun g => ?_
          refine compRest_fold (fun i2 => (rr + 37 * (i2 : Int) + (i : Int)).fmod 256) (fun i2 hi2 ys v I oI C oC Dl m₂ h tk E' hP hC hx F N off ne => ?_) trivial fun ys hys => ?_
          · obtain ⟨tv, rfl⟩ := hP
            k_steps
            refine EltEnd.of (by rw [show (0 : Int) + (i2 : Int) * 1 = (i2 : Int) by omega]) (by k_asm) (by k_asm)
          · intro Dl hD tkD FD ND offD
            k_steps
            have hin : KBa.In ((List.range nn).map fun i2 : Nat => (rr + 37 * (i2 : Int) + (i : Int)).fmod 256) := fun k hk => by
              refine hideG fun Gz hGz => ?_
              obtain ⟨i2, _, rfl⟩ := List.mem_map.mp hk
              refine hGz ?_
              clear hGz Gz
              exact ⟨Int.fmod_nonneg_of_pos _ (by decide), Int.fmod_lt_of_pos _ (by decide)⟩
            refine KBa.make_K (by k_asm) (by k_asm) rfl ⟨_, (ND (Dl, LCg.lst ys) (.head _)).1, rfl, _, rfl⟩ hys hin (by rw [List.length_map, List.length_range]; omega) fun hB tB kB FB NB _ => ?_
            k_steps
            dsimp only
            rename_i _ hX FX NX
            refine hideG fun Gz hGz => ?_
            obtain ⟨m3, o, ot, ko, F6, y1, y2, y3, y4, eo, ko3, kin⟩ : ∃ (m3 : PySem.Str → Option Value) (o : Array UInt8) (ot : Tok) (ko : List Int), Fr g' L' hX m3 ∧ m3 (PySem.Str.ofString "writer") = some (.ref x) ∧ m3 (PySem.Str.ofString "is_high") = some (.bool true) ∧ m3 (PySem.Str.ofString "row") = some (.ref lr) ∧ m3 (PySem.Str.ofString "more") = some (.bytes o ot) ∧ KBw.bInts o = ko ∧ ko.length ≤ 3 ∧ (∀ k ∈ ko, 0 ≤ k ∧ k < 256) :=
              ⟨_, _, _, _, FX, rfl, rfl, rfl, rfl, KBa.ints_make hin, by rw [List.length_map, List.length_range]; exact hn3, hin⟩
            refine hGz ?_
            clear hGz Gz
            clear FX hin hys offD
            have F7 := fr_k4 F6 y3 y1 y2 y4
            clear F6
            have NX' := uncons NX
            clear NX
            refine execsM_any (hideQ fun Q' hQ' => ?_)
            (k_steps <;> repeat' ((with_reducible refine go_on ?_); (first | (with_reducible (k_here; k_dflt (refine' filled_m ?B ?F ?X ?N ?hm ?T ?hk ?hd ?hu ?hv ?hn ?_; (case B => k_asm); (case F => k_asm); (case X => k_asm); (case N => k_asm); (case T => k_asm); (case hk => first | assumption | exact rfl); (case hd => first | exact n_up (by assumption) (by decide) | ktr_room); (case hu => first | exact n_up (by assumption) (by decide) | ktr_units); (case hm => k_mem); (case hv => assumption); (case hn => omega); k_whole); intro lf vf nf ksf hFl tkFl kf1 kf2 kf3 kf4 kf5 FFl NFl; (try dsimp only))) | fail); k_steps))
            all_goals (try (refine hQ' _ _ ?_; clear hQ' Q'))
            dsimp only
            rename_i hX2 F8 N8
            refine hideG fun Gz hGz => ?_
            obtain ⟨m4, F9, z1, z2, z3, z4⟩ : ∃ (m4 : PySem.Str → Option Value), Fr g' L' hX2 m4 ∧ m4 (PySem.Str.ofString "writer") = some (.ref x) ∧ m4 (PySem.Str.ofString "is_high") = some (.bool true) ∧ m4 (PySem.Str.ofString "row") = some (.ref lf) ∧ m4 (PySem.Str.ofString "more") = some (.bytes o ot) := ⟨_, F8, rfl, rfl, rfl, rfl⟩
            refine hGz ?_
            clear hGz Gz
            clear F8
            have F10 := fr_k4 F9 z3 z1 z2 z4
            clear F9
            have N10 : News g' L' hX2 ((lf, W.listOf vf.toArray nf) :: (x, instObj 275 dx) :: (dx, wrO h1 h2 h3 k1 k2 k3 t2 t3 bb held count) :: (bb, baObj b) :: (L' + 1, oS') :: (L' + 1 + 1, oR') :: (e, enO it ((i : Int) + 1) old) :: (it, io) :: rest) :=
              pickN N8 (by k_mem) (pickN N8 (by k_mem) (pickN N8 (by k_mem) (pickN N8 (by k_mem) (fun p hp => N8 p (.tail _ (.tail _ (.tail _ (.tail _ (.tail _ hp)))))))))
            clear N8
            refine execsM_cons (ForM ?_)
            k_steps
            refine go_on ?_
            refine' forBytesM (ch := [(lf, W.listOf vf.toArray nf)]) (rest := (x, instObj 275 dx) :: (dx, wrO h1 h2 h3 k1 k2 k3 t2 t3 bb held count) :: (bb, baObj b) :: (L' + 1, oS') :: (L' + 1 + 1, oR') :: (e, enO it ((i : Int) + 1) old) :: (it, io) :: rest)
              (BJ_high x ksf ko o ot) rfl ?FB ?NB ?hJB ?hcB ?turnB ?doneB
            case FB => k_asm
            case NB => k_asm
            case hJB => exact ⟨lf, vf, ksf, nf, rfl, kf2, (List.append_nil _).symm, by omega, rfl, rfl, rfl, rfl⟩
            case hcB =>
              intro k m ch hWz p hp
              refine hideG fun Gz hGz => ?_
              obtain ⟨lr2, rs2, R2, nr2, rfl, _⟩ := hWz
              refine hGz ?_
              clear hGz Gz
              rw [List.mem_singleton.mp hp]
              intro e; simp [W.listOf] at e
            case turnB =>
              intro k hk itb iob m ch h tk tb ioc hWz F11 N11 lt11
              refine hideG fun Gz hGz => ?_
              obtain ⟨lr2, rs2, R2, nr2, rfl, j1, j2, j3, j4, j5, j6, j7⟩ := hWz
              refine hGz ?_
              clear hGz Gz
              have hk' : k < ko.length := eo ▸ hk
              have ek : (KBw.bInts o)[k] = ko[k] := by simp only [eo]
              rw [ek] at F11
              obtain ⟨kv, ekv⟩ : ∃ kv, ko[k] = kv := ⟨_, rfl⟩
              have hkv := kin _ (List.getElem_mem hk')
              rw [ekv] at F11 hkv
              refine hideG fun Gz hGz => ?_
              obtain ⟨m5, F12, w1, w2, w3, w4⟩ : ∃ (m5 : PySem.Str → Option Value), Fr g' L' h m5 ∧ m5 (PySem.Str.ofString "writer") = some (.ref x) ∧ m5 (PySem.Str.ofString "is_high") = some (.bool true) ∧ m5 (PySem.Str.ofString "row") = some (.ref lr2) ∧ m5 (PySem.Str.ofString "more") = some (.bytes o ot) ∧ m5 (PySem.Str.ofString "octet") = some (.int kv tb) := ⟨_, F11, j4, j5, j6, j7, rfl⟩
              refine hGz ?_
              clear hGz Gz
              obtain ⟨w4, w5⟩ := w4
              have F13 := fr_k5 F12 w3 w1 w2 w4 w5
              clear F11 F12
              have N13 : News g' L' h ((lr2, W.listOf rs2.toArray nr2) :: (itb, iob) :: (x, instObj 275 dx) :: (dx, wrO h1 h2 h3 k1 k2 k3 t2 t3 bb held count) :: (bb, baObj b) :: (L' + 1, oS') :: (L' + 1 + 1, oR') :: (e, enO it ((i : Int) + 1) old) :: (it, io) :: rest) := N11
              clear N11
              refine execsM_any (hideQ fun Q' hQ' => ?_)
              (k_steps <;> repeat' ((with_reducible refine go_on ?_); (first | (with_reducible (k_here; k_dflt (refine' row_c ?B ?F ?X ?N ?T ?hk ?hd ?hu ?c0 ?c1 ?_; (case B => k_asm); (case F => k_asm); (case X => k_asm); (case N => k_asm); (case T => k_asm); (case hk => first | assumption | exact rfl); (case hd => first | exact n_up (by assumption) (by decide) | ktr_room); (case hu => first | exact n_up (by assumption) (by decide) | ktr_units); (case c0 => omega); (case c1 => omega); k_whole); intro lw vw nw hW tkW rw_ FW NW; (try dsimp only))) | fail); k_steps))
              all_goals (try (refine hQ' _ _ ?_; clear hQ' Q'))
              dsimp only
              refine execsM_nil ?_
              rename_i Dw wsw hW1 hID lD hW2 FD ND
              refine ⟨_, [(Dw, W.listOf wsw.toArray 0)], _, _, rfl, ⟨Dw, wsw, R2 ++ row true kv (8 : Int).toNat, 0, rfl, hID, ?eB, ?lB, rfl, rfl, rfl, rfl⟩, FD, ?NT⟩
              case NT => exact pickN ND (by k_mem) (fun p hp => ND p (.tail _ (.tail _ (.tail _ hp))))
              case lB =>
                rw [List.length_append, row_length]
                have : (8 : Int).toNat = 8 := rfl
                omega
              case eB =>
                rw [j2, List.take_succ_eq_append_getElem hk', bitsH_append, ekv, List.append_assoc]
                simp [bitsH, row]
            case doneB =>
              intro m ch h tk hWz F11 N11
              refine hideG fun Gz hGz => ?_
              obtain ⟨lr2, rs2, R2, nr2, rfl, j1, j2, j3, j4, j5, j6, j7⟩ := hWz
              refine hGz ?_
              clear hGz Gz
              rw [eo, List.take_length] at j2
              have F12 := fr_k4 F11 j6 j4 j5 j7
              clear F11
              have N12 : News g' L' h ((x, instObj 275 dx) :: (dx, wrO h1 h2 h3 k1 k2 k3 t2 t3 bb held count) :: (bb, baObj b) :: (lr2, W.listOf rs2.toArray nr2) :: (L' + 1, oS') :: (L' + 1 + 1, oR') :: (e, enO it ((i : Int) + 1) old) :: (it, io) :: rest) :=
                pickN N11 (by simp) (pickN N11 (by simp) (pickN N11 (by simp) (pickN N11 (by simp) (fun p hp => N11 p (.tail _ (.tail _ (.tail _ (.tail _ hp))))))))
              clear N11
              dsimp only
              refine execsM_cons (IfM ?_)
              k_steps
              have n2d : lr2 ≠ dx := ne_obj N12 (by k_mem) (by k_mem) (fun e => by have z := congrArg Obj.cls e; simp [W.listOf, dictOf] at z)
              have n2b : lr2 ≠ bb := ne_obj N12 (by k_mem) (by k_mem) (fun e => by have z := congrArg Obj.cls e; simp [W.listOf, baObj] at z)
              have rd2 := rdx (lr2, W.listOf rs2.toArray nr2) n2d
              have rb2 := rbx (lr2, W.listOf rs2.toArray nr2) n2b
              refine execsM_cons (ExprM (MethodM ?_))
              k_steps
              refine callWithM_of (P := (Mine.hd.heap_39 w.params).In) rfl (keeps_K (by k_is)) (evalArgsM_nil ?_)
              refine ⟨X'.keeps F12.keep, ?_⟩
              show wpM true _ _ (call (.ref 265) [.ref x]) _ _ _
              k_dflt (refine' align_high ?B ?F ?X ?N ?T ?hk ?hd ?hu x1 x2 x3 rd2 rb2 ?bz i1 i2 i3 i4 ?_; (case B => k_asm); (case F => k_asm); (case X => k_asm); (case N => k_asm); (case T => k_asm); (case hk => first | assumption | exact rfl); (case hd => first | exact n_up (by assumption) (by decide) | ktr_room); (case hu => first | exact n_up (by assumption) (by decide) | ktr_units); (case bz => exact bz); k_whole)
              intro b2 t2' t3' hP tkP p5 p6 FP NP
              refine ⟨rfl, ?_⟩
              dsimp only
              refine execsM_cons (ForM ?_)
              k_steps
              refine go_on ?_
              refine' forBytesM (ch := [(x, instObj 275 dx), (dx, wrO h1 h2 h3 k1 k2 k3 t2' t3' bb 0 0), (bb, baObj b2)]) (rest := (lr2, W.listOf rs2.toArray nr2) :: (L' + 1, oS') :: (L' + 1 + 1, oR') :: (e, enO it ((i : Int) + 1) old) :: (it, io) :: rest)
                (PJ_high x dx bb lr2 h1 h2 h3 k1 k2 k3 b2 ko o ot) rfl ?FQ ?NQ ?hJQ ?hcQ ?turnQ ?doneQ
              case FQ => k_asm
              case NQ => k_asm
              case hJQ => exact ⟨b2, 0, 0, t2', t3', rfl, by decide, by decide, by decide, by decide, by simp, rfl, rfl, rfl, rfl, rfl⟩
              case hcQ =>
                intro k m ch hWz p hp
                refine hideG fun Gz hGz => ?_
                obtain ⟨b', held', count', t2, t3, rfl, _⟩ := hWz
                refine hGz ?_
                clear hGz Gz
                simp only [List.mem_cons, List.not_mem_nil, or_false] at hp
                rcases hp with rfl | rfl | rfl
                · intro e; simp at e
                · intro e; simp [dictOf] at e
                · intro e; simp [baObj] at e
              case turnQ =>
                intro k hk itb iob m ch h tk tb ioc hWz F21 N21 lt21
                refine hideG fun Gz hGz => ?_
                obtain ⟨b', held', count', t2, t3, rfl, q1, q2, q3, q4, q5, q6, w1, w2, w3, w4⟩ := hWz
                refine hGz ?_
                clear hGz Gz
                have hk' : k < ko.length := eo ▸ hk
                have ek : (KBw.bInts o)[k] = ko[k] := by simp only [eo]
                rw [ek] at F21
                obtain ⟨kv, ekv⟩ : ∃ kv, ko[k] = kv := ⟨_, rfl⟩
                have hkv := kin _ (List.getElem_mem hk')
                rw [ekv] at F21 hkv
                obtain ⟨hkv0, hkv1⟩ := hkv
                have hkv2 : kv < 2 ^ (8 : Int).toNat := hkv1
                refine hideG fun Gz hGz => ?_
                obtain ⟨m5, F22, w1, w2, w3, w4, w5⟩ : ∃ (m5 : PySem.Str → Option Value), Fr g' L' h m5 ∧ m5 (PySem.Str.ofString "writer") = some (.ref x) ∧ m5 (PySem.Str.ofString "is_high") = some (.bool true) ∧ m5 (PySem.Str.ofString "row") = some (.ref lr2) ∧ m5 (PySem.Str.ofString "more") = some (.bytes o ot) ∧ m5 (PySem.Str.ofString "octet") = some (.int kv tb) := ⟨_, F21, w1, w2, w3, w4, rfl⟩
                refine hGz ?_
                clear hGz Gz
                have F23 := fr_k5 F22 w3 w1 w2 w4 w5
                clear F21 F22
                have N23 : News g' L' h ((x, instObj 275 dx) :: (dx, wrO h1 h2 h3 k1 k2 k3 t2 t3 bb held' count') :: (bb, baObj b') :: (itb, iob) :: (lr2, W.listOf rs2.toArray nr2) :: (L' + 1, oS') :: (L' + 1 + 1, oR') :: (e, enO it ((i : Int) + 1) old) :: (it, io) :: rest) := N21
                clear N21
                have rd3 : ∀ p ∈ (itb, iob) :: (lr2, W.listOf rs2.toArray nr2) :: (L' + 1, oS') :: (L' + 1 + 1, oR') :: (e, enO it ((i : Int) + 1) old) :: (it, io) :: rest, p.1 ≠ dx := List.forall_mem_cons.mpr ⟨ne_obj N23 (by k_mem) (by k_mem) (fun e => by have z := congrArg Obj.cls e; rw [ioc] at z; simp [dictOf] at z), rd2⟩
                have rb3 : ∀ p ∈ (itb, iob) :: (lr2, W.listOf rs2.toArray nr2) :: (L' + 1, oS') :: (L' + 1 + 1, oR') :: (e, enO it ((i : Int) + 1) old) :: (it, io) :: rest, p.1 ≠ bb := List.forall_mem_cons.mpr ⟨ne_obj N23 (by k_mem) (by k_mem) (fun e => by have z := congrArg Obj.cls e; rw [ioc] at z; simp [baObj] at z), rb2⟩
                have bz' : b'.size ≤ 100000 := by omega
                refine execsM_cons (ExprM (MethodM ?_))
                k_steps
                refine callWithM_of (P := (Mine.hd.heap_39 w.params).In) rfl (keeps_K (by k_is)) ?_
                refine evalArgsM_plain (splicedM_cons (wpR_any ?_))
                rw [if_neg Bool.false_ne_true]
                k_steps
                refine splicedM_cons (wpR_any ?_)
                dsimp only
                rw [if_neg Bool.false_ne_true]
                k_steps
                refine wpR_pure ?_
                refine ⟨X'.keeps F23.keep, ?_⟩
                show wpM true _ _ (call (.ref 258) [.ref x, .int kv _, .int 8 _]) _ _ _
                k_dflt (refine' put_high ?B ?F ?X ?N ?T ?hk ?hd ?hu x1 x2 x3 rd3 rb3 ?bz q1 q2 q3 q4 ?c0 ?c1 hkv0 hkv2 ?_; (case B => k_asm); (case F => k_asm); (case X => k_asm); (case N => k_asm); (case T => k_asm); (case hk => first | assumption | exact rfl); (case hd => first | exact n_up (by assumption) (by decide) | ktr_room); (case hu => first | exact n_up (by assumption) (by decide) | ktr_units); (case bz => exact bz'); (case c0 => decide); (case c1 => decide); k_whole)
                intro b3 held3 count3 t2'' t3'' hP2 tkP2 v1 v2 v3 v4 v5 v6 FP2 NP2
                refine ⟨rfl, ?_⟩
                dsimp only
                refine execsM_nil ?_
                refine ⟨_, [(x, instObj 275 dx), (dx, wrO h1 h2 h3 k1 k2 k3 t2'' t3'' bb held3 count3), (bb, baObj b3)], _, _, rfl, ⟨b3, held3, count3, t2'', t3'', rfl, v1, v2, v3, v4, by omega, ?eQ, rfl, rfl, rfl, rfl⟩, FP2, NP2⟩
                case eQ =>
                  rw [v6, q6, List.take_succ_eq_append_getElem hk', bitsH_append, ekv, List.append_assoc]
                  simp [bitsH]
              case doneQ =>
                intro m ch h tk hWz F21 N21
                refine hideG fun Gz hGz => ?_
                obtain ⟨b', held', count', t2, t3, rfl, q1, q2, q3, q4, q5, q6, w1, w2, w3, w4⟩ := hWz
                refine hGz ?_
                clear hGz Gz
                rw [eo, List.take_length] at q6
                rw [eo] at q5
                dsimp only
                refine execsM_nil ?_
                dsimp only
                refine execsM_nil ?_
                dsimp only
                refine execsM_nil ?_
                have lb : (bitsH ko).length = 8 * ko.length := bits_len true ko
                refine ⟨rfl, _, [(x, instObj 275 dx), (dx, wrO h1 h2 h3 k1 k2 k3 t2 t3 bb held' count'), (bb, baObj b'), (lr2, W.listOf rs2.toArray nr2), (L' + 1, oS'), (L' + 1 + 1, oR')], _, _, rfl, F21, N21, b', held', count', t2, t3, lr2, rs2, R2, nr2, oS', oR', _, rfl, dS', dR2, q1, q2, q3, q4, ?lenO, ?eqO, j1, ?leO, w1, w2, w3⟩
                case lenO => rw [j2, List.length_append, lb, kf1, List.length_append, List.length_replicate]; first | exact n_pad8 i5 osz p5 | omega
                case eqO => rw [q6, j2, kf1, p6, i6, rowH_zero, show (-count % 8).toNat = (-(R.length : Int) % 8).toNat from congrArg Int.toNat (n_neg i5)]
                case leO => rw [j2, List.length_append, lb]; omega
        · refine execsM_any (hideQ fun Q' hQ' => ?_)
          k_steps
          all_goals (try (refine hQ' _ _ ?_; clear hQ' Q'))
          dsimp only
          refine execsM_any (hideQ fun Q' hQ' => ?_)
          k_steps
          all_goals (try (refine hQ' _ _ ?_; clear hQ' Q'))
          dsimp only
          rename_i _ _ _ hlo hhi hV FV NV
          have hpw : (0 : Int) < 1 * 2 ^ ((rr + (i : Int)).fmod 18).toNat := by rw [Int.one_mul]; exact two_pos _
          refine hideG fun Gz hGz => ?_
          obtain ⟨m3, cc, vv, tcc, tvv, F6, y1, y2, y3, y4, y5, c0, c18, v0, v1⟩ : ∃ (m3 : PySem.Str → Option Value) (cc vv : Int) (tcc tvv : Tok), Fr g' L' hV m3 ∧ m3 (PySem.Str.ofString "writer") = some (.ref x) ∧ m3 (PySem.Str.ofString "is_high") = some (.bool true) ∧ m3 (PySem.Str.ofString "row") = some (.ref lr) ∧ m3 (PySem.Str.ofString "count") = some (.int cc tcc) ∧ m3 (PySem.Str.ofString "value") = some (.int vv tvv) ∧ 0 ≤ cc ∧ cc < 18 ∧ 0 ≤ vv ∧ vv < 2 ^ cc.toNat :=
            ⟨_, _, _, _, _, FV, rfl, rfl, rfl, rfl, rfl, hlo, hhi, Int.fmod_nonneg_of_pos _ hpw, by have z := Int.fmod_lt_of_pos (rr.fdiv 18 + 977 * (i : Int)) hpw; rw [Int.one_mul] at z ⊢; exact z⟩
          refine hGz ?_
          clear hGz Gz
          clear FV hpw hlo hhi
          have F7 := fr_k5 F6 y3 y1 y2 y4 y5
          clear F6
          refine execsM_cons (ExprM (MethodM ?_))
          k_steps
          refine callWithM_of (P := (Mine.hd.heap_39 w.params).In) rfl (keeps_K (by k_is)) ?_
          refine evalArgsM_plain (splicedM_cons (wpR_any ?_))
          rw [if_neg Bool.false_ne_true]
          k_steps
          refine splicedM_cons (wpR_any ?_)
          dsimp only
          rw [if_neg Bool.false_ne_true]
          k_steps
          refine wpR_pure ?_
          refine ⟨X'.keeps F7.keep, ?_⟩
          show wpM true _ _ (call (.ref 258) [.ref x, .int vv _, .int cc _]) _ _ _
          k_dflt (refine' put_high ?B ?F ?X ?N ?T ?hk ?hd ?hu x1 x2 x3 rd rb ?bz i1 i2 i3 i4 c0 ?c1 v0 v1 ?_; (case B => k_asm); (case F => k_asm); (case X => k_asm); (case N => k_asm); (case T => k_asm); (case hk => first | assumption | exact rfl); (case hd => first | exact n_up (by assumption) (by decide) | ktr_room); (case hu => first | exact n_up (by assumption) (by decide) | ktr_units); (case bz => exact bz); (case c1 => omega); k_whole)
          intro b2 held2 count2 t2' t3' hP tkP p1 p2 p3 p4 p5 p6 FP NP
          refine ⟨rfl, ?_⟩
          dsimp only
          refine execsM_any (hideQ fun Q' hQ' => ?_)
          (k_steps <;> repeat' ((with_reducible refine go_on ?_); (first | (with_reducible (k_here; k_dflt (refine' row_c ?B ?F ?X ?N ?T ?hk ?hd ?hu ?c0 ?c1 ?_; (case B => k_asm); (case F => k_asm); (case X => k_asm); (case N => k_asm); (case T => k_asm); (case hk => first | assumption | exact rfl); (case hd => first | exact n_up (by assumption) (by decide) | ktr_room); (case hu => first | exact n_up (by assumption) (by decide) | ktr_units); (case c0 => omega); (case c1 => omega); k_whole); intro lw vw nw hW tkW rw_ FW NW; (try dsimp only))) | fail); k_steps))
          all_goals (try (refine hQ' _ _ ?_; clear hQ' Q'))
          dsimp only
          refine execsM_nil ?_
          dsimp only
          refine execsM_nil ?_
          rename_i Dw wsw hW1 hID lD hW2 FD ND
          refine ⟨rfl, _, [(x, instObj 275 dx), (dx, wrO h1 h2 h3 k1 k2 k3 t2' t3' bb held2 count2), (bb, baObj b2), (Dw, W.listOf wsw.toArray 0), (L' + 1, oS'), (L' + 1 + 1, oR')], _, _, rfl, FD, ?N, b2, held2, count2, t2', t3', Dw, wsw, R ++ row true vv cc.toNat, 0, oS', oR', _, rfl, dS', dR2, p1, p2, p3, p4, ?len, ?eq, hID, ?le, rfl, rfl, rfl⟩
          case N => exact pickN ND (by k_mem) (pickN ND (by k_mem) (pickN ND (by k_mem) (pickN ND (by k_mem) (pickN ND (by k_mem) (pickN ND (by k_mem) (fun p hp => ND p (.tail _ (.tail _ (.tail _ (.tail _ (.tail _ (.tail _ (.tail _ (.tail _ hp)))))))))))))) 
          case len => rw [List.length_append, row_length]; first | exact n_app i5 p5 c0 | omega
          case eq => rw [p6, i6]; rfl
          case le => rw [List.length_append, row_length]; first | exact n_grow i8 c18 | omega
  case done =>
    intro m ch h tk hWz F3 N3
    refine hideG fun Gz hGz => ?_
    obtain ⟨vS, b, held, count, t2, t3, lr, rs, R, nr, oS, oR, vR, rfl, dS, dR, i1, i2, i3, i4, i5, i6, i7, i8, w1, w2, w3⟩ := hWz
    refine hGz ?_
    clear hGz Gz
    have F4 := fr_k3 F3 w3 w1 w2
    clear F3 w1 w2 w3 NE2 FE2 FE NE' nE nI
    dsimp only
    refine execsM_cons (ForM ?_)
    k_steps
    rename_i d4 hd4 ld4 d3 hd3 ld3 d2 hd2 ld2 d1 hd1 ld1 dA hdA FA NA lA
    simp only [List.cons_append, List.nil_append] at NA
    refine hideG fun Gz hGz => ?_
    obtain ⟨u1, u2, u3, u4, u5, u6, u7, u8, N0⟩ : ∃ u1 u2 u3 u4 u5 u6 u7 u8 : Tok, News g' L' hdA ((x, instObj 275 dx) :: (dx, wrO h1 h2 h3 k1 k2 k3 t2 t3 bb held count) :: (bb, baObj b) :: (lr, W.listOf rs.toArray nr) :: (L' + 1, oS) :: (L' + 1 + 1, oR) :: (dA, tupO #[.ref d4, .ref d3, .ref d2, .ref d1]) :: (d4, tupO #[.int (1 * 2 ^ (3 : Int).toNat) u1, .int 3 u2]) :: (d3, tupO #[.int (-1) u3, .int 4 u4]) :: (d2, tupO #[.int 0 u5, .int (-1) u6]) :: (d1, tupO #[.int 1 u7, .int 0 u8]) :: rest) :=
      ⟨_, _, _, _, _, _, _, _, pickN NA (by k_mem) (pickN NA (by k_mem) (pickN NA (by k_mem) (pickN NA (by k_mem) (pickN NA (by k_mem) (pickN NA (by k_mem) (pickN NA (.head _) (pickN NA (.tail _ (.tail _ (.tail _ (.tail _ (.head _))))) (pickN NA (.tail _ (.tail _ (.tail _ (.head _)))) (pickN NA (.tail _ (.tail _ (.head _))) (pickN NA (.tail _ (.head _)) (fun p hp => NA p (.tail _ (.tail _ (.tail _ (.tail _ (.tail _ (.tail _ (.tail _ (.tail _ (.tail _ (.tail _ (.tail _ hp))))))))))))))))))))))⟩
    refine hGz ?_
    clear hGz Gz
    clear NA ld4 ld3 ld2 ld1 lA
    refine hideG fun Gz hGz => ?_
    obtain ⟨l1a, l1b, l1c, _⟩ := l1
    refine hGz ?_
    clear hGz Gz
    have rdt : ∀ p ∈ (lr, W.listOf rs.toArray nr) :: (L' + 1, oS) :: (L' + 1 + 1, oR) :: (dA, tupO #[.ref d4, .ref d3, .ref d2, .ref d1]) :: (d4, tupO #[.int (1 * 2 ^ (3 : Int).toNat) u1, .int 3 u2]) :: (d3, tupO #[.int (-1) u3, .int 4 u4]) :: (d2, tupO #[.int 0 u5, .int (-1) u6]) :: (d1, tupO #[.int 1 u7, .int 0 u8]) :: rest, p.1 ≠ dx := fun p hp => by
      simp only [List.mem_cons] at hp
      rcases hp with rfl | rfl | rfl | rfl | rfl | rfl | rfl | rfl | hp
      · exact ne_obj N0 (by k_mem) (by k_mem) (fun e => by have z := congrArg Obj.cls e; simp [W.listOf, dictOf, baObj] at z)
      · exact Nat.ne_of_gt (Nat.lt_succ_of_lt l1b)
      · exact Nat.ne_of_gt (Nat.lt_succ_of_lt (Nat.lt_succ_of_lt l1b))
      · exact ne_obj N0 (by k_mem) (by k_mem) (fun e => by have z := congrArg Obj.cls e; simp [dictOf, baObj] at z)
      · exact ne_obj N0 (by k_mem) (by k_mem) (fun e => by have z := congrArg Obj.cls e; simp [dictOf, baObj] at z)
      · exact ne_obj N0 (by k_mem) (by k_mem) (fun e => by have z := congrArg Obj.cls e; simp [dictOf, baObj] at z)
      · exact ne_obj N0 (by k_mem) (by k_mem) (fun e => by have z := congrArg Obj.cls e; simp [dictOf, baObj] at z)
      · exact ne_obj N0 (by k_mem) (by k_mem) (fun e => by have z := congrArg Obj.cls e; simp [dictOf, baObj] at z)
      · exact r1 p hp
    have rbt : ∀ p ∈ (lr, W.listOf rs.toArray nr) :: (L' + 1, oS) :: (L' + 1 + 1, oR) :: (dA, tupO #[.ref d4, .ref d3, .ref d2, .ref d1]) :: (d4, tupO #[.int (1 * 2 ^ (3 : Int).toNat) u1, .int 3 u2]) :: (d3, tupO #[.int (-1) u3, .int 4 u4]) :: (d2, tupO #[.int 0 u5, .int (-1) u6]) :: (d1, tupO #[.int 1 u7, .int 0 u8]) :: rest, p.1 ≠ bb := fun p hp => by
      simp only [List.mem_cons] at hp
      rcases hp with rfl | rfl | rfl | rfl | rfl | rfl | rfl | rfl | hp
      · exact ne_obj N0 (by k_mem) (by k_mem) (fun e => by have z := congrArg Obj.cls e; simp [W.listOf, dictOf, baObj] at z)
      · exact Nat.ne_of_gt (Nat.lt_succ_of_lt l1c)
      · exact Nat.ne_of_gt (Nat.lt_succ_of_lt (Nat.lt_succ_of_lt l1c))
      · exact ne_obj N0 (by k_mem) (by k_mem) (fun e => by have z := congrArg Obj.cls e; simp [dictOf, baObj] at z)
      · exact ne_obj N0 (by k_mem) (by k_mem) (fun e => by have z := congrArg Obj.cls e; simp [dictOf, baObj] at z)
      · exact ne_obj N0 (by k_mem) (by k_mem) (fun e => by have z := congrArg Obj.cls e; simp [dictOf, baObj] at z)
      · exact ne_obj N0 (by k_mem) (by k_mem) (fun e => by have z := congrArg Obj.cls e; simp [dictOf, baObj] at z)
      · exact ne_obj N0 (by k_mem) (by k_mem) (fun e => by have z := congrArg Obj.cls e; simp [dictOf, baObj] at z)
      · exact r2 p hp
    have hvl := hv.length
    have bz : b.size ≤ 100000 := by first | exact n_bz i3 i5 i8 (Nat.le_of_lt hi25) | exact n_bz i3 i5 i8 hi25 | exact n_bz i3 i5 i8 (hvl ▸ hn) | omega
    have hbR : Bits R := i6 ▸ bits_app (bits_bitsH _) (bits_rowH5 _ _)
    have hw : octsOf true (filled R) = KBw.bInts b ++ (if count = 0 then [] else [held * 2 ^ (8 - count).toNat]) := i6 ▸ writer_high (B := KBw.bInts b) (fun k hk => KBw.ints_in hk) i1 i2 i3 i4
    refine' forTupT (tA := dA) (ts := [d4, d3, d2, d1]) (tn := 0) (rest := (x, instObj 275 dx) :: (dx, wrO h1 h2 h3 k1 k2 k3 t2 t3 bb held count) :: (bb, baObj b) :: (lr, W.listOf rs.toArray nr) :: (L' + 1, oS) :: (L' + 1 + 1, oR) :: (dA, tupO #[.ref d4, .ref d3, .ref d2, .ref d1]) :: (d4, tupO #[.int (1 * 2 ^ (3 : Int).toNat) u1, .int 3 u2]) :: (d3, tupO #[.int (-1) u3, .int 4 u4]) :: (d2, tupO #[.int 0 u5, .int (-1) u6]) :: (d1, tupO #[.int 1 u7, .int 0 u8]) :: rest)
      (fun _ g m => TJ w p loose mean mg mb (ktrTop dp un gd cn cs L a ccd cl outer) base (envX cn cs L a ccd cl :: outer) g' x lr true g m) rfl FA N0 ?hmT ⟨KtsTurn.refl, B', X', T', D', rfl, rfl, rfl⟩ ?turnT ?doneT
    case hmT => exact .tail _ (.tail _ (.tail _ (.tail _ (.tail _ (.tail _ (.head _))))))
    case turnT =>
      clear B' X' T' D' FG'
      intro i hi' it io g m h tk hWz F5 N5 lt5
      refine hideG fun Gz hGz => ?_
      obtain ⟨kT, kB, kX, kP, kD, w1, w2, w3⟩ := hWz
      refine hGz ?_
      clear hGz Gz
      have N6 : News g L' h ((x, instObj 275 dx) :: (dx, wrO h1 h2 h3 k1 k2 k3 t2 t3 bb held count) :: (bb, baObj b) :: (it, io) :: (lr, W.listOf rs.toArray nr) :: (L' + 1, oS) :: (L' + 1 + 1, oR) :: (dA, tupO #[.ref d4, .ref d3, .ref d2, .ref d1]) :: (d4, tupO #[.int (1 * 2 ^ (3 : Int).toNat) u1, .int 3 u2]) :: (d3, tupO #[.int (-1) u3, .int 4 u4]) :: (d2, tupO #[.int 0 u5, .int (-1) u6]) :: (d1, tupO #[.int 1 u7, .int 0 u8]) :: rest) := pickN N5 (by k_mem) (pickN N5 (by k_mem) (pickN N5 (by k_mem) (pickN N5 (by k_mem) (fun p hp => N5 p (.tail _ (.tail _ (.tail _ (.tail _ hp))))))))
      have rd : ∀ p ∈ (it, io) :: (lr, W.listOf rs.toArray nr) :: (L' + 1, oS) :: (L' + 1 + 1, oR) :: (dA, tupO #[.ref d4, .ref d3, .ref d2, .ref d1]) :: (d4, tupO #[.int (1 * 2 ^ (3 : Int).toNat) u1, .int 3 u2]) :: (d3, tupO #[.int (-1) u3, .int 4 u4]) :: (d2, tupO #[.int 0 u5, .int (-1) u6]) :: (d1, tupO #[.int 1 u7, .int 0 u8]) :: rest, p.1 ≠ dx := List.forall_mem_cons.mpr ⟨Nat.ne_of_gt (lt5 _ (.tail _ (.head _))), rdt⟩
      have rb : ∀ p ∈ (it, io) :: (lr, W.listOf rs.toArray nr) :: (L' + 1, oS) :: (L' + 1 + 1, oR) :: (dA, tupO #[.ref d4, .ref d3, .ref d2, .ref d1]) :: (d4, tupO #[.int (1 * 2 ^ (3 : Int).toNat) u1, .int 3 u2]) :: (d3, tupO #[.int (-1) u3, .int 4 u4]) :: (d2, tupO #[.int 0 u5, .int (-1) u6]) :: (d1, tupO #[.int 1 u7, .int 0 u8]) :: rest, p.1 ≠ bb := List.forall_mem_cons.mpr ⟨Nat.ne_of_gt (lt5 _ (.tail _ (.tail _ (.head _)))), rbt⟩
      clear N5 lt5
      have F6 := fr_k3 F5 w3 w1 w2
      clear F5 w1 w2 w3
      have hi4 : i < 4 := hi'
      rcases n_i4 hi4 with rfl | rfl | rfl | rfl
      · have e : ([d4, d3, d2, d1] : List Addr)[0]'hi' = d4 := rfl
        rw [e]
        k_steps
        refine execsM_any (hideQ fun Q' hQ' => ?_)
        (k_steps <;> repeat' ((with_reducible refine go_on ?_); (first | (with_reducible (k_here; k_dflt (refine' refuses_high ?B ?F ?X ?N ?T ?hk ?hd ?hu XB TB ?D x1 x2 x3 rd rb bz i1 i2 i3 i4 ?hc ?hno ?_; (case B => k_asm); (case F => k_asm); (case X => k_asm); (case N => k_asm); (case T => k_asm); (case hk => first | assumption | exact rfl); (case hd => first | exact n_up (by assumption) (by decide) | ktr_room); (case hu => first | exact n_up (by assumption) (by decide) | ktr_units); (case D => assumption); (case hc => omega); (case hno => decide); k_whole); intro gR hR tkR kT2 FR NR kB2 kX2 kP2 kD2; (try dsimp only))) | fail); k_steps))
        all_goals (try (refine hQ' _ _ ?_; clear hQ' Q'))
        dsimp only
        refine execsM_nil ?_
        exact ⟨_, _, _, _, rfl, ⟨kT.trans kT2, kB2, kX2, kP2, kD2, rfl, rfl, rfl⟩, FR, pickN NR (by k_mem) (pickN NR (.head _) (pickN NR (by k_mem) (pickN NR (by k_mem) (fun p hp => NR p (.tail _ (.tail _ (.tail _ (.tail _ hp))))))))⟩
      · have e : ([d4, d3, d2, d1] : List Addr)[1]'hi' = d3 := rfl
        rw [e]
        k_steps
        refine execsM_any (hideQ fun Q' hQ' => ?_)
        (k_steps <;> repeat' ((with_reducible refine go_on ?_); (first | (with_reducible (k_here; k_dflt (refine' refuses_high ?B ?F ?X ?N ?T ?hk ?hd ?hu XB TB ?D x1 x2 x3 rd rb bz i1 i2 i3 i4 ?hc ?hno ?_; (case B => k_asm); (case F => k_asm); (case X => k_asm); (case N => k_asm); (case T => k_asm); (case hk => first | assumption | exact rfl); (case hd => first | exact n_up (by assumption) (by decide) | ktr_room); (case hu => first | exact n_up (by assumption) (by decide) | ktr_units); (case D => assumption); (case hc => omega); (case hno => decide); k_whole); intro gR hR tkR kT2 FR NR kB2 kX2 kP2 kD2; (try dsimp only))) | fail); k_steps))
        all_goals (try (refine hQ' _ _ ?_; clear hQ' Q'))
        dsimp only
        refine execsM_nil ?_
        exact ⟨_, _, _, _, rfl, ⟨kT.trans kT2, kB2, kX2, kP2, kD2, rfl, rfl, rfl⟩, FR, pickN NR (by k_mem) (pickN NR (.head _) (pickN NR (by k_mem) (pickN NR (by k_mem) (fun p hp => NR p (.tail _ (.tail _ (.tail _ (.tail _ hp))))))))⟩
      · have e : ([d4, d3, d2, d1] : List Addr)[2]'hi' = d2 := rfl
        rw [e]
        k_steps
        refine execsM_any (hideQ fun Q' hQ' => ?_)
        (k_steps <;> repeat' ((with_reducible refine go_on ?_); (first | (with_reducible (k_here; k_dflt (refine' refuses_high ?B ?F ?X ?N ?T ?hk ?hd ?hu XB TB ?D x1 x2 x3 rd rb bz i1 i2 i3 i4 ?hc ?hno ?_; (case B => k_asm); (case F => k_asm); (case X => k_asm); (case N => k_asm); (case T => k_asm); (case hk => first | assumption | exact rfl); (case hd => first | exact n_up (by assumption) (by decide) | ktr_room); (case hu => first | exact n_up (by assumption) (by decide) | ktr_units); (case D => assumption); (case hc => omega); (case hno => decide); k_whole); intro gR hR tkR kT2 FR NR kB2 kX2 kP2 kD2; (try dsimp only))) | fail); k_steps))
        all_goals (try (refine hQ' _ _ ?_; clear hQ' Q'))
        dsimp only
        refine execsM_nil ?_
        exact ⟨_, _, _, _, rfl, ⟨kT.trans kT2, kB2, kX2, kP2, kD2, rfl, rfl, rfl⟩, FR, pickN NR (by k_mem) (pickN NR (.head _) (pickN NR (by k_mem) (pickN NR (by k_mem) (fun p hp => NR p (.tail _ (.tail _ (.tail _ (.tail _ hp))))))))⟩
      · have e : ([d4, d3, d2, d1] : List Addr)[3]'hi' = d1 := rfl
        rw [e]
        k_steps
        refine execsM_any (hideQ fun Q' hQ' => ?_)
        (k_steps <;> repeat' ((with_reducible refine go_on ?_); (first | (with_reducible (k_here; k_dflt (refine' refuses_high ?B ?F ?X ?N ?T ?hk ?hd ?hu XB TB ?D x1 x2 x3 rd rb bz i1 i2 i3 i4 ?hc ?hno ?_; (case B => k_asm); (case F => k_asm); (case X => k_asm); (case N => k_asm); (case T => k_asm); (case hk => first | assumption | exact rfl); (case hd => first | exact n_up (by assumption) (by decide) | ktr_room); (case hu => first | exact n_up (by assumption) (by decide) | ktr_units); (case D => assumption); (case hc => omega); (case hno => decide); k_whole); intro gR hR tkR kT2 FR NR kB2 kX2 kP2 kD2; (try dsimp only))) | fail); k_steps))
        all_goals (try (refine hQ' _ _ ?_; clear hQ' Q'))
        dsimp only
        refine execsM_nil ?_
        exact ⟨_, _, _, _, rfl, ⟨kT.trans kT2, kB2, kX2, kP2, kD2, rfl, rfl, rfl⟩, FR, pickN NR (by k_mem) (pickN NR (.head _) (pickN NR (by k_mem) (pickN NR (by k_mem) (fun p hp => NR p (.tail _ (.tail _ (.tail _ (.tail _ hp))))))))⟩
    case doneT =>
      clear B' X' T' D' FG'
      intro g m h tk hWz F5 N5
      refine hideG fun Gz hGz => ?_
      obtain ⟨kT, kB, kX, kP, kD, w1, w2, w3⟩ := hWz
      refine hGz ?_
      clear hGz Gz
      have F6 := fr_k3 F5 w3 w1 w2
      clear F5 w1 w2 w3
      have rd := rdt
      have rb := rbt
      dsimp only
      refine execsM_any (hideQ fun Q' hQ' => ?_)
      (k_steps <;> repeat' ((with_reducible refine go_on ?_); (first | (with_reducible (k_here; k_dflt (refine' octets_m ?B ?F ?X ?N ?hm ?T ?hk ?hd ?hu ?hv ?hn ?hb ?_; (case B => k_asm); (case F => k_asm); (case X => k_asm); (case N => k_asm); (case T => k_asm); (case hk => first | assumption | exact rfl); (case hd => first | exact n_up (by assumption) (by decide) | ktr_room); (case hu => first | exact n_up (by assumption) (by decide) | ktr_units); (case hm => k_mem); (case hv => assumption); (case hn => omega); (case hb => assumption); k_whole); intro oM tM hM2 tkM eM FM2 NM2; (try dsimp only))) | (with_reducible (k_here; k_dflt (refine' octs_high ?B ?F ?X ?N ?T ?hk ?hd ?hu x1 x2 x3 rd rb bz i1 i2 i3 i4 ?_; (case B => k_asm); (case F => k_asm); (case X => k_asm); (case N => k_asm); (case T => k_asm); (case hk => first | assumption | exact rfl); (case hd => first | exact n_up (by assumption) (by decide) | ktr_room); (case hu => first | exact n_up (by assumption) (by decide) | ktr_units); k_whole); intro oO tO hO tkO eO FO NO; (try dsimp only))) | fail); k_steps))
      all_goals (try (refine hQ' _ _ ?_; clear hQ' Q'))
      · refine' leaveT_ ?F ?N ?T fun h₀' kT' kF' kN' kB' kX' kP' kD' => ?_
        case F => k_asm
        case N => k_asm
        case T => exact kT
        exact ret h₀' lr rs R nr _ _ kT' i7 hbR (by omega) kF' (pickN kN' (by k_mem) (fun p hp => kN' p (.tail _ (.tail _ (.tail _ (.tail _ (.tail _ (.tail _ (.tail _ (.tail _ (.tail _ (.tail _ (.tail _ hp))))))))))))) kB' kX' kP' kD'
      · rename_i hne
        obtain rfl : oO = oM := bInts_inj (eO.trans (eM.trans hw).symm)
        simp at hne
end
end
section -- C3
set_option maxRecDepth 100000
set_option maxHeartbeats 8000000
set_option linter.unusedVariables false

local macro_rules | `(tactic| walk_at "exec While Compare cons nil") => `(tactic| refine of_stop ?_)

inductive TI_low (s : Shared) (g' : Heap) (L' x dx : Addr) (rest : List (Addr × Obj)) (c : Int) (tc : Tok) (h1 h2 h3 h4 : Int) (k1 k2 k3 k4 t0 : Tok) (D : Array UInt8) (ks : List Int) (at_ held count : Int) (n : Nat) (s' : Shared) : Prop
  | mk (h' : Heap) (tk : Nat) (at' held' count' : Int) (t1 t2 t3 : Tok) (q0 : s' = { s with heap := h', toks := tk }) (q1 : n = (c + 8 - count').toNat) (q2 : (0 ≤ at' ∧ at' ≤ ks.length ∧ 0 ≤ held' ∧ held' < 2 ^ count'.toNat ∧ 0 ≤ count' ∧ count' < c + 8 ∧ count' + 8 * ((ks.length : Int) - at') = count + 8 * ((ks.length : Int) - at_) ∧
      rowL held count.toNat ++ bitsL (ks.drop at_.toNat) = rowL held' count'.toNat ++ bitsL (ks.drop at'.toNat))) (q3 : Fr g' L' h' (fun y => List.lookup y [(PySem.Str.ofString "count", Value.int c tc), (PySem.Str.ofString "self", Value.ref x)])) (q4 : News g' L' h' ((x, instObj 135 dx) :: (dx, rdO h1 h2 h3 h4 k1 k2 k3 k4 t0 t1 t2 t3 D at' held' count') :: rest)) : TI_low s g' L' x dx rest c tc h1 h2 h3 h4 k1 k2 k3 k4 t0 D ks at_ held count n s'
section
variable {w : World} {p : Program} {loose : List PySem.Str} {mean : ExcName → Option Value} {mg mb : PySem.Str → Option Value}
  {dp un : Nat} {gd : Option (List Code)} {cn : PySem.Str} {cs : Scope} {a : Addr} {ccd : Value} {cl : List (PySem.Str × Addr)} {outer : List Env} {A₀ : Around} {base h₀ : Heap} {L : Addr} {m : PySem.Str → Option Value} {rest : List (Addr × Obj)} {s : Shared} {Q E : Value → Shared → Prop}
  {h1 h2 h3 h4 : Int} {k1 k2 k3 k4 t0 t1 t2 t3 : Tok} {D : Array UInt8} {at_ held count : Int} {x dx : Addr} {ks : List Int}

theorem take_ok {c : Int} {tc : Tok} (B : Below A₀ base outer h₀) (F : Fr h₀ L s.heap m) (X : (Mine.hd.heap_39 w.params).In h₀) (N : News h₀ L s.heap ((x, instObj 135 dx) :: (dx, rdO h1 h2 h3 h4 k1 k2 k3 k4 t0 t1 t2 t3 D at_ held count) :: rest)) (T : Top p loose mean mg mb h₀) (hk : cs.kind = .function)
    (hd : dp + 16 < recursionLimit) (hu : un + 300 < cLine) (hD : KBw.bInts D = ks) (hks : ks.length ≤ 4096) (hxd : x ≠ dx) (hr : ∀ p ∈ rest, p.1 ≠ dx) (hc : c ≤ count + 8 * ((ks.length : Int) - at_))
    (a0 : 0 ≤ at_) (a1 : at_ ≤ ks.length) (h0 : 0 ≤ held) (hh : held < 2 ^ count.toNat) (c0 : 0 ≤ count) (c8 : count < 8) (cc0 : 0 ≤ c) (cc1 : c ≤ 40)
    (ret : ∀ (v at' held' count' : Int) t t1 t2 t3 h' tk, 0 ≤ at' → at' ≤ ks.length → 0 ≤ held' → held' < 2 ^ count'.toNat → 0 ≤ count' → count' < 8 → count' + 8 * ((ks.length : Int) - at') = count + 8 * ((ks.length : Int) - at_) - c →
      rowL held count.toNat ++ bitsL (ks.drop at_.toNat) = rowL v c.toNat ++ (rowL held' count'.toNat ++ bitsL (ks.drop at'.toNat)) → 0 ≤ v → v < 2 ^ c.toNat →
      Fr h₀ L h' m → News h₀ L h' ((x, instObj 135 dx) :: (dx, rdO h1 h2 h3 h4 k1 k2 k3 k4 t0 t1 t2 t3 D at' held' count') :: rest) → Q (.int v t) { s with heap := h', toks := tk }) :
    wpAny (model Challenge.rw_nn0201_01.row.prog w) (ktrTop dp un gd cn cs L a ccd cl outer) (call (.ref 118) [.ref x, .int c tc]) Q E s := by
  refine wpAny_call ?_
  k_dflt (refine' code_def ?k1 ?k2 ?k3 ?k4 ?k5 ?kA ?kF ?kK ?k6 ?k7 ?k8 ?k9 ?kB ?_ ?c2 ?c3 ?c4 ?c5; (case kA => exact rfl); (case kF => exact rfl); (case kK => assumption); (case k1 => k_asm); (case k2 => k_asm); (case k3 => k_asm); (case k4 => k_asm); (case k5 => k_asm); (case k6 => k_is); (case k7 => k_is); (case k8 => ktr_room); (case k9 => first | exact BindsTo.of_eq rfl | exact binds_K (by k_in) rfl (by k_is) rfl rfl rfl); (case c5 => decide); (case kB => exact locs rfl); (case c2 => exact rfl); (case c3 => exact rfl); (case c4 => exact rfl); k_whole; intro g' L' h' FG' F' N' B' X' T'; (try dsimp only); (try k_lift B'); (try k_fold))
  (k_steps <;> repeat' ((with_reducible refine go_on ?_); (first | (with_reducible (k_here; k_dflt (refine' need_ok ?B ?F ?X ?N ?T ?hk ?hd ?hu ?hD ?hks ?hxd ?hr ?hc ?_; (case B => k_asm); (case F => k_asm); (case X => k_asm); (case N => k_asm); (case T => k_asm); (case hk => first | assumption | exact rfl); (case hd => first | exact n_up (by assumption) (by decide) | ktr_room); (case hu => first | exact n_up (by assumption) (by decide) | ktr_units); (case hD => assumption); (case hks => assumption); (case hxd => assumption); (case hr => assumption); (case hc => omega); k_whole); intro hN tkN FN NN)) | fail); k_steps))
  refine go_on ?_
  refine' WhileAny (TI_low s g' L' x dx rest c tc h1 h2 h3 h4 k1 k2 k3 k4 t0 D ks at_ held count) (c + 8 - count).toNat ?init ?turn
  case init => exact ⟨hN, _, at_, held, count, t1, t2, t3, rfl, rfl, ⟨a0, a1, h0, hh, c0, by omega, rfl, rfl⟩, FN, NN⟩
  case turn =>
    intro n s' hWz
    refine hideG fun Gz hGz => ?_
    obtain ⟨h', tk, at', held', count', t1, t2, t3, rfl, rfl, ⟨i1, i2, i3, i4, i5, i6, i7, i8⟩, F2, N2⟩ := hWz
    refine hGz ?_
    clear hGz Gz
    (k_steps <;> repeat' ((with_reducible refine go_on ?_); (first | (with_reducible (k_here; k_dflt (refine' low_bits_c ?B ?F ?X ?N ?T ?hk ?hd ?hu ?h0 ?h1 ?h2 ?_; (case B => k_asm); (case F => k_asm); (case X => k_asm); (case N => k_asm); (case T => k_asm); (case hk => first | assumption | exact rfl); (case hd => first | exact n_up (by assumption) (by decide) | ktr_room); (case hu => first | exact n_up (by assumption) (by decide) | ktr_units); (case h0 => omega); (case h1 => omega); (case h2 => omega); k_whole); intro tL hL tkL FL NL)) | fail); k_steps))
    · refine' turned_ ?lt ⟨_, _, _, _, _, _, _, _, rfl, rfl, ?facts, ?F, ?N⟩
      case N => assumption
      case F => assumption
      case lt => omega
      have z := stepL (ks := ks) i1 (by omega) i3 i4 i5 (by assumption) (by assumption)
      exact ⟨by omega, by omega, z.1, z.2.1, by omega, by omega, by omega, i8.trans z.2.2⟩
    · have z := cutL (c := c) i3 i4 cc0 (by omega)
      refine' ret _ _ _ _ _ _ _ _ _ _ ?_ ?_ ?_ ?_ ?_ ?_ ?_ ?_ ?_ ?_ ?F ?N
      case N => k_asm
      case F => k_asm
      · exact i1
      · exact i2
      · exact z.2.2.1
      · exact z.2.2.2.1
      · omega
      · omega
      · omega
      · rw [i8, z.2.2.2.2, List.append_assoc]
      · exact z.1
      · exact z.2.1

theorem take_no {c : Int} {tc : Tok} (B : Below A₀ base outer h₀) (F : Fr h₀ L s.heap m) (X : (Mine.hd.heap_39 w.params).In h₀) (N : News h₀ L s.heap ((x, instObj 135 dx) :: (dx, rdO h1 h2 h3 h4 k1 k2 k3 k4 t0 t1 t2 t3 D at_ held count) :: rest)) (T : Top p loose mean mg mb h₀) (hk : cs.kind = .function)
    (hd : dp + 16 < recursionLimit) (hu : un + 300 < cLine) (hD : KBw.bInts D = ks) (hks : ks.length ≤ 4096) (hxd : x ≠ dx) (hr : ∀ p ∈ rest, p.1 ≠ dx) (hc : ¬ c ≤ count + 8 * ((ks.length : Int) - at_))
    (raise : ∀ g e h' tk, Fr h₀ L g m → RaisedSN base g (envX cn cs L a ccd cl :: outer) e (.ref 59) ((x, instObj 135 dx) :: (dx, rdO h1 h2 h3 h4 k1 k2 k3 k4 t0 t1 t2 t3 D at_ held count) :: rest) h' → g.UpToSlots h' → E (.ref e) { s with heap := h', toks := tk }) :
    wpAny (model Challenge.rw_nn0201_01.row.prog w) (ktrTop dp un gd cn cs L a ccd cl outer) (call (.ref 118) [.ref x, .int c tc]) Q E s := by
  refine wpAny_call ?_
  k_dflt (refine' code_def ?k1 ?k2 ?k3 ?k4 ?k5 ?kA ?kF ?kK ?k6 ?k7 ?k8 ?k9 ?kB ?_ ?c2 ?c3 ?c4 ?c5; (case kA => exact rfl); (case kF => exact rfl); (case kK => assumption); (case k1 => k_asm); (case k2 => k_asm); (case k3 => k_asm); (case k4 => k_asm); (case k5 => k_asm); (case k6 => k_is); (case k7 => k_is); (case k8 => ktr_room); (case k9 => first | exact BindsTo.of_eq rfl | exact binds_K (by k_in) rfl (by k_is) rfl rfl rfl); (case c5 => decide); (case kB => exact locs rfl); (case c2 => exact rfl); (case c3 => exact rfl); (case c4 => exact rfl); k_whole; intro g' L' h' FG' F' N' B' X' T'; (try dsimp only); (try k_lift B'); (try k_fold))
  (k_steps <;> repeat' ((with_reducible refine go_on ?_); (first | (with_reducible (k_here; k_dflt (refine' need_no ?B ?F ?X ?N ?T ?hk ?hd ?hu ?hD ?hks ?hxd ?hr ?hc ?_; (case B => k_asm); (case F => k_asm); (case X => k_asm); (case N => k_asm); (case T => k_asm); (case hk => first | assumption | exact rfl); (case hd => first | exact n_up (by assumption) (by decide) | ktr_room); (case hu => first | exact n_up (by assumption) (by decide) | ktr_units); (case hD => assumption); (case hks => assumption); (case hxd => assumption); (case hr => assumption); (case hc => omega); k_whole); intro gN eN hN tkN FgN RN UN; refine' leave_onSN (by assumption) FgN RN UN ?_; intro h'' R' R1' U')) | fail); k_steps))
  refine' raise _ _ _ _ ?_ (by assumption) (by assumption) <;> assumption

theorem align_c (B : Below A₀ base outer h₀) (F : Fr h₀ L s.heap m) (X : (Mine.hd.heap_39 w.params).In h₀) (N : News h₀ L s.heap ((x, instObj 135 dx) :: (dx, rdO h1 h2 h3 h4 k1 k2 k3 k4 t0 t1 t2 t3 D at_ held count) :: rest)) (T : Top p loose mean mg mb h₀) (hk : cs.kind = .function)
    (hd : dp + 12 < recursionLimit) (hu : un + 200 < cLine) (hD : KBw.bInts D = ks) (hks : ks.length ≤ 4096) (hxd : x ≠ dx) (hr : ∀ p ∈ rest, p.1 ≠ dx)
    (ret : ∀ t2 t3 h' tk, Fr h₀ L h' m → News h₀ L h' ((x, instObj 135 dx) :: (dx, rdO h1 h2 h3 h4 k1 k2 k3 k4 t0 t1 t2 t3 D at_ 0 0) :: rest) → Q .none { s with heap := h', toks := tk }) :
    wpAny (model Challenge.rw_nn0201_01.row.prog w) (ktrTop dp un gd cn cs L a ccd cl outer) (call (.ref 125) [.ref x]) Q E s := by
  refine wpAny_call ?_
  k_dflt (refine' code_def ?k1 ?k2 ?k3 ?k4 ?k5 ?kA ?kF ?kK ?k6 ?k7 ?k8 ?k9 ?kB ?_ ?c2 ?c3 ?c4 ?c5; (case kA => exact rfl); (case kF => exact rfl); (case kK => assumption); (case k1 => k_asm); (case k2 => k_asm); (case k3 => k_asm); (case k4 => k_asm); (case k5 => k_asm); (case k6 => k_is); (case k7 => k_is); (case k8 => ktr_room); (case k9 => first | exact BindsTo.of_eq rfl | exact binds_K (by k_in) rfl (by k_is) rfl rfl rfl); (case c5 => decide); (case kB => exact locs rfl); (case c2 => exact rfl); (case c3 => exact rfl); (case c4 => exact rfl); k_whole; intro g' L' h' FG' F' N' B' X' T'; (try dsimp only); (try k_lift B'); (try k_fold))
  k_steps
  refine' ret _ _ _ _ ?F ?N
  case N => k_asm
  case F => k_asm


theorem octets_ok {c : Int} {tc : Tok} (B : Below A₀ base outer h₀) (F : Fr h₀ L s.heap m) (X : (Mine.hd.heap_39 w.params).In h₀) (N : News h₀ L s.heap ((x, instObj 135 dx) :: (dx, rdO h1 h2 h3 h4 k1 k2 k3 k4 t0 t1 t2 t3 D at_ held count) :: rest)) (T : Top p loose mean mg mb h₀) (hk : cs.kind = .function)
    (hd : dp + 16 < recursionLimit) (hu : un + 300 < cLine) (hD : KBw.bInts D = ks) (hks : ks.length ≤ 4096) (hxd : x ≠ dx) (hr : ∀ p ∈ rest, p.1 ≠ dx) (hc : 8 * c ≤ 8 * ((ks.length : Int) - at_))
    (a0 : 0 ≤ at_) (a1 : at_ ≤ ks.length) (cc0 : 0 ≤ c) (cc1 : c ≤ 40)
    (ret : ∀ b t t1 t2 t3 h' tk, KBw.bInts b = (ks.drop at_.toNat).take c.toNat → Fr h₀ L h' m → News h₀ L h' ((x, instObj 135 dx) :: (dx, rdO h1 h2 h3 h4 k1 k2 k3 k4 t0 t1 t2 t3 D (at_ + c) 0 0) :: rest) → Q (.bytes b t) { s with heap := h', toks := tk }) :
    wpAny (model Challenge.rw_nn0201_01.row.prog w) (ktrTop dp un gd cn cs L a ccd cl outer) (call (.ref 132) [.ref x, .int c tc]) Q E s := by
  refine wpAny_call ?_
  k_dflt (refine' code_def ?k1 ?k2 ?k3 ?k4 ?k5 ?kA ?kF ?kK ?k6 ?k7 ?k8 ?k9 ?kB ?_ ?c2 ?c3 ?c4 ?c5; (case kA => exact rfl); (case kF => exact rfl); (case kK => assumption); (case k1 => k_asm); (case k2 => k_asm); (case k3 => k_asm); (case k4 => k_asm); (case k5 => k_asm); (case k6 => k_is); (case k7 => k_is); (case k8 => ktr_room); (case k9 => first | exact BindsTo.of_eq rfl | exact binds_K (by k_in) rfl (by k_is) rfl rfl rfl); (case c5 => decide); (case kB => exact locs rfl); (case c2 => exact rfl); (case c3 => exact rfl); (case c4 => exact rfl); k_whole; intro g' L' h' FG' F' N' B' X' T'; (try dsimp only); (try k_lift B'); (try k_fold))
  (k_steps <;> repeat' ((with_reducible refine go_on ?_); (first | (with_reducible (k_here; k_dflt (refine' align_c ?B ?F ?X ?N ?T ?hk ?hd ?hu ?hD ?hks ?hxd ?hr ?_; (case B => k_asm); (case F => k_asm); (case X => k_asm); (case N => k_asm); (case T => k_asm); (case hk => first | assumption | exact rfl); (case hd => first | exact n_up (by assumption) (by decide) | ktr_room); (case hu => first | exact n_up (by assumption) (by decide) | ktr_units); (case hD => assumption); (case hks => assumption); (case hxd => assumption); (case hr => assumption); k_whole); intro t2A t3A hA tkA FA NA)) | (with_reducible (k_here; k_dflt (refine' need_ok ?B ?F ?X ?N ?T ?hk ?hd ?hu ?hD ?hks ?hxd ?hr ?hc ?_; (case B => k_asm); (case F => k_asm); (case X => k_asm); (case N => k_asm); (case T => k_asm); (case hk => first | assumption | exact rfl); (case hd => first | exact n_up (by assumption) (by decide) | ktr_room); (case hu => first | exact n_up (by assumption) (by decide) | ktr_units); (case hD => assumption); (case hks => assumption); (case hxd => assumption); (case hr => assumption); (case hc => omega); k_whole); intro hN tkN FN NN)) | fail); k_steps))
  refine' ret _ _ _ _ _ _ _ ?e ?F ?N
  case N => k_asm
  case F => k_asm
  case e =>
    refine Eq.trans (by assumption) ?_
    rw [clip_in (n := ks.length) (i := at_ + c) (by omega) (by omega), clip_in (n := ks.length) (i := at_ + c - c) (by omega) (by omega), show at_ + c - c = at_ by omega, pow_toNat_add a0 cc0, Nat.add_sub_cancel_left]

theorem octets_no {c : Int} {tc : Tok} (B : Below A₀ base outer h₀) (F : Fr h₀ L s.heap m) (X : (Mine.hd.heap_39 w.params).In h₀) (N : News h₀ L s.heap ((x, instObj 135 dx) :: (dx, rdO h1 h2 h3 h4 k1 k2 k3 k4 t0 t1 t2 t3 D at_ held count) :: rest)) (T : Top p loose mean mg mb h₀) (hk : cs.kind = .function)
    (hd : dp + 16 < recursionLimit) (hu : un + 300 < cLine) (hD : KBw.bInts D = ks) (hks : ks.length ≤ 4096) (hxd : x ≠ dx) (hr : ∀ p ∈ rest, p.1 ≠ dx) (hc : ¬ 8 * c ≤ 8 * ((ks.length : Int) - at_))
    (raise : ∀ g e h' tk, Fr h₀ L g m → RaisedSN base g (envX cn cs L a ccd cl :: outer) e (.ref 59) ((x, instObj 135 dx) :: (dx, rdO h1 h2 h3 h4 k1 k2 k3 k4 t0 t1 t2 t3 D at_ held count) :: rest) h' → g.UpToSlots h' → E (.ref e) { s with heap := h', toks := tk }) :
    wpAny (model Challenge.rw_nn0201_01.row.prog w) (ktrTop dp un gd cn cs L a ccd cl outer) (call (.ref 132) [.ref x, .int c tc]) Q E s := by
  refine wpAny_call ?_
  k_dflt (refine' code_def ?k1 ?k2 ?k3 ?k4 ?k5 ?kA ?kF ?kK ?k6 ?k7 ?k8 ?k9 ?kB ?_ ?c2 ?c3 ?c4 ?c5; (case kA => exact rfl); (case kF => exact rfl); (case kK => assumption); (case k1 => k_asm); (case k2 => k_asm); (case k3 => k_asm); (case k4 => k_asm); (case k5 => k_asm); (case k6 => k_is); (case k7 => k_is); (case k8 => ktr_room); (case k9 => first | exact BindsTo.of_eq rfl | exact binds_K (by k_in) rfl (by k_is) rfl rfl rfl); (case c5 => decide); (case kB => exact locs rfl); (case c2 => exact rfl); (case c3 => exact rfl); (case c4 => exact rfl); k_whole; intro g' L' h' FG' F' N' B' X' T'; (try dsimp only); (try k_lift B'); (try k_fold))
  (k_steps <;> repeat' ((with_reducible refine go_on ?_); (first | (with_reducible (k_here; k_dflt (refine' need_no ?B ?F ?X ?N ?T ?hk ?hd ?hu ?hD ?hks ?hxd ?hr ?hc ?_; (case B => k_asm); (case F => k_asm); (case X => k_asm); (case N => k_asm); (case T => k_asm); (case hk => first | assumption | exact rfl); (case hd => first | exact n_up (by assumption) (by decide) | ktr_room); (case hu => first | exact n_up (by assumption) (by decide) | ktr_units); (case hD => assumption); (case hks => assumption); (case hxd => assumption); (case hr => assumption); (case hc => omega); k_whole); intro gN eN hN tkN FgN RN UN; refine' leave_onSN (by assumption) FgN RN UN ?_; intro h'' R' R1' U')) | fail); k_steps))
  refine' raise _ _ _ _ ?_ (by assumption) (by assumption) <;> assumption
end
end
section -- C19
set_option maxRecDepth 100000
set_option maxHeartbeats 8000000
set_option linter.unusedVariables false

section
variable {w : World} {p : Program} {loose : List PySem.Str} {mean : ExcName → Option Value} {mg mb : PySem.Str → Option Value}
  {dp un : Nat} {gd : Option (List Code)} {cn : PySem.Str} {cs : Scope} {a : Addr} {ccd : Value} {cl : List (PySem.Str × Addr)} {outer : List Env} {A₀ : Around} {base h₀ : Heap} {L : Addr} {m : PySem.Str → Option Value} {rest : List (Addr × Obj)} {s : Shared} {Q E : Value → Shared → Prop}
  {h1 h2 h3 h4 : Int} {k1 k2 k3 k4 t0 t1 t2 t3 : Tok} {D : Array UInt8} {at_ held count : Int} {x dx : Addr} {ks : List Int}
section

theorem taken_ok {c : Int} {tw tc : Tok} (B : Below A₀ base outer h₀) (F : Fr h₀ L s.heap m) (X : (Mine.hd.heap_39 w.params).In h₀) (N : News h₀ L s.heap ((x, instObj 135 dx) :: (dx, rdO h1 h2 h3 h4 k1 k2 k3 k4 t0 t1 t2 t3 D at_ held count) :: rest)) (T : Top p loose mean mg mb h₀) (hk : cs.kind = .function)
    (hd : dp + 24 < recursionLimit) (hu : un + 500 < cLine) (hD : KBw.bInts D = ks) (hks : ks.length ≤ 4096) (hxd : x ≠ dx) (hr : ∀ p ∈ rest, p.1 ≠ dx) (hc : c ≤ count + 8 * ((ks.length : Int) - at_))
    (a0 : 0 ≤ at_) (a1 : at_ ≤ ks.length) (h0 : 0 ≤ held) (hh : held < 2 ^ count.toNat) (c0 : 0 ≤ count) (c8 : count < 8) (cc0 : 0 ≤ c) (cc1 : c ≤ 40)
    (ret : ∀ (v at' held' count' : Int) t t1 t2 t3 h' tk, 0 ≤ at' → at' ≤ ks.length → 0 ≤ held' → held' < 2 ^ count'.toNat → 0 ≤ count' → count' < 8 → count' + 8 * ((ks.length : Int) - at') = count + 8 * ((ks.length : Int) - at_) - c →
      rowL held count.toNat ++ bitsL (ks.drop at_.toNat) = rowL v c.toNat ++ (rowL held' count'.toNat ++ bitsL (ks.drop at'.toNat)) → 0 ≤ v → v < 2 ^ c.toNat →
      Fr h₀ L h' m → News h₀ L h' ((x, instObj 135 dx) :: (dx, rdO h1 h2 h3 h4 k1 k2 k3 k4 t0 t1 t2 t3 D at' held' count') :: rest) → Q (.int v t) { s with heap := h', toks := tk }) :
    wpAny (model Challenge.rw_nn0201_01.row.prog w) (ktrTop dp un gd cn cs L a ccd cl outer) (call (.ref 329) [.ref x, .int 0 tw, .int c tc]) Q E s := by
  refine wpAny_call ?_
  k_dflt (refine' code_def ?k1 ?k2 ?k3 ?k4 ?k5 ?kA ?kF ?kK ?k6 ?k7 ?k8 ?k9 ?kB ?_ ?c2 ?c3 ?c4 ?c5; (case kA => exact rfl); (case kF => exact rfl); (case kK => assumption); (case k1 => k_asm); (case k2 => k_asm); (case k3 => k_asm); (case k4 => k_asm); (case k5 => k_asm); (case k6 => k_is); (case k7 => k_is); (case k8 => ktr_room); (case k9 => first | exact BindsTo.of_eq rfl | exact binds_K (by k_in) rfl (by k_is) rfl rfl rfl); (case c5 => decide); (case kB => exact locs rfl); (case c2 => exact rfl); (case c3 => exact rfl); (case c4 => exact rfl); k_whole; intro g' L' h' FG' F' N' B' X' T'; (try dsimp only); (try k_lift B'); (try k_fold))
  (k_steps <;> repeat' ((with_reducible refine go_on ?_); (first | (with_reducible (k_here; k_dflt (refine' take_ok ?B ?F ?X ?N ?T ?hk ?hd ?hu hD hks hxd hr hc a0 a1 h0 hh c0 c8 cc0 cc1 ?_; (case B => k_asm); (case F => k_asm); (case X => k_asm); (case N => k_asm); (case T => k_asm); (case hk => first | assumption | exact rfl); (case hd => first | exact n_up (by assumption) (by decide) | ktr_room); (case hu => first | exact n_up (by assumption) (by decide) | ktr_units); k_whole); intro v at' held' count' t t1' t2' t3' hK tkK i1 i2 i3 i4 i5 i6 i7 i8 i9 i10 FK NK; (try dsimp only))) | fail); k_steps))
  exact ret _ _ _ _ _ _ _ _ _ _ i1 i2 i3 i4 i5 i6 i7 i8 i9 i10 (by k_asm) (by k_asm)
end
section

theorem taken_no {c : Int} {tw tc : Tok} (B : Below A₀ base outer h₀) (F : Fr h₀ L s.heap m) (X : (Mine.hd.heap_39 w.params).In h₀) (N : News h₀ L s.heap ((x, instObj 135 dx) :: (dx, rdO h1 h2 h3 h4 k1 k2 k3 k4 t0 t1 t2 t3 D at_ held count) :: rest)) (T : Top p loose mean mg mb h₀) (hk : cs.kind = .function)
    (hd : dp + 24 < recursionLimit) (hu : un + 500 < cLine) (XB : (Mine.hd.heap_39 w.params).In base) (TB : Top p loose mean mg mb base) (DT : KtsDicts (outer.filterMap (·.frame)) h₀) (hD : KBw.bInts D = ks) (hks : ks.length ≤ 4096) (hxd : x ≠ dx) (hr : ∀ p ∈ rest, p.1 ≠ dx) (hc : ¬ c ≤ count + 8 * ((ks.length : Int) - at_))
    (ret : ∀ h₀' h' tk, KtsTurn (outer.filterMap (·.frame)) h₀ h₀' → Fr h₀' L h' m → News h₀' L h' ((x, instObj 135 dx) :: (dx, rdO h1 h2 h3 h4 k1 k2 k3 k4 t0 t1 t2 t3 D at_ held count) :: rest) → Below A₀ base outer h₀' → (Mine.hd.heap_39 w.params).In h₀' → Top p loose mean mg mb h₀' → KtsDicts (outer.filterMap (·.frame)) h₀' → Q .none { s with heap := h', toks := tk }) :
    wpAny (model Challenge.rw_nn0201_01.row.prog w) (ktrTop dp un gd cn cs L a ccd cl outer) (call (.ref 329) [.ref x, .int 0 tw, .int c tc]) Q E s := by
  refine wpAny_call (code_of_M ?_)
  k_dflt (refine' code_defT (b := false) ?k1 ?k2 ?k3 ?k4 ?k5 ?XB ?TB ?D ?kA ?kF ?kK ?k6 ?k7 ?k8 ?k9 ?kB ?_ ?c2 ?c3 ?c4 ?c5; (case kA => exact rfl); (case kF => exact rfl); (case kK => assumption); (case k1 => k_asm); (case k2 => k_asm); (case k3 => k_asm); (case k4 => k_asm); (case k5 => k_asm); (case XB => assumption); (case TB => assumption); (case D => assumption); (case k6 => k_is); (case k7 => k_is); (case k8 => ktr_room); (case k9 => first | exact BindsTo.of_eq rfl | exact binds_K (by k_in) rfl (by k_is) rfl rfl rfl); (case c5 => decide); (case kB => exact locs rfl); (case c2 => exact rfl); (case c3 => exact rfl); (case c4 => exact rfl); k_whole; intro g' L' h' tkE FG' F' N' B' X' T' D'; (try dsimp only); (try k_lift B'); (try k_fold))
  refine wpR_any ?_
  (k_steps <;> repeat' ((with_reducible refine go_on ?_); (first | (with_reducible (k_here; k_dflt (refine' take_no ?B ?F ?X ?N ?T ?hk ?hd ?hu hD hks hxd hr hc ?_; (case B => k_asm); (case F => k_asm); (case X => k_asm); (case N => k_asm); (case T => k_asm); (case hk => first | assumption | exact rfl); (case hd => first | exact n_up (by assumption) (by decide) | ktr_room); (case hu => first | exact n_up (by assumption) (by decide) | ktr_units); k_whole); intro gN eN hN tkN FgN RN UN; (try dsimp only at RN UN ⊢))) | fail); k_steps))
  refine' leaveT_ ?F ?N ?T fun h₀' kT kF kN kB kX kP kD => ?_
  case F => k_asm
  case N => k_asm
  case T => assumption
  exact ret _ _ _ kT kF kN kB kX kP kD
end
section

theorem taken5_ok {c : Int} {tw tc : Tok} (B : Below A₀ base outer h₀) (F : Fr h₀ L s.heap m) (X : (Mine.hd.heap_39 w.params).In h₀) (N : News h₀ L s.heap ((x, instObj 135 dx) :: (dx, rdO h1 h2 h3 h4 k1 k2 k3 k4 t0 t1 t2 t3 D at_ held count) :: rest)) (T : Top p loose mean mg mb h₀) (hk : cs.kind = .function)
    (hd : dp + 24 < recursionLimit) (hu : un + 500 < cLine) (hD : KBw.bInts D = ks) (hks : ks.length ≤ 4096) (hxd : x ≠ dx) (hr : ∀ p ∈ rest, p.1 ≠ dx) (hc : 8 * c ≤ 8 * ((ks.length : Int) - at_))
    (a0 : 0 ≤ at_) (a1 : at_ ≤ ks.length) (cc0 : 0 ≤ c) (cc1 : c ≤ 40)
    (ret : ∀ b t t1 t2 t3 h' tk, KBw.bInts b = (ks.drop at_.toNat).take c.toNat → Fr h₀ L h' m → News h₀ L h' ((x, instObj 135 dx) :: (dx, rdO h1 h2 h3 h4 k1 k2 k3 k4 t0 t1 t2 t3 D (at_ + c) 0 0) :: rest) → Q (.bytes b t) { s with heap := h', toks := tk }) :
    wpAny (model Challenge.rw_nn0201_01.row.prog w) (ktrTop dp un gd cn cs L a ccd cl outer) (call (.ref 329) [.ref x, .int 5 tw, .int c tc]) Q E s := by
  refine wpAny_call ?_
  k_dflt (refine' code_def ?k1 ?k2 ?k3 ?k4 ?k5 ?kA ?kF ?kK ?k6 ?k7 ?k8 ?k9 ?kB ?_ ?c2 ?c3 ?c4 ?c5; (case kA => exact rfl); (case kF => exact rfl); (case kK => assumption); (case k1 => k_asm); (case k2 => k_asm); (case k3 => k_asm); (case k4 => k_asm); (case k5 => k_asm); (case k6 => k_is); (case k7 => k_is); (case k8 => ktr_room); (case k9 => first | exact BindsTo.of_eq rfl | exact binds_K (by k_in) rfl (by k_is) rfl rfl rfl); (case c5 => decide); (case kB => exact locs rfl); (case c2 => exact rfl); (case c3 => exact rfl); (case c4 => exact rfl); k_whole; intro g' L' h' FG' F' N' B' X' T'; (try dsimp only); (try k_lift B'); (try k_fold))
  (k_steps <;> repeat' ((with_reducible refine go_on ?_); (first | (with_reducible (k_here; k_dflt (refine' octets_ok ?B ?F ?X ?N ?T ?hk ?hd ?hu hD hks hxd hr hc a0 a1 cc0 cc1 ?_; (case B => k_asm); (case F => k_asm); (case X => k_asm); (case N => k_asm); (case T => k_asm); (case hk => first | assumption | exact rfl); (case hd => first | exact n_up (by assumption) (by decide) | ktr_room); (case hu => first | exact n_up (by assumption) (by decide) | ktr_units); k_whole); intro b t t1' t2' t3' hK tkK eb FK NK; (try dsimp only))) | fail); k_steps))
  exact ret _ _ _ _ _ _ _ eb (by k_asm) (by k_asm)
end
section

theorem taken5_no {c : Int} {tw tc : Tok} (B : Below A₀ base outer h₀) (F : Fr h₀ L s.heap m) (X : (Mine.hd.heap_39 w.params).In h₀) (N : News h₀ L s.heap ((x, instObj 135 dx) :: (dx, rdO h1 h2 h3 h4 k1 k2 k3 k4 t0 t1 t2 t3 D at_ held count) :: rest)) (T : Top p loose mean mg mb h₀) (hk : cs.kind = .function)
    (hd : dp + 24 < recursionLimit) (hu : un + 500 < cLine) (XB : (Mine.hd.heap_39 w.params).In base) (TB : Top p loose mean mg mb base) (DT : KtsDicts (outer.filterMap (·.frame)) h₀) (hD : KBw.bInts D = ks) (hks : ks.length ≤ 4096) (hxd : x ≠ dx) (hr : ∀ p ∈ rest, p.1 ≠ dx) (hc : ¬ 8 * c ≤ 8 * ((ks.length : Int) - at_))
    (ret : ∀ h₀' h' tk, KtsTurn (outer.filterMap (·.frame)) h₀ h₀' → Fr h₀' L h' m → News h₀' L h' ((x, instObj 135 dx) :: (dx, rdO h1 h2 h3 h4 k1 k2 k3 k4 t0 t1 t2 t3 D at_ held count) :: rest) → Below A₀ base outer h₀' → (Mine.hd.heap_39 w.params).In h₀' → Top p loose mean mg mb h₀' → KtsDicts (outer.filterMap (·.frame)) h₀' → Q .none { s with heap := h', toks := tk }) :
    wpAny (model Challenge.rw_nn0201_01.row.prog w) (ktrTop dp un gd cn cs L a ccd cl outer) (call (.ref 329) [.ref x, .int 5 tw, .int c tc]) Q E s := by
  refine wpAny_call (code_of_M ?_)
  k_dflt (refine' code_defT (b := false) ?k1 ?k2 ?k3 ?k4 ?k5 ?XB ?TB ?D ?kA ?kF ?kK ?k6 ?k7 ?k8 ?k9 ?kB ?_ ?c2 ?c3 ?c4 ?c5; (case kA => exact rfl); (case kF => exact rfl); (case kK => assumption); (case k1 => k_asm); (case k2 => k_asm); (case k3 => k_asm); (case k4 => k_asm); (case k5 => k_asm); (case XB => assumption); (case TB => assumption); (case D => assumption); (case k6 => k_is); (case k7 => k_is); (case k8 => ktr_room); (case k9 => first | exact BindsTo.of_eq rfl | exact binds_K (by k_in) rfl (by k_is) rfl rfl rfl); (case c5 => decide); (case kB => exact locs rfl); (case c2 => exact rfl); (case c3 => exact rfl); (case c4 => exact rfl); k_whole; intro g' L' h' tkE FG' F' N' B' X' T' D'; (try dsimp only); (try k_lift B'); (try k_fold))
  refine wpR_any ?_
  (k_steps <;> repeat' ((with_reducible refine go_on ?_); (first | (with_reducible (k_here; k_dflt (refine' octets_no ?B ?F ?X ?N ?T ?hk ?hd ?hu hD hks hxd hr hc ?_; (case B => k_asm); (case F => k_asm); (case X => k_asm); (case N => k_asm); (case T => k_asm); (case hk => first | assumption | exact rfl); (case hd => first | exact n_up (by assumption) (by decide) | ktr_room); (case hu => first | exact n_up (by assumption) (by decide) | ktr_units); k_whole); intro gN eN hN tkN FgN RN UN; (try dsimp only at RN UN ⊢))) | fail); k_steps))
  refine' leaveT_ ?F ?N ?T fun h₀' kT kF kN kB kX kP kD => ?_
  case F => k_asm
  case N => k_asm
  case T => assumption
  exact ret _ _ _ kT kF kN kB kX kP kD
end
section

theorem htaken_ok {c : Int} {tw tc : Tok} (B : Below A₀ base outer h₀) (F : Fr h₀ L s.heap m) (X : (Mine.hd.heap_39 w.params).In h₀) (N : News h₀ L s.heap ((x, instObj 177 dx) :: (dx, rdO h1 h2 h3 h4 k1 k2 k3 k4 t0 t1 t2 t3 D at_ held count) :: rest)) (T : Top p loose mean mg mb h₀) (hk : cs.kind = .function)
    (hd : dp + 24 < recursionLimit) (hu : un + 500 < cLine) (hD : KBw.bInts D = ks) (hks : ks.length ≤ 4096) (hxd : x ≠ dx) (hr : ∀ p ∈ rest, p.1 ≠ dx) (hc : c ≤ count + 8 * ((ks.length : Int) - at_))
    (a0 : 0 ≤ at_) (a1 : at_ ≤ ks.length) (h0 : 0 ≤ held) (hh : held < 2 ^ count.toNat) (c0 : 0 ≤ count) (c8 : count < 8) (cc0 : 0 ≤ c) (cc1 : c ≤ 40)
    (ret : ∀ (v at' held' count' : Int) t t1 t2 t3 h' tk, 0 ≤ at' → at' ≤ ks.length → 0 ≤ held' → held' < 2 ^ count'.toNat → 0 ≤ count' → count' < 8 → count' + 8 * ((ks.length : Int) - at') = count + 8 * ((ks.length : Int) - at_) - c →
      rowH held count.toNat ++ bitsH (ks.drop at_.toNat) = rowH v c.toNat ++ (rowH held' count'.toNat ++ bitsH (ks.drop at'.toNat)) → 0 ≤ v → v < 2 ^ c.toNat →
      Fr h₀ L h' m → News h₀ L h' ((x, instObj 177 dx) :: (dx, rdO h1 h2 h3 h4 k1 k2 k3 k4 t0 t1 t2 t3 D at' held' count') :: rest) → Q (.int v t) { s with heap := h', toks := tk }) :
    wpAny (model Challenge.rw_nn0201_01.row.prog w) (ktrTop dp un gd cn cs L a ccd cl outer) (call (.ref 329) [.ref x, .int 0 tw, .int c tc]) Q E s := by
  refine wpAny_call ?_
  k_dflt (refine' code_def ?k1 ?k2 ?k3 ?k4 ?k5 ?kA ?kF ?kK ?k6 ?k7 ?k8 ?k9 ?kB ?_ ?c2 ?c3 ?c4 ?c5; (case kA => exact rfl); (case kF => exact rfl); (case kK => assumption); (case k1 => k_asm); (case k2 => k_asm); (case k3 => k_asm); (case k4 => k_asm); (case k5 => k_asm); (case k6 => k_is); (case k7 => k_is); (case k8 => ktr_room); (case k9 => first | exact BindsTo.of_eq rfl | exact binds_K (by k_in) rfl (by k_is) rfl rfl rfl); (case c5 => decide); (case kB => exact locs rfl); (case c2 => exact rfl); (case c3 => exact rfl); (case c4 => exact rfl); k_whole; intro g' L' h' FG' F' N' B' X' T'; (try dsimp only); (try k_lift B'); (try k_fold))
  (k_steps <;> repeat' ((with_reducible refine go_on ?_); (first | (with_reducible (k_here; k_dflt (refine' htake_ok ?B ?F ?X ?N ?T ?hk ?hd ?hu hD hks hxd hr hc a0 a1 h0 hh c0 c8 cc0 cc1 ?_; (case B => k_asm); (case F => k_asm); (case X => k_asm); (case N => k_asm); (case T => k_asm); (case hk => first | assumption | exact rfl); (case hd => first | exact n_up (by assumption) (by decide) | ktr_room); (case hu => first | exact n_up (by assumption) (by decide) | ktr_units); k_whole); intro v at' held' count' t t1' t2' t3' hK tkK i1 i2 i3 i4 i5 i6 i7 i8 i9 i10 FK NK; (try dsimp only))) | fail); k_steps))
  exact ret _ _ _ _ _ _ _ _ _ _ i1 i2 i3 i4 i5 i6 i7 i8 i9 i10 (by k_asm) (by k_asm)
end
section

theorem htaken_no {c : Int} {tw tc : Tok} (B : Below A₀ base outer h₀) (F : Fr h₀ L s.heap m) (X : (Mine.hd.heap_39 w.params).In h₀) (N : News h₀ L s.heap ((x, instObj 177 dx) :: (dx, rdO h1 h2 h3 h4 k1 k2 k3 k4 t0 t1 t2 t3 D at_ held count) :: rest)) (T : Top p loose mean mg mb h₀) (hk : cs.kind = .function)
    (hd : dp + 24 < recursionLimit) (hu : un + 500 < cLine) (XB : (Mine.hd.heap_39 w.params).In base) (TB : Top p loose mean mg mb base) (DT : KtsDicts (outer.filterMap (·.frame)) h₀) (hD : KBw.bInts D = ks) (hks : ks.length ≤ 4096) (hxd : x ≠ dx) (hr : ∀ p ∈ rest, p.1 ≠ dx) (hc : ¬ c ≤ count + 8 * ((ks.length : Int) - at_))
    (ret : ∀ h₀' h' tk, KtsTurn (outer.filterMap (·.frame)) h₀ h₀' → Fr h₀' L h' m → News h₀' L h' ((x, instObj 177 dx) :: (dx, rdO h1 h2 h3 h4 k1 k2 k3 k4 t0 t1 t2 t3 D at_ held count) :: rest) → Below A₀ base outer h₀' → (Mine.hd.heap_39 w.params).In h₀' → Top p loose mean mg mb h₀' → KtsDicts (outer.filterMap (·.frame)) h₀' → Q .none { s with heap := h', toks := tk }) :
    wpAny (model Challenge.rw_nn0201_01.row.prog w) (ktrTop dp un gd cn cs L a ccd cl outer) (call (.ref 329) [.ref x, .int 0 tw, .int c tc]) Q E s := by
  refine wpAny_call (code_of_M ?_)
  k_dflt (refine' code_defT (b := false) ?k1 ?k2 ?k3 ?k4 ?k5 ?XB ?TB ?D ?kA ?kF ?kK ?k6 ?k7 ?k8 ?k9 ?kB ?_ ?c2 ?c3 ?c4 ?c5; (case kA => exact rfl); (case kF => exact rfl); (case kK => assumption); (case k1 => k_asm); (case k2 => k_asm); (case k3 => k_asm); (case k4 => k_asm); (case k5 => k_asm); (case XB => assumption); (case TB => assumption); (case D => assumption); (case k6 => k_is); (case k7 => k_is); (case k8 => ktr_room); (case k9 => first | exact BindsTo.of_eq rfl | exact binds_K (by k_in) rfl (by k_is) rfl rfl rfl); (case c5 => decide); (case kB => exact locs rfl); (case c2 => exact rfl); (case c3 => exact rfl); (case c4 => exact rfl); k_whole; intro g' L' h' tkE FG' F' N' B' X' T' D'; (try dsimp only); (try k_lift B'); (try k_fold))
  refine wpR_any ?_
  (k_steps <;> repeat' ((with_reducible refine go_on ?_); (first | (with_reducible (k_here; k_dflt (refine' htake_no ?B ?F ?X ?N ?T ?hk ?hd ?hu hD hks hxd hr hc ?_; (case B => k_asm); (case F => k_asm); (case X => k_asm); (case N => k_asm); (case T => k_asm); (case hk => first | assumption | exact rfl); (case hd => first | exact n_up (by assumption) (by decide) | ktr_room); (case hu => first | exact n_up (by assumption) (by decide) | ktr_units); k_whole); intro gN eN hN tkN FgN RN UN; (try dsimp only at RN UN ⊢))) | fail); k_steps))
  refine' leaveT_ ?F ?N ?T fun h₀' kT kF kN kB kX kP kD => ?_
  case F => k_asm
  case N => k_asm
  case T => assumption
  exact ret _ _ _ kT kF kN kB kX kP kD
end
end
end
section -- C23
set_option maxRecDepth 100000
set_option maxHeartbeats 8000000
set_option linter.unusedVariables false

inductive RInv_low (x dx lr : Addr) (h1 h2 h3 h4 : Int) (k1 k2 k3 k4 t0 td : Tok) (D : Array UInt8) (rs : List Value) (nr : Nat) (ks R : List Int) (m : PySem.Str → Option Value) (ch : List (Addr × Obj)) : Prop
  | mk (at_ held count place : Int) (t1 t2 t3 tp : Tok) (e : ch = [(x, instObj 135 dx), (dx, rdO h1 h2 h3 h4 k1 k2 k3 k4 t0 t1 t2 t3 D at_ held count), (lr, W.listOf rs.toArray nr)]) (a0 : 0 ≤ at_) (a1 : at_ ≤ ks.length) (a2 : 0 ≤ held) (a3 : held < 2 ^ count.toNat) (a4 : 0 ≤ count) (a5 : count < 8) (a6 : 0 ≤ place) (a7 : place ≤ R.length)
    (a8 : R.drop place.toNat = rowL held count.toNat ++ bitsL (ks.drop at_.toNat)) (b1 : m (PySem.Str.ofString "reader") = some (.ref x)) (b2 : m (PySem.Str.ofString "data") = some (.bytes D td)) (b3 : m (PySem.Str.ofString "row") = some (.ref lr)) (b4 : m (PySem.Str.ofString "is_high") = some (.bool false)) (b5 : m (PySem.Str.ofString "place") = some (.int place tp)) : RInv_low x dx lr h1 h2 h3 h4 k1 k2 k3 k4 t0 td D rs nr ks R m ch
inductive RMid_low (x dx lr : Addr) (h1 h2 h3 h4 : Int) (k1 k2 k3 k4 t0 td tp : Tok) (D : Array UInt8) (rs : List Value) (nr : Nat) (ks R : List Int) (place : Int) (m : PySem.Str → Option Value) (ch : List (Addr × Obj)) : Prop
  | mk (b1 : m (PySem.Str.ofString "reader") = some (.ref x)) (b2 : m (PySem.Str.ofString "data") = some (.bytes D td)) (b3 : m (PySem.Str.ofString "row") = some (.ref lr)) (b4 : m (PySem.Str.ofString "is_high") = some (.bool false)) (b5 : m (PySem.Str.ofString "place") = some (.int place tp))
    (at_ held count bh : Int) (t1 t2 t3 tbh : Tok) (e : ch = [(x, instObj 135 dx), (dx, rdO h1 h2 h3 h4 k1 k2 k3 k4 t0 t1 t2 t3 D at_ held count), (lr, W.listOf rs.toArray nr)]) (a0 : 0 ≤ at_) (a1 : at_ ≤ ks.length) (a2 : 0 ≤ held) (a3 : held < 2 ^ count.toNat) (a4 : 0 ≤ count) (a5 : count < 8) (b6 : m (PySem.Str.ofString "behind") = some (.int bh tbh)) (a6 : 0 ≤ bh)
    (a8 : (bh ≤ R.length ∧ R.drop bh.toNat = rowL held count.toNat ++ bitsL (ks.drop at_.toNat) ∧ ((∃ v u1 u2, m (PySem.Str.ofString "due") = some (.int v u1) ∧ m (PySem.Str.ofString "found") = some (.int v u2)) ∨ ∃ o u1 u2, m (PySem.Str.ofString "due") = some (.bytes o u1) ∧ m (PySem.Str.ofString "found") = some (.bytes o u2))) ∨
           (¬ bh ≤ R.length ∧ R.drop place.toNat = rowL held count.toNat ++ bitsL (ks.drop at_.toNat) ∧ m (PySem.Str.ofString "found") = some .none ∧ ∃ dv, m (PySem.Str.ofString "due") = some dv)) : RMid_low x dx lr h1 h2 h3 h4 k1 k2 k3 k4 t0 td tp D rs nr ks R place m ch
section
variable {w : World} {p : Program} {loose : List PySem.Str} {mean : ExcName → Option Value} {mg mb : PySem.Str → Option Value}
  {dp un : Nat} {gd : Option (List Code)} {cn : PySem.Str} {cs : Scope} {a : Addr} {ccd : Value} {cl : List (PySem.Str × Addr)} {outer : List Env} {A₀ : Around} {base h₀ : Heap} {L : Addr} {m : PySem.Str → Option Value} {rest : List (Addr × Obj)} {s : Shared} {Q E : Value → Shared → Prop}
  {h1 h2 h3 h4 : Int} {k1 k2 k3 k4 t0 t1 t2 t3 : Tok} {D : Array UInt8} {x dx l lr : Addr} {vs rs : List Value} {ns ks R : List Int} {n nr : Nat}

theorem read_low {st : Int} {td tp ti : Tok} (B : Below A₀ base outer h₀) (F : Fr h₀ L s.heap m) (X : (Mine.hd.heap_39 w.params).In h₀) (N : News h₀ L s.heap ((x, instObj 135 dx) :: (dx, rdO h1 h2 h3 h4 k1 k2 k3 k4 t0 t1 t2 t3 D st 0 0) :: rest)) (T : Top p loose mean mg mb h₀) (hk : cs.kind = .function)
    (hd : dp + 40 < recursionLimit) (hu : un + 1000 < cLine) (XB : (Mine.hd.heap_39 w.params).In base) (TB : Top p loose mean mg mb base) (DT : KtsDicts (outer.filterMap (·.frame)) h₀)
    (hD : KBw.bInts D = ks) (hks : ks.length ≤ 400) (hxd : x ≠ dx) (hr : ∀ p ∈ rest, p.1 ≠ dx) (hm : (l, W.listOf vs.toArray n) ∈ rest) (hv : IntsAre vs ns) (hn : ns.length ≤ 25) (hmr : (lr, W.listOf rs.toArray nr) ∈ rest) (hrs : IntsAre rs R) (hR : R = bitsL ks)
    (s0 : 0 ≤ st) (s1 : st ≤ ks.length)
    (ret : ∀ h₀' h' tk, KtsTurn (outer.filterMap (·.frame)) h₀ h₀' → Fr h₀' L h' m → News h₀' L h' rest → Below A₀ base outer h₀' → (Mine.hd.heap_39 w.params).In h₀' → Top p loose mean mg mb h₀' → KtsDicts (outer.filterMap (·.frame)) h₀' → Q (.bool true) { s with heap := h', toks := tk }) :
    wpAny (model Challenge.rw_nn0201_01.row.prog w) (ktrTop dp un gd cn cs L a ccd cl outer) (call (.ref 341) [.ref x, .bytes D td, .ref lr, .ref l, .int (8 * st) tp, .bool false]) Q E s := by
  have hRl : R.length = 8 * ks.length := by rw [hR]; exact bits_len false ks
  have hks4 : ks.length ≤ 4096 := by omega
  refine wpAny_call (code_of_M ?_)
  k_dflt (refine' code_defT (b := false) ?k1 ?k2 ?k3 ?k4 ?k5 ?XB ?TB ?D ?kA ?kF ?kK ?k6 ?k7 ?k8 ?k9 ?kB ?_ ?c2 ?c3 ?c4 ?c5; (case kA => exact rfl); (case kF => exact rfl); (case kK => assumption); (case k1 => k_asm); (case k2 => k_asm); (case k3 => k_asm); (case k4 => k_asm); (case k5 => k_asm); (case XB => assumption); (case TB => assumption); (case D => assumption); (case k6 => k_is); (case k7 => k_is); (case k8 => ktr_room); (case k9 => first | exact BindsTo.of_eq rfl | exact binds_K (by k_in) rfl (by k_is) rfl rfl rfl); (case c5 => decide); (case kB => exact locs rfl); (case c2 => exact rfl); (case c3 => exact rfl); (case c4 => exact rfl); k_whole; intro g' L' h' tkE FG' F' N' B' X' T' D'; (try dsimp only); (try k_lift B'); (try k_fold))
  refine execsM_cons (ForM ?_)
  k_steps
  refine' forListT (cl := []) (vs := vs) (n := n) (ch := [(x, instObj 135 dx), (dx, rdO h1 h2 h3 h4 k1 k2 k3 k4 t0 t1 t2 t3 D st 0 0), (lr, W.listOf rs.toArray nr)]) (rest := rest)
    (fun i g m ch => (Gnd w p loose mean mg mb (ktrTop dp un gd cn cs L a ccd cl outer) base (envX cn cs L a ccd cl :: outer) g' g) ∧ RInv_low x dx lr h1 h2 h3 h4 k1 k2 k3 k4 t0 td D rs nr ks R m ch) rfl F' (pickN N' (by k_mem) (pickN N' (by k_mem) (pickN N' (.tail _ (.tail _ hmr)) (fun p hp => N' p (.tail _ (.tail _ hp)))))) ?hJ ?hl ?hc ?turn ?done
  case hJ => exact ⟨⟨KtsTurn.refl, B', X', T', D'⟩, st, 0, 0, 8 * st, t1, t2, t3, tp, rfl, s0, s1, by decide, by decide, by decide, by decide, by omega, by omega, (by
    rw [hR]
    show (bits false ks).drop (8 * st).toNat = bits false (ks.drop st.toNat)
    rw [n_8 s0]
    exact (bits_drop false ks st.toNat)), rfl, rfl, rfl, rfl, rfl⟩
  case hl => exact fun i g m ch _ => List.mem_append.mpr (.inr hm)
  case hc =>
    intro i g m ch hWz p hp
    refine hideG fun G hG => ?_
    obtain ⟨_, at_, held, count, place, t1, t2, t3, tp, rfl, _⟩ := hWz
    refine hG ?_
    clear hG G
    simp only [List.mem_cons, List.not_mem_nil, or_false] at hp
    rcases hp with rfl | rfl | rfl
    · intro e; simp at e
    · intro e; simp [dictOf] at e
    · intro e; simp [W.listOf] at e
  case turn =>
    clear B' X' T' D' F' N'
    intro i hi' it io g m ch h tk io1 hWz F3 N3
    refine hideG fun G hG => ?_
    obtain ⟨⟨kT, kB, kX, kP, kD⟩, at_, held, count, place, t1, t2, t3, tp, rfl, i1, i2, i3, i4, i5, i6, p0, p1, pe, w1, w2, w3, w4, w5⟩ := hWz
    refine hG ?_
    clear hG G
    have hj : i < ns.length := by rw [← hv.length]; exact hi'
    obtain ⟨tb, eb⟩ := intsAre_get hv i hi' hj
    rw [eb] at F3
    clear eb
    generalize ns[i] = c at F3
    have N4 : News g L' h ((x, instObj 135 dx) :: (dx, rdO h1 h2 h3 h4 k1 k2 k3 k4 t0 t1 t2 t3 D at_ held count) :: (lr, W.listOf rs.toArray nr) :: (it, io) :: rest) := N3
    clear N3
    have hrx := hr
    have hr : ∀ p ∈ (lr, W.listOf rs.toArray nr) :: (it, io) :: rest, p.1 ≠ dx := List.forall_mem_cons.mpr ⟨hrx _ hmr, List.forall_mem_cons.mpr ⟨ne_obj N4 (by k_mem) (by k_mem) (fun e => by have z := congrArg Obj.cls e; rw [io1.1] at z; simp [dictOf] at z), hrx⟩⟩
    have hlen : (R.length : Int) - place = count + 8 * ((ks.length : Int) - at_) := by
      have z := congrArg List.length pe
      have lb : (bitsL (ks.drop at_.toNat)).length = 8 * (ks.drop at_.toNat).length := bits_len false _
      simp only [List.length_append, List.length_drop, rowL_length, lb] at z
      exact n_len z i1 i2 i5 p0 p1
    refine hideG fun G hG => ?_
    obtain ⟨m2, F3', y1, y2, y3, y4, y5, y6⟩ : ∃ m2, Fr g L' h m2 ∧ m2 (PySem.Str.ofString "reader") = some (.ref x) ∧ m2 (PySem.Str.ofString "data") = some (.bytes D td) ∧ m2 (PySem.Str.ofString "row") = some (.ref lr) ∧ m2 (PySem.Str.ofString "is_high") = some (.bool false) ∧ m2 (PySem.Str.ofString "place") = some (.int place tp) ∧ m2 (PySem.Str.ofString "cell") = some (.int c tb) := ⟨_, F3, w1, w2, w3, w4, w5, rfl⟩
    refine hG ?_
    clear hG G
    have F4 := fr_k6 F3' y1 y2 y3 y4 y5 y6
    clear F3 F3' w1 w2 w3 w4 w5
    refine execsM_any (hideQ fun Q' hQ' => ?_)
    k_steps
    all_goals (try (refine hQ' _ _ ?_; clear hQ' Q'))
    (try dsimp only)
    refine execsM_any (hideQ fun Q' hQ' => ?_)
    k_steps
    all_goals (try (refine hQ' _ _ ?_; clear hQ' Q'))
    (try dsimp only)
    refine execsM_any (hideQ fun Q' hQ' => ?_)
    k_steps
    all_goals (try (refine hQ' _ _ ?_; clear hQ' Q'))
    (try dsimp only)
    rename_i _ _ hX FX NX
    refine hideG fun G hG => ?_
    obtain ⟨m3, cc, tw, tcc, tbh, F5, z1, z2, z3, z4, z5, z6, z7, z8, cc0, cc20⟩ : ∃ (m3 : PySem.Str → Option Value) (cc : Int) (tw tcc tbh : Tok), Fr g L' hX m3 ∧ m3 (PySem.Str.ofString "reader") = some (.ref x) ∧ m3 (PySem.Str.ofString "data") = some (.bytes D td) ∧ m3 (PySem.Str.ofString "row") = some (.ref lr) ∧ m3 (PySem.Str.ofString "is_high") = some (.bool false) ∧ m3 (PySem.Str.ofString "place") = some (.int place tp) ∧
        m3 (PySem.Str.ofString "way") = some (.int ((c.fdiv 3).fmod 6) tw) ∧ m3 (PySem.Str.ofString "count") = some (.int cc tcc) ∧ m3 (PySem.Str.ofString "behind") = some (.int (place + cc) tbh) ∧ 0 ≤ cc ∧ cc < 20 :=
      ⟨_, _, _, _, _, FX, rfl, rfl, rfl, rfl, rfl, rfl, rfl, rfl, Int.fmod_nonneg_of_pos _ (by decide), Int.fmod_lt_of_pos _ (by decide)⟩
    refine hG ?_
    clear hG G
    have F6 := fr_k8 F5 z1 z2 z3 z4 z5 z6 z7 z8
    clear FX F5 y1 y2 y3 y4 y5 y6
    have hf8 : (-place).fmod 8 = count := by rw [Int.fmod_eq_emod_of_nonneg _ (by decide)]; omega
    refine execsM_cons (wpR_mono (Q := NextAt (RTurn (Gnd w p loose mean mg mb (ktrTop dp un gd cn cs L a ccd cl outer) base (envX cn cs L a ccd cl :: outer) g') (RInv_low x dx lr h1 h2 h3 h4 k1 k2 k3 k4 t0 td D rs nr ks R) L' ((it, io) :: rest)) s) (IfM ?mid) (fun f s₃ hmid => ?tail) fun _ _ x => x)
    case tail =>
      clear kT kB kX kP kD
      refine hideG fun G hG => ?_
      obtain ⟨rfl, hQ, tkQ, rfl, g, m, ch, ⟨kT, kB, kX, kP, kD⟩, ⟨at_, held, count, place, t1, t2, t3, tp, rfl, i1, i2, i3, i4, i5, i6, p0, p1, pe, w1, w2, w3, w4, w5⟩, FQ, NQ⟩ := hmid
      refine hG ?_
      clear hG G
      (try dsimp only)
      have NQ' : News g L' hQ ((x, instObj 135 dx) :: (dx, rdO h1 h2 h3 h4 k1 k2 k3 k4 t0 t1 t2 t3 D at_ held count) :: (lr, W.listOf rs.toArray nr) :: (it, io) :: rest) := NQ
      clear NQ
      have FQ' := fr_k5 FQ w1 w2 w3 w4 w5
      clear FQ
      have hrl := hrs.length
      have hlen : (R.length : Int) - place = count + 8 * ((ks.length : Int) - at_) := by
        have z := congrArg List.length pe
        have lb : (bitsL (ks.drop at_.toNat)).length = 8 * (ks.drop at_.toNat).length := bits_len false _
        simp only [List.length_append, List.length_drop, rowL_length, lb] at z
        exact n_len z i1 i2 i5 p0 p1
      have hat : (place + 7).fdiv 8 = at_ := by rw [Int.fdiv_eq_ediv_of_nonneg _ (by decide)]; omega
      refine execsM_any (hideQ fun Q' hQ' => ?_)
      (k_steps <;> repeat' ((with_reducible refine go_on ?_); (first | (with_reducible (k_here; k_dflt (refine' left_c ?B ?F ?X ?N ?T ?hk ?hd ?hu hD hks4 hxd hr ?_; (case B => k_asm); (case F => k_asm); (case X => k_asm); (case N => k_asm); (case T => k_asm); (case hk => first | assumption | exact rfl); (case hd => first | exact n_up (by assumption) (by decide) | ktr_room); (case hu => first | exact n_up (by assumption) (by decide) | ktr_units); k_whole); intro tL hL tkL FL NL; (try dsimp only))) | fail); k_steps))
      all_goals (try (refine hQ' _ _ ?_; clear hQ' Q'))
      · exact absurd hlen.symm (by assumption)
      · exact absurd hat.symm (by assumption)
      (try dsimp only)
      refine execsM_nil ?_
      exact ⟨g, _, [(x, instObj 135 dx), (dx, rdO h1 h2 h3 h4 k1 k2 k3 k4 t0 t1 t2 t3 D at_ held count), (lr, W.listOf rs.toArray nr)], _, _, rfl, ⟨⟨kT, kB, kX, kP, kD⟩, at_, held, count, place, t1, t2, t3, _, rfl, i1, i2, i3, i4, i5, i6, p0, p1, pe, rfl, rfl, rfl, rfl, rfl⟩, by k_asm, by k_asm⟩
    case mid =>
      k_steps
      · refine execsM_any (hideQ fun Q' hQ' => ?_)
        (k_steps <;> repeat' ((with_reducible refine go_on ?_); (first | (with_reducible (k_here; k_dflt (refine' align_c ?B ?F ?X ?N ?T ?hk ?hd ?hu hD hks4 hxd hr ?_; (case B => k_asm); (case F => k_asm); (case X => k_asm); (case N => k_asm); (case T => k_asm); (case hk => first | assumption | exact rfl); (case hd => first | exact n_up (by assumption) (by decide) | ktr_room); (case hu => first | exact n_up (by assumption) (by decide) | ktr_units); k_whole); intro t2A t3A hA tkA FA NA; (try dsimp only))) | fail); k_steps))
        all_goals (try (refine hQ' _ _ ?_; clear hQ' Q'))
        (try dsimp only)
        refine execsM_any (hideQ fun Q' hQ' => ?_)
        k_steps
        all_goals (try (refine hQ' _ _ ?_; clear hQ' Q'))
        (try dsimp only)
        refine execsM_nil ?_
        refine nextAt_ ⟨g, _, [(x, instObj 135 dx), (dx, rdO h1 h2 h3 h4 k1 k2 k3 k4 t0 t1 t2A t3A D at_ 0 0), (lr, W.listOf rs.toArray nr)], ⟨kT, kB, kX, kP, kD⟩, ⟨at_, 0, 0, _, t1, t2A, t3A, _, rfl, i1, i2, by decide, by decide, by decide, by decide, ?pl0, ?pl1, ?ple, rfl, rfl, rfl, rfl, rfl⟩, by k_asm, by k_asm⟩
        case pl0 => omega
        case pl1 => omega
        case ple =>
          rw [hf8, n_add p0 i5, ← List.drop_drop, pe]
          exact List.drop_left' (rowL_length _ _)
      · refine execsM_cons (wpR_mono (Q := NextAt (RTurn (Gnd w p loose mean mg mb (ktrTop dp un gd cn cs L a ccd cl outer) base (envX cn cs L a ccd cl :: outer) g') (RMid_low x dx lr h1 h2 h3 h4 k1 k2 k3 k4 t0 td tp D rs nr ks R place) L' ((it, io) :: rest)) s) ?inner (fun f s₃ hmid2 => ?tail2) fun _ _ x => x)
        case tail2 =>
          clear kT kB kX kP kD
          refine hideG fun G hG => ?_
          obtain ⟨rfl, hQ, tkQ, rfl, g, m, ch, ⟨kT, kB, kX, kP, kD⟩, ⟨w1, w2, w3, w4, w5, at_, held, count, bh, t1, t2, t3, tbh, rfl, i1, i2, i3, i4, i5, i6, w6, b0, hcase⟩, FQ, NQ⟩ := hmid2
          refine hG ?_
          clear hG G
          (try dsimp only)
          have NQ' : News g L' hQ ((x, instObj 135 dx) :: (dx, rdO h1 h2 h3 h4 k1 k2 k3 k4 t0 t1 t2 t3 D at_ held count) :: (lr, W.listOf rs.toArray nr) :: (it, io) :: rest) := NQ
          clear NQ
          have hrl := hrs.length
          rcases hcase with ⟨hle, hdr, ⟨v, u1, u2, wd, wf⟩ | ⟨o, u1, u2, wd, wf⟩⟩ | ⟨hgt, pe', wf, dv, wd⟩
          · have FQ' := fr_k8 FQ w1 w2 w3 w4 w5 w6 wd wf
            clear FQ
            refine execsM_any (hideQ fun Q' hQ' => ?_)
            k_steps
            all_goals (try (refine hQ' _ _ ?_; clear hQ' Q'))
            · exact absurd rfl (by assumption)
            (try dsimp only)
            refine execsM_any (hideQ fun Q' hQ' => ?_)
            k_steps
            all_goals (try (refine hQ' _ _ ?_; clear hQ' Q'))
            (try dsimp only)
            refine execsM_nil ?_
            exact nextAt_ ⟨g, _, [(x, instObj 135 dx), (dx, rdO h1 h2 h3 h4 k1 k2 k3 k4 t0 t1 t2 t3 D at_ held count), (lr, W.listOf rs.toArray nr)], ⟨kT, kB, kX, kP, kD⟩, ⟨at_, held, count, bh, t1, t2, t3, _, rfl, i1, i2, i3, i4, i5, i6, by omega, by omega, hdr, rfl, rfl, rfl, rfl, rfl⟩, by k_asm, by k_asm⟩
          · have FQ' := fr_k8 FQ w1 w2 w3 w4 w5 w6 wd wf
            clear FQ
            refine execsM_any (hideQ fun Q' hQ' => ?_)
            k_steps
            all_goals (try (refine hQ' _ _ ?_; clear hQ' Q'))
            · rename_i hne; simp at hne
            (try dsimp only)
            refine execsM_any (hideQ fun Q' hQ' => ?_)
            k_steps
            all_goals (try (refine hQ' _ _ ?_; clear hQ' Q'))
            (try dsimp only)
            refine execsM_nil ?_
            exact nextAt_ ⟨g, _, [(x, instObj 135 dx), (dx, rdO h1 h2 h3 h4 k1 k2 k3 k4 t0 t1 t2 t3 D at_ held count), (lr, W.listOf rs.toArray nr)], ⟨kT, kB, kX, kP, kD⟩, ⟨at_, held, count, bh, t1, t2, t3, _, rfl, i1, i2, i3, i4, i5, i6, by omega, by omega, hdr, rfl, rfl, rfl, rfl, rfl⟩, by k_asm, by k_asm⟩
          · have FQ' := fr_k8 FQ w1 w2 w3 w4 w5 w6 wd wf
            clear FQ
            refine execsM_any (hideQ fun Q' hQ' => ?_)
            k_steps
            all_goals (try (refine hQ' _ _ ?_; clear hQ' Q'))
            (try dsimp only)
            refine execsM_any (hideQ fun Q' hQ' => ?_)
            k_steps
            all_goals (try (refine hQ' _ _ ?_; clear hQ' Q'))
            (try dsimp only)
            refine execsM_nil ?_
            exact nextAt_ ⟨g, _, [(x, instObj 135 dx), (dx, rdO h1 h2 h3 h4 k1 k2 k3 k4 t0 t1 t2 t3 D at_ held count), (lr, W.listOf rs.toArray nr)], ⟨kT, kB, kX, kP, kD⟩, ⟨at_, held, count, place, t1, t2, t3, _, rfl, i1, i2, i3, i4, i5, i6, by omega, by omega, pe', rfl, rfl, rfl, rfl, rfl⟩, by k_asm, by k_asm⟩
        case inner =>
          refine IfM ?_
          have cc40 : cc ≤ 40 := by omega
          k_steps
          · refine execsM_any (hideQ fun Q' hQ' => ?_)
            k_steps
            all_goals (try (refine hQ' _ _ ?_; clear hQ' Q'))
            (try dsimp only)
            refine execsM_any (hideQ fun Q' hQ' => ?_)
            k_steps
            all_goals (try (refine hQ' _ _ ?_; clear hQ' Q'))
            (try dsimp only)
            rename_i _ hX2 F7 N7
            refine hideG fun G hG => ?_
            obtain ⟨m4, dd, tdd, tbh, F8, d0, d3, z1, z2, z3, z4, z5, z7, z8⟩ : ∃ (m4 : PySem.Str → Option Value) (dd : Int) (tdd tbh : Tok), Fr g L' hX2 m4 ∧ 0 ≤ dd ∧ dd < 3 ∧ m4 (PySem.Str.ofString "reader") = some (.ref x) ∧ m4 (PySem.Str.ofString "data") = some (.bytes D td) ∧ m4 (PySem.Str.ofString "row") = some (.ref lr) ∧ m4 (PySem.Str.ofString "is_high") = some (.bool false) ∧ m4 (PySem.Str.ofString "place") = some (.int place tp) ∧
                m4 (PySem.Str.ofString "count") = some (.int dd tdd) ∧ m4 (PySem.Str.ofString "behind") = some (.int (place + (-place).fmod 8 + 8 * dd) tbh) :=
              ⟨_, _, _, _, F7, Int.fmod_nonneg_of_pos _ (by decide), Int.fmod_lt_of_pos _ (by decide), rfl, rfl, rfl, rfl, rfl, rfl, rfl⟩
            refine hG ?_
            clear hG G
            rw [hf8] at z8
            obtain ⟨bh, ebh⟩ : ∃ bh, place + count + 8 * dd = bh := ⟨_, rfl⟩
            rw [ebh] at z8
            have ebh8 : bh.fdiv 8 = at_ + dd := by rw [Int.fdiv_eq_ediv_of_nonneg _ (by decide)]; omega
            have F9 := fr_k7 F8 z1 z2 z3 z4 z5 z7 z8
            have d40 : dd ≤ 40 := by omega
            clear F7 F8
            refine execsM_any (hideQ fun Q' hQ' => ?_)
            k_steps
            all_goals (try (refine hQ' _ _ ?_; clear hQ' Q'))
            (try dsimp only)
            rename_i _ tD0 kD0 ekb hX3 F10 N10
            refine hideG fun G hG => ?_
            obtain ⟨m5, ob, tob, F11, eob, z1, z2, z3, z4, z5, z7, z8, z9⟩ : ∃ (m5 : PySem.Str → Option Value) (ob : Array UInt8) (tob : Tok), Fr g L' hX3 m5 ∧ KBw.bInts ob = List.take (clipAt ks.length (bh.fdiv 8) - clipAt ks.length (bh.fdiv 8 - dd)) (List.drop (clipAt ks.length (bh.fdiv 8 - dd)) ks) ∧ m5 (PySem.Str.ofString "reader") = some (.ref x) ∧ m5 (PySem.Str.ofString "data") = some (.bytes D td) ∧ m5 (PySem.Str.ofString "row") = some (.ref lr) ∧ m5 (PySem.Str.ofString "is_high") = some (.bool false) ∧ m5 (PySem.Str.ofString "place") = some (.int place tp) ∧
                m5 (PySem.Str.ofString "count") = some (.int dd tdd) ∧ m5 (PySem.Str.ofString "behind") = some (.int bh tbh) ∧ m5 (PySem.Str.ofString "due") = some (.bytes ob tob) :=
              ⟨_, _, _, F10, ekb, rfl, rfl, rfl, rfl, rfl, rfl, rfl, rfl⟩
            refine hG ?_
            clear hG G
            have F12 := fr_k8 F11 z1 z2 z3 z4 z5 z7 z8 z9
            clear F10 F11 ekb
            refine execsM_any ?_
            by_cases hcy : 8 * dd ≤ 8 * ((ks.length : Int) - at_)
            · (k_steps <;> repeat' ((with_reducible refine go_on ?_); (first | (with_reducible (k_here; k_dflt (refine' taken5_ok ?B ?F ?X ?N ?T ?hk ?hd ?hu hD hks4 hxd hr hcy i1 i2 d0 d40 ?_; (case B => k_asm); (case F => k_asm); (case X => k_asm); (case N => k_asm); (case T => k_asm); (case hk => first | assumption | exact rfl); (case hd => first | exact n_up (by assumption) (by decide) | ktr_room); (case hu => first | exact n_up (by assumption) (by decide) | ktr_units); k_whole); intro oK tK t1K t2K t3K hK tkK eK FK NK; (try dsimp only))) | fail); k_steps))
              (try dsimp only)
              refine execsM_nil ?_
              have e1 : ob = oK := bInts_inj (eob.trans (by
                rw [eK, ebh8, clip_in (n := ks.length) (i := at_ + dd) (by omega) (by omega), clip_in (n := ks.length) (i := at_ + dd - dd) (by omega) (by omega), show at_ + dd - dd = at_ by omega, pow_toNat_add i1 d0, Nat.add_sub_cancel_left]))
              subst e1
              refine nextAt_ ⟨g, _, [(x, instObj 135 dx), (dx, rdO h1 h2 h3 h4 k1 k2 k3 k4 t0 t1K t2K t3K D (at_ + dd) 0 0), (lr, W.listOf rs.toArray nr)], ⟨kT, kB, kX, kP, kD⟩, ⟨rfl, rfl, rfl, rfl, rfl, at_ + dd, 0, 0, bh, t1K, t2K, t3K, tbh, rfl, by omega, by omega, by decide, by decide, by decide, by decide, rfl, by omega, .inl ⟨by omega, ?drA, .inr ⟨_, _, _, rfl, rfl⟩⟩⟩, by k_asm, by k_asm⟩
              case drA =>
                rw [hR, show bh = 8 * (at_ + dd) by omega, n_8 (show 0 ≤ at_ + dd by omega)]
                exact bits_drop false ks _
            · have hcn := hcy
              clear hcy
              (k_steps <;> repeat' ((with_reducible refine go_on ?_); (first | (with_reducible (k_here; k_dflt (refine' taken5_no ?B ?F ?X ?N ?T ?hk ?hd ?hu XB TB ?D hD hks4 hxd hr hcn ?_; (case B => k_asm); (case F => k_asm); (case X => k_asm); (case N => k_asm); (case T => k_asm); (case hk => first | assumption | exact rfl); (case hd => first | exact n_up (by assumption) (by decide) | ktr_room); (case hu => first | exact n_up (by assumption) (by decide) | ktr_units); (case D => assumption); k_whole); intro gR hR tkR kT2 FR NR kB2 kX2 kP2 kD2; (try dsimp only))) | fail); k_steps))
              (try dsimp only)
              refine execsM_nil ?_
              exact nextAt_ ⟨gR, _, [(x, instObj 135 dx), (dx, rdO h1 h2 h3 h4 k1 k2 k3 k4 t0 t1 t2 t3 D at_ held count), (lr, W.listOf rs.toArray nr)], ⟨kT.trans kT2, kB2, kX2, kP2, kD2⟩, ⟨rfl, rfl, rfl, rfl, rfl, at_, held, count, bh, t1, t2, t3, tbh, rfl, i1, i2, i3, i4, i5, i6, rfl, by omega, .inr ⟨by omega, pe, rfl, _, rfl⟩⟩, by k_asm, by k_asm⟩
          · refine execsM_any (hideQ fun Q' hQ' => ?_)
            (k_steps <;> repeat' ((with_reducible refine go_on ?_); (first | (with_reducible (k_here; k_dflt (refine' number_m ?B ?F ?X ?N ?hm ?T ?hk ?hd ?hu ?hv ?hn ?_; (case B => k_asm); (case F => k_asm); (case X => k_asm); (case N => k_asm); (case T => k_asm); (case hk => first | assumption | exact rfl); (case hd => first | exact n_up (by assumption) (by decide) | ktr_room); (case hu => first | exact n_up (by assumption) (by decide) | ktr_units); (case hm => k_mem); (case hv => assumption); (case hn => (simp only [List.length_take, List.length_drop]; exact n_64 p0 cc0 cc20)); k_whole); intro tN hN tkN FN NN; (try dsimp only))) | fail); k_steps))
            all_goals (try (refine hQ' _ _ ?_; clear hQ' Q'))
            (try dsimp only)
            rename_i hX2 F7 N7
            have N8 := uncons N7
            clear N7
            refine hideG fun G hG => ?_
            obtain ⟨m4, dv, tdv, F8, edv, z1, z2, z3, z4, z5, z6, z7, z8, z9⟩ : ∃ (m4 : PySem.Str → Option Value) (dv : Int) (tdv : Tok), Fr g L' hX2 m4 ∧ dv = num false (List.take (min (place + cc).toNat R.length - place.toNat) (List.drop place.toNat R)) ∧ m4 (PySem.Str.ofString "reader") = some (.ref x) ∧ m4 (PySem.Str.ofString "data") = some (.bytes D td) ∧ m4 (PySem.Str.ofString "row") = some (.ref lr) ∧ m4 (PySem.Str.ofString "is_high") = some (.bool false) ∧ m4 (PySem.Str.ofString "place") = some (.int place tp) ∧
                m4 (PySem.Str.ofString "way") = some (.int ((c.fdiv 3).fmod 6) tw) ∧ m4 (PySem.Str.ofString "count") = some (.int cc tcc) ∧ m4 (PySem.Str.ofString "behind") = some (.int (place + cc) tbh) ∧ m4 (PySem.Str.ofString "due") = some (.int dv tdv) :=
              ⟨_, _, _, F7, rfl, rfl, rfl, rfl, rfl, rfl, rfl, rfl, rfl, rfl⟩
            refine hG ?_
            clear hG G
            have F9 := fr_k9 F8 z1 z2 z3 z4 z5 z6 z7 z8 z9
            clear F7 F8
            refine execsM_any ?_
            by_cases hcy : cc ≤ count + 8 * ((ks.length : Int) - at_)
            · (k_steps <;> repeat' ((with_reducible refine go_on ?_); (first | (with_reducible (k_here; k_dflt (refine' taken_ok ?B ?F ?X ?N ?T ?hk ?hd ?hu hD hks4 hxd hr hcy i1 i2 i3 i4 i5 i6 cc0 cc40 ?_; (case B => k_asm); (case F => k_asm); (case X => k_asm); (case N => k_asm); (case T => k_asm); (case hk => first | assumption | exact rfl); (case hd => first | exact n_up (by assumption) (by decide) | ktr_room); (case hu => first | exact n_up (by assumption) (by decide) | ktr_units); k_whole); intro vK atK heldK countK tK t1K t2K t3K hK tkK j1 j2 j3 j4 j5 j6 j7 j8 j9 j10 FK NK; (try dsimp only))) | fail); k_steps))
              (try dsimp only)
              refine execsM_nil ?_
              have e1 : dv = vK := by
                rw [edv, n_min p0 cc0 (by omega), pe, j8, List.take_left' (rowL_length _ _)]
                exact num_row false j9 j10
              subst e1
              refine nextAt_ ⟨g, _, [(x, instObj 135 dx), (dx, rdO h1 h2 h3 h4 k1 k2 k3 k4 t0 t1K t2K t3K D atK heldK countK), (lr, W.listOf rs.toArray nr)], ⟨kT, kB, kX, kP, kD⟩, ⟨rfl, rfl, rfl, rfl, rfl, atK, heldK, countK, place + cc, t1K, t2K, t3K, tbh, rfl, j1, j2, j3, j4, j5, j6, rfl, by omega, .inl ⟨by omega, ?dr, .inl ⟨_, _, _, rfl, rfl⟩⟩⟩, by k_asm, by k_asm⟩
              rw [n_add p0 cc0, ← List.drop_drop, pe, j8]
              exact List.drop_left' (rowL_length _ _)
            · have hcn := hcy
              clear hcy
              (k_steps <;> repeat' ((with_reducible refine go_on ?_); (first | (with_reducible (k_here; k_dflt (refine' taken_no ?B ?F ?X ?N ?T ?hk ?hd ?hu XB TB ?D hD hks4 hxd hr hcn ?_; (case B => k_asm); (case F => k_asm); (case X => k_asm); (case N => k_asm); (case T => k_asm); (case hk => first | assumption | exact rfl); (case hd => first | exact n_up (by assumption) (by decide) | ktr_room); (case hu => first | exact n_up (by assumption) (by decide) | ktr_units); (case D => assumption); k_whole); intro gR hR tkR kT2 FR NR kB2 kX2 kP2 kD2; (try dsimp only))) | fail); k_steps))
              (try dsimp only)
              refine execsM_nil ?_
              exact nextAt_ ⟨gR, _, [(x, instObj 135 dx), (dx, rdO h1 h2 h3 h4 k1 k2 k3 k4 t0 t1 t2 t3 D at_ held count), (lr, W.listOf rs.toArray nr)], ⟨kT.trans kT2, kB2, kX2, kP2, kD2⟩, ⟨rfl, rfl, rfl, rfl, rfl, at_, held, count, place + cc, t1, t2, t3, tbh, rfl, i1, i2, i3, i4, i5, i6, rfl, by omega, .inr ⟨by omega, pe, rfl, _, rfl⟩⟩, by k_asm, by k_asm⟩

  case done =>
    clear B' X' T' D' F' N'
    intro g m ch h tk hWz F3 N3
    refine hideG fun G hG => ?_
    obtain ⟨⟨kT, kB, kX, kP, kD⟩, at_, held, count, place, t1, t2, t3, tp, rfl, i1, i2, i3, i4, i5, i6, p0, p1, pe, w1, w2, w3, w4, w5⟩ := hWz
    refine hG ?_
    clear hG G
    (try dsimp only)
    refine execsM_any (hideQ fun Q' hQ' => ?_)
    k_steps
    all_goals (try (refine hQ' _ _ ?_; clear hQ' Q'))
    refine' leaveT_ F3 N3 kT fun h₀' kT' kF' kN' kB' kX' kP' kD' => ?_
    exact ret h₀' _ _ kT' kF' (fun p hp => kN' p (.tail _ (.tail _ (.tail _ hp)))) kB' kX' kP' kD'
end
end
section -- C24
set_option maxRecDepth 100000
set_option maxHeartbeats 8000000
set_option linter.unusedVariables false

inductive RInv_high (x dx lr : Addr) (h1 h2 h3 h4 : Int) (k1 k2 k3 k4 t0 td : Tok) (D : Array UInt8) (rs : List Value) (nr : Nat) (ks R : List Int) (m : PySem.Str → Option Value) (ch : List (Addr × Obj)) : Prop
  | mk (at_ held count place : Int) (t1 t2 t3 tp : Tok) (e : ch = [(x, instObj 177 dx), (dx, rdO h1 h2 h3 h4 k1 k2 k3 k4 t0 t1 t2 t3 D at_ held count), (lr, W.listOf rs.toArray nr)]) (a0 : 0 ≤ at_) (a1 : at_ ≤ ks.length) (a2 : 0 ≤ held) (a3 : held < 2 ^ count.toNat) (a4 : 0 ≤ count) (a5 : count < 8) (a6 : 0 ≤ place) (a7 : place ≤ R.length)
    (a8 : R.drop place.toNat = rowH held count.toNat ++ bitsH (ks.drop at_.toNat)) (b1 : m (PySem.Str.ofString "reader") = some (.ref x)) (b2 : m (PySem.Str.ofString "data") = some (.bytes D td)) (b3 : m (PySem.Str.ofString "row") = some (.ref lr)) (b4 : m (PySem.Str.ofString "is_high") = some (.bool true)) (b5 : m (PySem.Str.ofString "place") = some (.int place tp)) : RInv_high x dx lr h1 h2 h3 h4 k1 k2 k3 k4 t0 td D rs nr ks R m ch
inductive RMid_high (x dx lr : Addr) (h1 h2 h3 h4 : Int) (k1 k2 k3 k4 t0 td tp : Tok) (D : Array UInt8) (rs : List Value) (nr : Nat) (ks R : List Int) (place : Int) (m : PySem.Str → Option Value) (ch : List (Addr × Obj)) : Prop
  | mk (b1 : m (PySem.Str.ofString "reader") = some (.ref x)) (b2 : m (PySem.Str.ofString "data") = some (.bytes D td)) (b3 : m (PySem.Str.ofString "row") = some (.ref lr)) (b4 : m (PySem.Str.ofString "is_high") = some (.bool true)) (b5 : m (PySem.Str.ofString "place") = some (.int place tp))
    (at_ held count bh : Int) (t1 t2 t3 tbh : Tok) (e : ch = [(x, instObj 177 dx), (dx, rdO h1 h2 h3 h4 k1 k2 k3 k4 t0 t1 t2 t3 D at_ held count), (lr, W.listOf rs.toArray nr)]) (a0 : 0 ≤ at_) (a1 : at_ ≤ ks.length) (a2 : 0 ≤ held) (a3 : held < 2 ^ count.toNat) (a4 : 0 ≤ count) (a5 : count < 8) (b6 : m (PySem.Str.ofString "behind") = some (.int bh tbh)) (a6 : 0 ≤ bh)
    (a8 : (bh ≤ R.length ∧ R.drop bh.toNat = rowH held count.toNat ++ bitsH (ks.drop at_.toNat) ∧ ((∃ v u1 u2, m (PySem.Str.ofString "due") = some (.int v u1) ∧ m (PySem.Str.ofString "found") = some (.int v u2)) ∨ ∃ o u1 u2, m (PySem.Str.ofString "due") = some (.bytes o u1) ∧ m (PySem.Str.ofString "found") = some (.bytes o u2))) ∨
           (¬ bh ≤ R.length ∧ R.drop place.toNat = rowH held count.toNat ++ bitsH (ks.drop at_.toNat) ∧ m (PySem.Str.ofString "found") = some .none ∧ ∃ dv, m (PySem.Str.ofString "due") = some dv)) : RMid_high x dx lr h1 h2 h3 h4 k1 k2 k3 k4 t0 td tp D rs nr ks R place m ch
section
variable {w : World} {p : Program} {loose : List PySem.Str} {mean : ExcName → Option Value} {mg mb : PySem.Str → Option Value}
  {dp un : Nat} {gd : Option (List Code)} {cn : PySem.Str} {cs : Scope} {a : Addr} {ccd : Value} {cl : List (PySem.Str × Addr)} {outer : List Env} {A₀ : Around} {base h₀ : Heap} {L : Addr} {m : PySem.Str → Option Value} {rest : List (Addr × Obj)} {s : Shared} {Q E : Value → Shared → Prop}
  {h1 h2 h3 h4 : Int} {k1 k2 k3 k4 t0 t1 t2 t3 : Tok} {D : Array UInt8} {x dx l lr : Addr} {vs rs : List Value} {ns ks R : List Int} {n nr : Nat}

theorem read_high {st : Int} {td tp ti : Tok} (B : Below A₀ base outer h₀) (F : Fr h₀ L s.heap m) (X : (Mine.hd.heap_39 w.params).In h₀) (N : News h₀ L s.heap ((x, instObj 177 dx) :: (dx, rdO h1 h2 h3 h4 k1 k2 k3 k4 t0 t1 t2 t3 D st 0 0) :: rest)) (T : Top p loose mean mg mb h₀) (hk : cs.kind = .function)
    (hd : dp + 40 < recursionLimit) (hu : un + 1000 < cLine) (XB : (Mine.hd.heap_39 w.params).In base) (TB : Top p loose mean mg mb base) (DT : KtsDicts (outer.filterMap (·.frame)) h₀)
    (hD : KBw.bInts D = ks) (hks : ks.length ≤ 400) (hxd : x ≠ dx) (hr : ∀ p ∈ rest, p.1 ≠ dx) (hm : (l, W.listOf vs.toArray n) ∈ rest) (hv : IntsAre vs ns) (hn : ns.length ≤ 25) (hmr : (lr, W.listOf rs.toArray nr) ∈ rest) (hrs : IntsAre rs R) (hR : R = bitsH ks)
    (s0 : 0 ≤ st) (s1 : st ≤ ks.length)
    (ret : ∀ h₀' h' tk, KtsTurn (outer.filterMap (·.frame)) h₀ h₀' → Fr h₀' L h' m → News h₀' L h' rest → Below A₀ base outer h₀' → (Mine.hd.heap_39 w.params).In h₀' → Top p loose mean mg mb h₀' → KtsDicts (outer.filterMap (·.frame)) h₀' → Q (.bool true) { s with heap := h', toks := tk }) :
    wpAny (model Challenge.rw_nn0201_01.row.prog w) (ktrTop dp un gd cn cs L a ccd cl outer) (call (.ref 341) [.ref x, .bytes D td, .ref lr, .ref l, .int (8 * st) tp, .bool true]) Q E s := by
  have hRl : R.length = 8 * ks.length := by rw [hR]; exact bits_len true ks
  have hks4 : ks.length ≤ 4096 := by omega
  refine wpAny_call (code_of_M ?_)
  k_dflt (refine' code_defT (b := false) ?k1 ?k2 ?k3 ?k4 ?k5 ?XB ?TB ?D ?kA ?kF ?kK ?k6 ?k7 ?k8 ?k9 ?kB ?_ ?c2 ?c3 ?c4 ?c5; (case kA => exact rfl); (case kF => exact rfl); (case kK => assumption); (case k1 => k_asm); (case k2 => k_asm); (case k3 => k_asm); (case k4 => k_asm); (case k5 => k_asm); (case XB => assumption); (case TB => assumption); (case D => assumption); (case k6 => k_is); (case k7 => k_is); (case k8 => ktr_room); (case k9 => first | exact BindsTo.of_eq rfl | exact binds_K (by k_in) rfl (by k_is) rfl rfl rfl); (case c5 => decide); (case kB => exact locs rfl); (case c2 => exact rfl); (case c3 => exact rfl); (case c4 => exact rfl); k_whole; intro g' L' h' tkE FG' F' N' B' X' T' D'; (try dsimp only); (try k_lift B'); (try k_fold))
  refine execsM_cons (ForM ?_)
  k_steps
  refine' forListT (cl := []) (vs := vs) (n := n) (ch := [(x, instObj 177 dx), (dx, rdO h1 h2 h3 h4 k1 k2 k3 k4 t0 t1 t2 t3 D st 0 0), (lr, W.listOf rs.toArray nr)]) (rest := rest)
    (fun i g m ch => (Gnd w p loose mean mg mb (ktrTop dp un gd cn cs L a ccd cl outer) base (envX cn cs L a ccd cl :: outer) g' g) ∧ RInv_high x dx lr h1 h2 h3 h4 k1 k2 k3 k4 t0 td D rs nr ks R m ch) rfl F' (pickN N' (by k_mem) (pickN N' (by k_mem) (pickN N' (.tail _ (.tail _ hmr)) (fun p hp => N' p (.tail _ (.tail _ hp)))))) ?hJ ?hl ?hc ?turn ?done
  case hJ => exact ⟨⟨KtsTurn.refl, B', X', T', D'⟩, st, 0, 0, 8 * st, t1, t2, t3, tp, rfl, s0, s1, by decide, by decide, by decide, by decide, by omega, by omega, (by
    rw [hR]
    show (bits true ks).drop (8 * st).toNat = bits true (ks.drop st.toNat)
    rw [n_8 s0]
    exact (bits_drop true ks st.toNat)), rfl, rfl, rfl, rfl, rfl⟩
  case hl => exact fun i g m ch _ => List.mem_append.mpr (.inr hm)
  case hc =>
    intro i g m ch hWz p hp
    refine hideG fun G hG => ?_
    obtain ⟨_, at_, held, count, place, t1, t2, t3, tp, rfl, _⟩ := hWz
    refine hG ?_
    clear hG G
    simp only [List.mem_cons, List.not_mem_nil, or_false] at hp
    rcases hp with rfl | rfl | rfl
    · intro e; simp at e
    · intro e; simp [dictOf] at e
    · intro e; simp [W.listOf] at e
  case turn =>
    clear B' X' T' D' F' N'
    intro i hi' it io g m ch h tk io1 hWz F3 N3
    refine hideG fun G hG => ?_
    obtain ⟨⟨kT, kB, kX, kP, kD⟩, at_, held, count, place, t1, t2, t3, tp, rfl, i1, i2, i3, i4, i5, i6, p0, p1, pe, w1, w2, w3, w4, w5⟩ := hWz
    refine hG ?_
    clear hG G
    have hj : i < ns.length := by rw [← hv.length]; exact hi'
    obtain ⟨tb, eb⟩ := intsAre_get hv i hi' hj
    rw [eb] at F3
    clear eb
    generalize ns[i] = c at F3
    have N4 : News g L' h ((x, instObj 177 dx) :: (dx, rdO h1 h2 h3 h4 k1 k2 k3 k4 t0 t1 t2 t3 D at_ held count) :: (lr, W.listOf rs.toArray nr) :: (it, io) :: rest) := N3
    clear N3
    have hrx := hr
    have hr : ∀ p ∈ (lr, W.listOf rs.toArray nr) :: (it, io) :: rest, p.1 ≠ dx := List.forall_mem_cons.mpr ⟨hrx _ hmr, List.forall_mem_cons.mpr ⟨ne_obj N4 (by k_mem) (by k_mem) (fun e => by have z := congrArg Obj.cls e; rw [io1.1] at z; simp [dictOf] at z), hrx⟩⟩
    have hlen : (R.length : Int) - place = count + 8 * ((ks.length : Int) - at_) := by
      have z := congrArg List.length pe
      have lb : (bitsH (ks.drop at_.toNat)).length = 8 * (ks.drop at_.toNat).length := bits_len true _
      simp only [List.length_append, List.length_drop, rowH_length, lb] at z
      exact n_len z i1 i2 i5 p0 p1
    refine hideG fun G hG => ?_
    obtain ⟨m2, F3', y1, y2, y3, y4, y5, y6⟩ : ∃ m2, Fr g L' h m2 ∧ m2 (PySem.Str.ofString "reader") = some (.ref x) ∧ m2 (PySem.Str.ofString "data") = some (.bytes D td) ∧ m2 (PySem.Str.ofString "row") = some (.ref lr) ∧ m2 (PySem.Str.ofString "is_high") = some (.bool true) ∧ m2 (PySem.Str.ofString "place") = some (.int place tp) ∧ m2 (PySem.Str.ofString "cell") = some (.int c tb) := ⟨_, F3, w1, w2, w3, w4, w5, rfl⟩
    refine hG ?_
    clear hG G
    have F4 := fr_k6 F3' y1 y2 y3 y4 y5 y6
    clear F3 F3' w1 w2 w3 w4 w5
    refine execsM_any (hideQ fun Q' hQ' => ?_)
    k_steps
    all_goals (try (refine hQ' _ _ ?_; clear hQ' Q'))
    (try dsimp only)
    refine execsM_any (hideQ fun Q' hQ' => ?_)
    k_steps
    all_goals (try (refine hQ' _ _ ?_; clear hQ' Q'))
    (try dsimp only)
    refine execsM_any (hideQ fun Q' hQ' => ?_)
    k_steps
    all_goals (try (refine hQ' _ _ ?_; clear hQ' Q'))
    (try dsimp only)
    rename_i _ _ hX FX NX
    refine hideG fun G hG => ?_
    obtain ⟨m3, cc, tw, tcc, tbh, F5, z1, z2, z3, z4, z5, z6, z7, z8, cc0, cc20⟩ : ∃ (m3 : PySem.Str → Option Value) (cc : Int) (tw tcc tbh : Tok), Fr g L' hX m3 ∧ m3 (PySem.Str.ofString "reader") = some (.ref x) ∧ m3 (PySem.Str.ofString "data") = some (.bytes D td) ∧ m3 (PySem.Str.ofString "row") = some (.ref lr) ∧ m3 (PySem.Str.ofString "is_high") = some (.bool true) ∧ m3 (PySem.Str.ofString "place") = some (.int place tp) ∧
        m3 (PySem.Str.ofString "way") = some (.int ((c.fdiv 3).fmod 6) tw) ∧ m3 (PySem.Str.ofString "count") = some (.int cc tcc) ∧ m3 (PySem.Str.ofString "behind") = some (.int (place + cc) tbh) ∧ 0 ≤ cc ∧ cc < 20 :=
      ⟨_, _, _, _, _, FX, rfl, rfl, rfl, rfl, rfl, rfl, rfl, rfl, Int.fmod_nonneg_of_pos _ (by decide), Int.fmod_lt_of_pos _ (by decide)⟩
    refine hG ?_
    clear hG G
    have F6 := fr_k8 F5 z1 z2 z3 z4 z5 z6 z7 z8
    clear FX F5 y1 y2 y3 y4 y5 y6
    have hf8 : (-place).fmod 8 = count := by rw [Int.fmod_eq_emod_of_nonneg _ (by decide)]; omega
    refine execsM_cons (wpR_mono (Q := NextAt (RTurn (Gnd w p loose mean mg mb (ktrTop dp un gd cn cs L a ccd cl outer) base (envX cn cs L a ccd cl :: outer) g') (RInv_high x dx lr h1 h2 h3 h4 k1 k2 k3 k4 t0 td D rs nr ks R) L' ((it, io) :: rest)) s) (IfM ?mid) (fun f s₃ hmid => ?tail) fun _ _ x => x)
    case tail =>
      clear kT kB kX kP kD
      refine hideG fun G hG => ?_
      obtain ⟨rfl, hQ, tkQ, rfl, g, m, ch, ⟨kT, kB, kX, kP, kD⟩, ⟨at_, held, count, place, t1, t2, t3, tp, rfl, i1, i2, i3, i4, i5, i6, p0, p1, pe, w1, w2, w3, w4, w5⟩, FQ, NQ⟩ := hmid
      refine hG ?_
      clear hG G
      (try dsimp only)
      have NQ' : News g L' hQ ((x, instObj 177 dx) :: (dx, rdO h1 h2 h3 h4 k1 k2 k3 k4 t0 t1 t2 t3 D at_ held count) :: (lr, W.listOf rs.toArray nr) :: (it, io) :: rest) := NQ
      clear NQ
      have FQ' := fr_k5 FQ w1 w2 w3 w4 w5
      clear FQ
      have hrl := hrs.length
      have hlen : (R.length : Int) - place = count + 8 * ((ks.length : Int) - at_) := by
        have z := congrArg List.length pe
        have lb : (bitsH (ks.drop at_.toNat)).length = 8 * (ks.drop at_.toNat).length := bits_len true _
        simp only [List.length_append, List.length_drop, rowH_length, lb] at z
        exact n_len z i1 i2 i5 p0 p1
      have hat : (place + 7).fdiv 8 = at_ := by rw [Int.fdiv_eq_ediv_of_nonneg _ (by decide)]; omega
      refine execsM_any (hideQ fun Q' hQ' => ?_)
      (k_steps <;> repeat' ((with_reducible refine go_on ?_); (first | (with_reducible (k_here; k_dflt (refine' hleft_c ?B ?F ?X ?N ?T ?hk ?hd ?hu hD hks4 hxd hr ?_; (case B => k_asm); (case F => k_asm); (case X => k_asm); (case N => k_asm); (case T => k_asm); (case hk => first | assumption | exact rfl); (case hd => first | exact n_up (by assumption) (by decide) | ktr_room); (case hu => first | exact n_up (by assumption) (by decide) | ktr_units); k_whole); intro tL hL tkL FL NL; (try dsimp only))) | fail); k_steps))
      all_goals (try (refine hQ' _ _ ?_; clear hQ' Q'))
      · exact absurd hlen.symm (by assumption)
      · exact absurd hat.symm (by assumption)
      (try dsimp only)
      refine execsM_nil ?_
      exact ⟨g, _, [(x, instObj 177 dx), (dx, rdO h1 h2 h3 h4 k1 k2 k3 k4 t0 t1 t2 t3 D at_ held count), (lr, W.listOf rs.toArray nr)], _, _, rfl, ⟨⟨kT, kB, kX, kP, kD⟩, at_, held, count, place, t1, t2, t3, _, rfl, i1, i2, i3, i4, i5, i6, p0, p1, pe, rfl, rfl, rfl, rfl, rfl⟩, by k_asm, by k_asm⟩
    case mid =>
      k_steps
      · refine execsM_any (hideQ fun Q' hQ' => ?_)
        (k_steps <;> repeat' ((with_reducible refine go_on ?_); (first | (with_reducible (k_here; k_dflt (refine' halign_c ?B ?F ?X ?N ?T ?hk ?hd ?hu hD hks4 hxd hr ?_; (case B => k_asm); (case F => k_asm); (case X => k_asm); (case N => k_asm); (case T => k_asm); (case hk => first | assumption | exact rfl); (case hd => first | exact n_up (by assumption) (by decide) | ktr_room); (case hu => first | exact n_up (by assumption) (by decide) | ktr_units); k_whole); intro t2A t3A hA tkA FA NA; (try dsimp only))) | fail); k_steps))
        all_goals (try (refine hQ' _ _ ?_; clear hQ' Q'))
        (try dsimp only)
        refine execsM_any (hideQ fun Q' hQ' => ?_)
        k_steps
        all_goals (try (refine hQ' _ _ ?_; clear hQ' Q'))
        (try dsimp only)
        refine execsM_nil ?_
        refine nextAt_ ⟨g, _, [(x, instObj 177 dx), (dx, rdO h1 h2 h3 h4 k1 k2 k3 k4 t0 t1 t2A t3A D at_ 0 0), (lr, W.listOf rs.toArray nr)], ⟨kT, kB, kX, kP, kD⟩, ⟨at_, 0, 0, _, t1, t2A, t3A, _, rfl, i1, i2, by decide, by decide, by decide, by decide, ?pl0, ?pl1, ?ple, rfl, rfl, rfl, rfl, rfl⟩, by k_asm, by k_asm⟩
        case pl0 => omega
        case pl1 => omega
        case ple =>
          rw [hf8, n_add p0 i5, ← List.drop_drop, pe]
          exact List.drop_left' (rowH_length _ _)
      · refine execsM_cons (wpR_mono (Q := NextAt (RTurn (Gnd w p loose mean mg mb (ktrTop dp un gd cn cs L a ccd cl outer) base (envX cn cs L a ccd cl :: outer) g') (RMid_high x dx lr h1 h2 h3 h4 k1 k2 k3 k4 t0 td tp D rs nr ks R place) L' ((it, io) :: rest)) s) ?inner (fun f s₃ hmid2 => ?tail2) fun _ _ x => x)
        case tail2 =>
          clear kT kB kX kP kD
          refine hideG fun G hG => ?_
          obtain ⟨rfl, hQ, tkQ, rfl, g, m, ch, ⟨kT, kB, kX, kP, kD⟩, ⟨w1, w2, w3, w4, w5, at_, held, count, bh, t1, t2, t3, tbh, rfl, i1, i2, i3, i4, i5, i6, w6, b0, hcase⟩, FQ, NQ⟩ := hmid2
          refine hG ?_
          clear hG G
          (try dsimp only)
          have NQ' : News g L' hQ ((x, instObj 177 dx) :: (dx, rdO h1 h2 h3 h4 k1 k2 k3 k4 t0 t1 t2 t3 D at_ held count) :: (lr, W.listOf rs.toArray nr) :: (it, io) :: rest) := NQ
          clear NQ
          have hrl := hrs.length
          rcases hcase with ⟨hle, hdr, ⟨v, u1, u2, wd, wf⟩ | ⟨o, u1, u2, wd, wf⟩⟩ | ⟨hgt, pe', wf, dv, wd⟩
          · have FQ' := fr_k8 FQ w1 w2 w3 w4 w5 w6 wd wf
            clear FQ
            refine execsM_any (hideQ fun Q' hQ' => ?_)
            k_steps
            all_goals (try (refine hQ' _ _ ?_; clear hQ' Q'))
            · exact absurd rfl (by assumption)
            (try dsimp only)
            refine execsM_any (hideQ fun Q' hQ' => ?_)
            k_steps
            all_goals (try (refine hQ' _ _ ?_; clear hQ' Q'))
            (try dsimp only)
            refine execsM_nil ?_
            exact nextAt_ ⟨g, _, [(x, instObj 177 dx), (dx, rdO h1 h2 h3 h4 k1 k2 k3 k4 t0 t1 t2 t3 D at_ held count), (lr, W.listOf rs.toArray nr)], ⟨kT, kB, kX, kP, kD⟩, ⟨at_, held, count, bh, t1, t2, t3, _, rfl, i1, i2, i3, i4, i5, i6, by omega, by omega, hdr, rfl, rfl, rfl, rfl, rfl⟩, by k_asm, by k_asm⟩
          · have FQ' := fr_k8 FQ w1 w2 w3 w4 w5 w6 wd wf
            clear FQ
            refine execsM_any (hideQ fun Q' hQ' => ?_)
            k_steps
            all_goals (try (refine hQ' _ _ ?_; clear hQ' Q'))
            · rename_i hne; simp at hne
            (try dsimp only)
            refine execsM_any (hideQ fun Q' hQ' => ?_)
            k_steps
            all_goals (try (refine hQ' _ _ ?_; clear hQ' Q'))
            (try dsimp only)
            refine execsM_nil ?_
            exact nextAt_ ⟨g, _, [(x, instObj 177 dx), (dx, rdO h1 h2 h3 h4 k1 k2 k3 k4 t0 t1 t2 t3 D at_ held count), (lr, W.listOf rs.toArray nr)], ⟨kT, kB, kX, kP, kD⟩, ⟨at_, held, count, bh, t1, t2, t3, _, rfl, i1, i2, i3, i4, i5, i6, by omega, by omega, hdr, rfl, rfl, rfl, rfl, rfl⟩, by k_asm, by k_asm⟩
          · have FQ' := fr_k8 FQ w1 w2 w3 w4 w5 w6 wd wf
            clear FQ
            refine execsM_any (hideQ fun Q' hQ' => ?_)
            k_steps
            all_goals (try (refine hQ' _ _ ?_; clear hQ' Q'))
            (try dsimp only)
            refine execsM_any (hideQ fun Q' hQ' => ?_)
            k_steps
            all_goals (try (refine hQ' _ _ ?_; clear hQ' Q'))
            (try dsimp only)
            refine execsM_nil ?_
            exact nextAt_ ⟨g, _, [(x, instObj 177 dx), (dx, rdO h1 h2 h3 h4 k1 k2 k3 k4 t0 t1 t2 t3 D at_ held count), (lr, W.listOf rs.toArray nr)], ⟨kT, kB, kX, kP, kD⟩, ⟨at_, held, count, place, t1, t2, t3, _, rfl, i1, i2, i3, i4, i5, i6, by omega, by omega, pe', rfl, rfl, rfl, rfl, rfl⟩, by k_asm, by k_asm⟩
        case inner =>
          refine IfM ?_
          have cc40 : cc ≤ 40 := by omega
          k_steps
          · refine execsM_any (hideQ fun Q' hQ' => ?_)
            (k_steps <;> repeat' ((with_reducible refine go_on ?_); (first | (with_reducible (k_here; k_dflt (refine' number_m ?B ?F ?X ?N ?hm ?T ?hk ?hd ?hu ?hv ?hn ?_; (case B => k_asm); (case F => k_asm); (case X => k_asm); (case N => k_asm); (case T => k_asm); (case hk => first | assumption | exact rfl); (case hd => first | exact n_up (by assumption) (by decide) | ktr_room); (case hu => first | exact n_up (by assumption) (by decide) | ktr_units); (case hm => k_mem); (case hv => assumption); (case hn => (simp only [List.length_take, List.length_drop]; exact n_64 p0 cc0 cc20)); k_whole); intro tN hN tkN FN NN; (try dsimp only))) | fail); k_steps))
            all_goals (try (refine hQ' _ _ ?_; clear hQ' Q'))
            (try dsimp only)
            rename_i hX2 F7 N7
            have N8 := uncons N7
            clear N7
            refine hideG fun G hG => ?_
            obtain ⟨m4, dv, tdv, F8, edv, z1, z2, z3, z4, z5, z6, z7, z8, z9⟩ : ∃ (m4 : PySem.Str → Option Value) (dv : Int) (tdv : Tok), Fr g L' hX2 m4 ∧ dv = num true (List.take (min (place + cc).toNat R.length - place.toNat) (List.drop place.toNat R)) ∧ m4 (PySem.Str.ofString "reader") = some (.ref x) ∧ m4 (PySem.Str.ofString "data") = some (.bytes D td) ∧ m4 (PySem.Str.ofString "row") = some (.ref lr) ∧ m4 (PySem.Str.ofString "is_high") = some (.bool true) ∧ m4 (PySem.Str.ofString "place") = some (.int place tp) ∧
                m4 (PySem.Str.ofString "way") = some (.int ((c.fdiv 3).fmod 6) tw) ∧ m4 (PySem.Str.ofString "count") = some (.int cc tcc) ∧ m4 (PySem.Str.ofString "behind") = some (.int (place + cc) tbh) ∧ m4 (PySem.Str.ofString "due") = some (.int dv tdv) :=
              ⟨_, _, _, F7, rfl, rfl, rfl, rfl, rfl, rfl, rfl, rfl, rfl, rfl⟩
            refine hG ?_
            clear hG G
            have F9 := fr_k9 F8 z1 z2 z3 z4 z5 z6 z7 z8 z9
            clear F7 F8
            refine execsM_any ?_
            by_cases hcy : cc ≤ count + 8 * ((ks.length : Int) - at_)
            · (k_steps <;> repeat' ((with_reducible refine go_on ?_); (first | (with_reducible (k_here; k_dflt (refine' htaken_ok ?B ?F ?X ?N ?T ?hk ?hd ?hu hD hks4 hxd hr hcy i1 i2 i3 i4 i5 i6 cc0 cc40 ?_; (case B => k_asm); (case F => k_asm); (case X => k_asm); (case N => k_asm); (case T => k_asm); (case hk => first | assumption | exact rfl); (case hd => first | exact n_up (by assumption) (by decide) | ktr_room); (case hu => first | exact n_up (by assumption) (by decide) | ktr_units); k_whole); intro vK atK heldK countK tK t1K t2K t3K hK tkK j1 j2 j3 j4 j5 j6 j7 j8 j9 j10 FK NK; (try dsimp only))) | fail); k_steps))
              (try dsimp only)
              refine execsM_nil ?_
              have e1 : dv = vK := by
                rw [edv, n_min p0 cc0 (by omega), pe, j8, List.take_left' (rowH_length _ _)]
                exact num_row true j9 j10
              subst e1
              refine nextAt_ ⟨g, _, [(x, instObj 177 dx), (dx, rdO h1 h2 h3 h4 k1 k2 k3 k4 t0 t1K t2K t3K D atK heldK countK), (lr, W.listOf rs.toArray nr)], ⟨kT, kB, kX, kP, kD⟩, ⟨rfl, rfl, rfl, rfl, rfl, atK, heldK, countK, place + cc, t1K, t2K, t3K, tbh, rfl, j1, j2, j3, j4, j5, j6, rfl, by omega, .inl ⟨by omega, ?dr, .inl ⟨_, _, _, rfl, rfl⟩⟩⟩, by k_asm, by k_asm⟩
              rw [n_add p0 cc0, ← List.drop_drop, pe, j8]
              exact List.drop_left' (rowH_length _ _)
            · have hcn := hcy
              clear hcy
              (k_steps <;> repeat' ((with_reducible refine go_on ?_); (first | (with_reducible (k_here; k_dflt (refine' htaken_no ?B ?F ?X ?N ?T ?hk ?hd ?hu XB TB ?D hD hks4 hxd hr hcn ?_; (case B => k_asm); (case F => k_asm); (case X => k_asm); (case N => k_asm); (case T => k_asm); (case hk => first | assumption | exact rfl); (case hd => first | exact n_up (by assumption) (by decide) | ktr_room); (case hu => first | exact n_up (by assumption) (by decide) | ktr_units); (case D => assumption); k_whole); intro gR hR tkR kT2 FR NR kB2 kX2 kP2 kD2; (try dsimp only))) | fail); k_steps))
              (try dsimp only)
              refine execsM_nil ?_
              exact nextAt_ ⟨gR, _, [(x, instObj 177 dx), (dx, rdO h1 h2 h3 h4 k1 k2 k3 k4 t0 t1 t2 t3 D at_ held count), (lr, W.listOf rs.toArray nr)], ⟨kT.trans kT2, kB2, kX2, kP2, kD2⟩, ⟨rfl, rfl, rfl, rfl, rfl, at_, held, count, place + cc, t1, t2, t3, tbh, rfl, i1, i2, i3, i4, i5, i6, rfl, by omega, .inr ⟨by omega, pe, rfl, _, rfl⟩⟩, by k_asm, by k_asm⟩
          · refine execsM_any (hideQ fun Q' hQ' => ?_)
            (k_steps <;> repeat' ((with_reducible refine go_on ?_); (first | (with_reducible (k_here; k_dflt (refine' number_m ?B ?F ?X ?N ?hm ?T ?hk ?hd ?hu ?hv ?hn ?_; (case B => k_asm); (case F => k_asm); (case X => k_asm); (case N => k_asm); (case T => k_asm); (case hk => first | assumption | exact rfl); (case hd => first | exact n_up (by assumption) (by decide) | ktr_room); (case hu => first | exact n_up (by assumption) (by decide) | ktr_units); (case hm => k_mem); (case hv => assumption); (case hn => (simp only [List.length_take, List.length_drop]; exact n_64 p0 cc0 cc20)); k_whole); intro tN hN tkN FN NN; (try dsimp only))) | fail); k_steps))
            all_goals (try (refine hQ' _ _ ?_; clear hQ' Q'))
            (try dsimp only)
            rename_i hX2 F7 N7
            have N8 := uncons N7
            clear N7
            refine hideG fun G hG => ?_
            obtain ⟨m4, dv, tdv, F8, edv, z1, z2, z3, z4, z5, z6, z7, z8, z9⟩ : ∃ (m4 : PySem.Str → Option Value) (dv : Int) (tdv : Tok), Fr g L' hX2 m4 ∧ dv = num true (List.take (min (place + cc).toNat R.length - place.toNat) (List.drop place.toNat R)) ∧ m4 (PySem.Str.ofString "reader") = some (.ref x) ∧ m4 (PySem.Str.ofString "data") = some (.bytes D td) ∧ m4 (PySem.Str.ofString "row") = some (.ref lr) ∧ m4 (PySem.Str.ofString "is_high") = some (.bool true) ∧ m4 (PySem.Str.ofString "place") = some (.int place tp) ∧
                m4 (PySem.Str.ofString "way") = some (.int ((c.fdiv 3).fmod 6) tw) ∧ m4 (PySem.Str.ofString "count") = some (.int cc tcc) ∧ m4 (PySem.Str.ofString "behind") = some (.int (place + cc) tbh) ∧ m4 (PySem.Str.ofString "due") = some (.int dv tdv) :=
              ⟨_, _, _, F7, rfl, rfl, rfl, rfl, rfl, rfl, rfl, rfl, rfl, rfl⟩
            refine hG ?_
            clear hG G
            have F9 := fr_k9 F8 z1 z2 z3 z4 z5 z6 z7 z8 z9
            clear F7 F8
            refine execsM_any ?_
            by_cases hcy : cc ≤ count + 8 * ((ks.length : Int) - at_)
            · (k_steps <;> repeat' ((with_reducible refine go_on ?_); (first | (with_reducible (k_here; k_dflt (refine' htaken_ok ?B ?F ?X ?N ?T ?hk ?hd ?hu hD hks4 hxd hr hcy i1 i2 i3 i4 i5 i6 cc0 cc40 ?_; (case B => k_asm); (case F => k_asm); (case X => k_asm); (case N => k_asm); (case T => k_asm); (case hk => first | assumption | exact rfl); (case hd => first | exact n_up (by assumption) (by decide) | ktr_room); (case hu => first | exact n_up (by assumption) (by decide) | ktr_units); k_whole); intro vK atK heldK countK tK t1K t2K t3K hK tkK j1 j2 j3 j4 j5 j6 j7 j8 j9 j10 FK NK; (try dsimp only))) | fail); k_steps))
              (try dsimp only)
              refine execsM_nil ?_
              have e1 : dv = vK := by
                rw [edv, n_min p0 cc0 (by omega), pe, j8, List.take_left' (rowH_length _ _)]
                exact num_row true j9 j10
              subst e1
              refine nextAt_ ⟨g, _, [(x, instObj 177 dx), (dx, rdO h1 h2 h3 h4 k1 k2 k3 k4 t0 t1K t2K t3K D atK heldK countK), (lr, W.listOf rs.toArray nr)], ⟨kT, kB, kX, kP, kD⟩, ⟨rfl, rfl, rfl, rfl, rfl, atK, heldK, countK, place + cc, t1K, t2K, t3K, tbh, rfl, j1, j2, j3, j4, j5, j6, rfl, by omega, .inl ⟨by omega, ?drB, .inl ⟨_, _, _, rfl, rfl⟩⟩⟩, by k_asm, by k_asm⟩
              rw [n_add p0 cc0, ← List.drop_drop, pe, j8]
              exact List.drop_left' (rowH_length _ _)
            · have hcn := hcy
              clear hcy
              (k_steps <;> repeat' ((with_reducible refine go_on ?_); (first | (with_reducible (k_here; k_dflt (refine' htaken_no ?B ?F ?X ?N ?T ?hk ?hd ?hu XB TB ?D hD hks4 hxd hr hcn ?_; (case B => k_asm); (case F => k_asm); (case X => k_asm); (case N => k_asm); (case T => k_asm); (case hk => first | assumption | exact rfl); (case hd => first | exact n_up (by assumption) (by decide) | ktr_room); (case hu => first | exact n_up (by assumption) (by decide) | ktr_units); (case D => assumption); k_whole); intro gR hR tkR kT2 FR NR kB2 kX2 kP2 kD2; (try dsimp only))) | fail); k_steps))
              (try dsimp only)
              refine execsM_nil ?_
              exact nextAt_ ⟨gR, _, [(x, instObj 177 dx), (dx, rdO h1 h2 h3 h4 k1 k2 k3 k4 t0 t1 t2 t3 D at_ held count), (lr, W.listOf rs.toArray nr)], ⟨kT.trans kT2, kB2, kX2, kP2, kD2⟩, ⟨rfl, rfl, rfl, rfl, rfl, at_, held, count, place + cc, t1, t2, t3, tbh, rfl, i1, i2, i3, i4, i5, i6, rfl, by omega, .inr ⟨by omega, pe, rfl, _, rfl⟩⟩, by k_asm, by k_asm⟩

  case done =>
    clear B' X' T' D' F' N'
    intro g m ch h tk hWz F3 N3
    refine hideG fun G hG => ?_
    obtain ⟨⟨kT, kB, kX, kP, kD⟩, at_, held, count, place, t1, t2, t3, tp, rfl, i1, i2, i3, i4, i5, i6, p0, p1, pe, w1, w2, w3, w4, w5⟩ := hWz
    refine hG ?_
    clear hG G
    (try dsimp only)
    refine execsM_any (hideQ fun Q' hQ' => ?_)
    k_steps
    all_goals (try (refine hQ' _ _ ?_; clear hQ' Q'))
    refine' leaveT_ F3 N3 kT fun h₀' kT' kF' kN' kB' kX' kP' kD' => ?_
    exact ret h₀' _ _ kT' kF' (fun p hp => kN' p (.tail _ (.tail _ (.tail _ hp)))) kB' kX' kP' kD'
end
end
section -- Tp
set_option maxRecDepth 100000
set_option maxHeartbeats 4000000
set_option linter.unusedVariables false
open Sem (wp)
section
variable {b : Bool} {prog : Program} {w : World} {s : Shared} {K : Frag}
  {R : Result → Shared → Prop} {name qual : PySem.Str} {params : Arguments} {body : List Stmt} {scope : Scope} {dV kV doc pm cdv ct oc : Value} {an od : Option Addr} {osl : Array (Option Value)} {f : Addr} {args : Args} {binds : List (PySem.Str × Value)}
  {p : Program} {loose : List PySem.Str} {mean : ExcName → Option Value} {mg mb : PySem.Str → Option Value}
/- Entry from the claim's caller: no frame below. -/
theorem enterTopC (X : K.In s.heap) (T : Top p loose mean mg mb s.heap)
    (ho : K.lookup f = some ⟨oc, od, .func (fnOf name qual params body scope dV kV doc pm an cdv ct), osl⟩) (hcd : codeIn K cdv qual = true)
    (hbind : BindsTo s (fnOf name qual params body scope dV kV doc pm an cdv ct) args binds) (hkind : (binds.all fun y => scope.names.lookup y.1 == some .local || scope.names.lookup y.1 == some .cell) = true)
    (hnd : ((cellsFrom 0 scope.names []).map (·.1)).Nodup)
    (h : ∀ L' h₁ tk cells, Fr s.heap L' h₁ (bindL (envOfC qual scope L' f cdv).kindOf binds fun _ => none) → News s.heap L' h₁ cells →
      CellsAre (bindC (envOfC qual scope L' f cdv).kindOf binds fun _ => none) (cellsFrom (L' + 1) scope.names []) cells → Below callerA s.heap [] s.heap → K.In s.heap → Top p loose mean mg mb s.heap → KtsDicts (([] : List Env).filterMap (·.frame)) s.heap →
      wpM b (model prog w) (callerA.deeper (envOfC qual scope L' f cdv)) (execs body (envOfC qual scope L' f cdv))
        (fun fl s' => R (.ok (.ret (match fl with | .ret v => v | _ => .none))) s')
        (fun e s' => wpAny (model prog w) (callerA.deeper (envOfC qual scope L' f cdv)) (leaving (envOfC qual scope L' f cdv) e) (fun _ s'' => R (.error e) s'') (fun e' s'' => R (.error e') s'') s')
        { s with heap := h₁, toks := tk })
    (hco : scope.isCoroutine = false) (hgen : scope.isGenerator = false) (hk : scope.kind = .function) : codeM b (model prog w) callerA (.call (.ref f) args) R s := by
  refine codeM_function (fd := fnOf name qual params body scope dV kV doc pm an cdv ct) (by decide +kernel) (X _ _ ho) rfl hco hgen rfl (codeRec_of X hcd) (hbind _ _ _ _ ?_)
  refine wpAny_newFunctionEnv_cells hk (kindsX hkind _) fun env' he s' x => ?_
  subst he
  refine ⟨T.nolimit.keeps x.toInCall.keep, codeM_func ?_⟩
  obtain ⟨h₁, tk, rfl, _⟩ := x.done
  obtain ⟨cells, NC, Y⟩ := Cl.news (h₀ := s.heap) (Nat.le_refl _) fun n c hm => ⟨x.cell n c (lookup_of_mem_nodup (cellsFrom_names scope.names 0 (s.heap.objs.size + 1) [] [] rfl ▸ hnd) hm), x.above n c hm⟩
  refine wpR_mono (h s.heap.objs.size h₁ tk cells ⟨x.toInCall.ns, fun b o e => x.toInCall.keep b o e, Nat.le_refl _⟩ NC Y (below_caller _) X T ktsDicts_nil) (fun fl s' hl => ?_) fun _ _ y => y
  exact hl
end
section
variable {b : Bool} {M : Model} {A : Around} {E : Value → Shared → Prop} {s : Shared} {env : Env}
theorem IfR {test : Expr} {body orelse : List Stmt} {pos : Pos} {Q : Flow → Shared → Prop}
    (h : wpM b M A (isTrue test env (eval test env))
      (fun c s₂ => if c = true then wpM b M A (execs body env) Q E s₂ else wpM b M A (execs orelse env) Q E s₂) E s) :
    wpM b M A (exec (.If test body orelse pos) env) Q E s := fun Γ p hΓ ho => by
  simp only [exec_If, Sem.wp_bind', Sem.wp_cmd_standAt]
  refine Sem.wp_mono M Γ _ (fun c p₂ s₂ h₂ => ?_) (fun _ _ _ h' => h') _ _ (h Γ _ hΓ ho)
  cases c <;> exact h₂ Γ p₂ hΓ ho
theorem isTrue_orM {x : Expr} {rest : List Expr} {pos : Pos} {whole : Sem Value} {Q : Bool → Shared → Prop}
    (h : wpM b M A (isTrue x env (eval x env)) (fun c s' => if c = true then Q true s' else wpM b M A (isTrue (.BoolOp .Or rest pos) env whole) Q E s') E s) :
    wpM b M A (isTrue (.BoolOp .Or (x :: rest) pos) env whole) Q E s := by
  show wpM b M A (do
    match BoolOp.Or, ← isTrue x env (eval x env) with
    | .And, false => pure false
    | .Or, true => pure true
    | _, _ => allTrue .Or rest env) Q E s
  refine wpR_bind (wpR_mono h (fun c s' h' => ?_) fun _ _ x => x)
  cases c
  · exact h'
  · exact wpR_pure h'
theorem isTrue_Compare1M {l r : Expr} {op : CmpOp} {pos : Pos} {whole : Sem Value} {Q : Bool → Shared → Prop}
    (h : wpM b M A (eval l env) (fun a s₁ => wpAny M A (eval r env) (fun b s₂ => wpAny M A (compareOp op a b)
      (fun c s₃ => wpAny M A (truthy c) Q E s₃) E s₂) E s₁) E s)
    (hm : behindInMarks op r = false := by with_unfolding_all rfl) : wpM b M A (isTrue (.Compare l [op] [r] pos) env whole) Q E s := fun Γ p hΓ ho => by
  simp only [isTrue_Compare1, markedBehindIn_of_false hm, Sem.wp_bind', Sem.wp_holding, Sem.wp_cmd_standAt, Sem.wp_operate]
  exact Sem.wp_mono M Γ _ (fun a p₁ s₁ h₁ => Sem.wp_mono M Γ _ (fun b _ s₂ h₂ => Sem.wp_mono M Γ _ (fun c p₃ s₃ h₃ => h₃ Γ p₃ hΓ)
    (fun _ _ _ h' => h') _ _ (h₂ Γ _ hΓ)) (fun _ _ _ h' => h') _ _ (h₁ Γ p₁ hΓ)) (fun _ _ _ h' => h') _ _ (h Γ p hΓ ho)
end
end
section -- Mt6
set_option linter.unusedVariables false
theorem rowL_numL : ∀ {l : List Int}, Bits l → rowL (numL l) l.length = l
  | [], _ => rfl
  | b :: r, h => by
    have hb := h b (.head _)
    have ih := rowL_numL (l := r) fun x hx => h x (.tail _ hx)
    show rowL (b + 2 * numL r) (r.length + 1) = b :: r
    rw [Nat.add_comm, rowL_split]
    show (b + 2 * numL r) / 2 ^ 0 % 2 :: rowL ((b + 2 * numL r) / 2 ^ 1) r.length = b :: r
    rw [show (b + 2 * numL r) / 2 ^ 0 % 2 = b by rw [Int.pow_zero, Int.ediv_one]; omega, show (b + 2 * numL r) / 2 ^ 1 = numL r by rw [Int.pow_succ, Int.pow_zero]; omega, ih]
theorem row_num (hi : Bool) {l : List Int} (h : Bits l) : row hi (num hi l) l.length = l := by
  cases hi
  · exact rowL_numL h
  · show (rowL (numL l.reverse) l.length).reverse = l
    have z := rowL_numL (l := l.reverse) fun b hb => h b (List.mem_reverse.mp hb)
    rw [List.length_reverse] at z
    rw [z, List.reverse_reverse]
theorem octs_step (hi : Bool) {l : List Int} {q : Nat} (hq : l.length = 8 * (q + 1)) : octsOf hi l = num hi (l.take 8) :: octsOf hi (l.drop 8) := by
  unfold octsOf
  rw [List.length_drop, hq, show 8 * (q + 1) / 8 = q + 1 by omega, show (8 * (q + 1) - 8) / 8 = q by omega, List.range_succ_eq_map, List.map_cons, List.map_map]
  congr 1
  apply List.map_congr_left
  intro i _
  show num hi ((l.drop (8 * (i + 1))).take 8) = num hi (((l.drop 8).drop (8 * i)).take 8)
  rw [List.drop_drop, show 8 + 8 * i = 8 * (i + 1) by omega]
theorem bits_octs (hi : Bool) : ∀ (q : Nat) {l : List Int}, Bits l → l.length = 8 * q → bits hi (octsOf hi l) = l
  | 0, l, _, hl => by
    obtain rfl : l = [] := List.eq_nil_of_length_eq_zero (by omega)
    simp [octsOf, bits]
  | q + 1, l, h, hl => by
    rw [octs_step hi hl]
    show row hi (num hi (l.take 8)) 8 ++ bits hi (octsOf hi (l.drop 8)) = l
    have h8 : (l.take 8).length = 8 := by rw [List.length_take]; omega
    have z := row_num hi (l := l.take 8) fun x hx => h x (List.mem_of_mem_take hx)
    rw [h8] at z
    rw [z, bits_octs hi q (fun x hx => h x (List.mem_of_mem_drop hx)) (by rw [List.length_drop]; omega), List.take_append_drop]
theorem filled_len {l : List Int} : (filled l).length % 8 = 0 ∧ (filled l).length ≤ l.length + 7 ∧ l.length ≤ (filled l).length := by
  unfold filled
  rw [List.length_append, List.length_replicate]
  omega
theorem octs_len (hi : Bool) (l : List Int) : (octsOf hi l).length = l.length / 8 := by simp [octsOf]
theorem octs_filled (hi : Bool) {l : List Int} (h : Bits l) : bits hi (octsOf hi (filled l)) = filled l := by
  have z := filled_len (l := l)
  exact bits_octs hi ((filled l).length / 8) (bits_filled h) (by omega)
theorem bits_flatH (vz : List Int) (n : Nat) : Bits (vz.flatMap fun k => rowH k n) := fun x hx => by
  obtain ⟨k, _, h⟩ := List.mem_flatMap.mp hx
  exact bits_rowH5 _ _ _ h
end
section -- C25
set_option maxRecDepth 100000
set_option maxHeartbeats 8000000
set_option linter.unusedVariables false
set_option linter.unusedSimpArgs false

set_option hygiene false in
local macro_rules | `(tactic| walk_at "call ref") => `(tactic| (k_here; k_dflt (refine' row_c ?B ?F ?X ?N ?T ?hk ?hd ?hu ?c0 ?c1 ?_; (case B => k_asm); (case F => k_asm); (case X => k_asm); (case N => k_asm); (case T => k_asm); (case hk => first | assumption | exact rfl); (case hd => first | exact n_up (by assumption) (by decide) | ktr_room); (case hu => first | exact n_up (by assumption) (by decide) | ktr_units); (case c0 => omega); (case c1 => omega); k_whole); intro lw vw nw hW tkW rw_ FW NW; (try dsimp only)))
set_option hygiene false in
local macro_rules | `(tactic| walk_at "call ref") => `(tactic| (k_here; k_dflt (refine' turned_c ?B ?F ?X ?N ?T ?hk ?hd ?hu ?c0 ?c1 ?_; (case B => k_asm); (case F => k_asm); (case X => k_asm); (case N => k_asm); (case T => k_asm); (case hk => first | assumption | exact rfl); (case hd => first | exact n_up (by assumption) (by decide) | ktr_room); (case hu => first | exact n_up (by assumption) (by decide) | ktr_units); (case c0 => omega); (case c1 => omega); k_whole); intro tT hT tkT FT NT; (try dsimp only)))
set_option hygiene false in
local macro_rules | `(tactic| walk_at "call ref") => `(tactic| (k_here; k_dflt (refine' number_m ?B ?F ?X ?N ?hm ?T ?hk ?hd ?hu ?hv ?hn ?_; (case B => k_asm); (case F => k_asm); (case X => k_asm); (case N => k_asm); (case T => k_asm); (case hk => first | assumption | exact rfl); (case hd => first | exact n_up (by assumption) (by decide) | ktr_room); (case hu => first | exact n_up (by assumption) (by decide) | ktr_units); (case hm => k_mem); (case hv => assumption); (case hn => (rw [row_length]; omega)); k_whole); intro tN hN tkN FN NN; (try dsimp only)))
section
variable {w : World} {p : Program} {loose : List PySem.Str} {mean : ExcName → Option Value} {mg mb : PySem.Str → Option Value} {s : Shared} {Q E : Value → Shared → Prop} {l : Addr} {vs : List Value} {ns : List Int}
theorem law_c (X : (Mine.hd.heap_39 w.params).In s.heap) (T : Top p loose mean mg mb s.heap) (hl : s.heap.IsList l vs.toArray) (hv : IntsAre vs ns) (hn : ns.length ≤ 63)
    (ret : ∀ h' tk, (∀ b o, s.heap.get? b = some o → h'.get? b = some o) → Q (.bool true) { s with heap := h', toks := tk }) :
    wpR (model Challenge.rw_nn0201_01.row.prog w) callerA (call (.ref 346) [.ref l]) Q E s := by
  refine wpR_call ?_
  k_dflt (refine' enterTopC (b := true) ?k1 ?k2 ?k6 ?k7 ?k9 ?kB ?kD ?_ ?c2 ?c3 ?c4; (case k1 => k_asm); (case k2 => k_asm); (case k6 => k_is); (case k7 => k_is); (case k9 => first | exact BindsTo.of_eq rfl | exact binds_K (by k_in) rfl (by k_is) rfl rfl rfl | fail "k_enter: no rule for these arguments"); (case kB => exact rfl); (case kD => decide +kernel); (case c2 => exact rfl); (case c3 => exact rfl); (case c4 => exact rfl); k_whole; intro L' h' tk' cells' F' N' Y' B' X' T' D'; k_cells Y'; (try simp only [List.cons_append, List.nil_append] at N'); (try dsimp only); (try k_lift B'); (try k_fold))
  refine execsM_any (hideQ fun Q' hQ' => ?_)
  k_steps
  all_goals (try (refine hQ' _ _ ?_; clear hQ' Q'))
  (try dsimp only)
  rename_i lc wcs hq1 hIc ltc hC FC NC
  refine hideG fun G hG => ?_
  obtain ⟨oC, vC, NC2, dC⟩ : ∃ oC vC, News s.heap L' hC [(lc, W.listOf wcs.toArray 0), (L' + 1, oC)] ∧ oC.data = Data.cell vC := ⟨_, _, pickN NC (by k_mem) (pickN NC (.tail _ (.tail _ (.tail _ (.tail _ (.head _))))) (fun p hp => nomatch hp)), by assumption⟩
  refine hG ?_
  clear hG G
  refine hideG fun G hG => ?_
  obtain ⟨cz, hcz, hz1, hz25⟩ : ∃ cz : List Int, IntsAre wcs cz ∧ 1 ≤ cz.length ∧ cz.length ≤ 25 := ⟨_, hIc, by simp, by simp; omega⟩
  refine hG ?_
  clear hG G
  refine hideG fun G hG => ?_
  obtain ⟨m1, F1, y1⟩ : ∃ m1, Fr s.heap L' hC m1 ∧ m1 (PySem.Str.ofString "cells") = some (.ref lc) := ⟨_, FC, rfl⟩
  refine hG ?_
  clear hG G
  have F2 := fr_k1 F1 y1
  clear NC FC F1 hIc
  refine execsM_cons (AssignM (CallNameM ?_))
  k_steps
  refine callWithM_of (P := (Mine.hd.heap_39 w.params).In) rfl (keeps_K (by k_is)) ?_
  refine evalArgsM_plain (splicedM_cons ?_)
  rw [if_neg Bool.false_ne_true]
  refine CallNameM ?_
  k_steps
  refine callWithM_of (P := (Mine.hd.heap_39 w.params).In) rfl (keeps_K (by k_is)) (evalArgsM_nil ⟨X'.keeps F2.keep, ?_⟩)
  show wpM true _ _ (call (.ref 233) []) _ _ _
  k_dflt (refine' make_low ?B ?F ?X ?N ?T ?hk ?hd ?hu ?_; (case B => k_asm); (case F => k_asm); (case X => k_asm); (case N => k_asm); (case T => k_asm); (case hk => first | assumption | exact rfl); (case hd => first | exact n_up (by assumption) (by decide) | ktr_room); (case hu => first | exact n_up (by assumption) (by decide) | ktr_units); k_whole)
  intro x dx bb h1 h2 h3 k1 k2 k3 t2 t3 hW tkW x1 x2 x3 l1 l2 l3 FW NW
  (try dsimp only)
  refine splicedM_cons (wpR_any ?_)
  (try dsimp only)
  rw [if_neg Bool.false_ne_true]
  k_steps
  refine splicedM_cons (wpR_any ?_)
  (try dsimp only)
  rw [if_neg Bool.false_ne_true]
  k_steps
  refine wpR_pure ⟨X'.keeps FW.keep, ?_⟩
  show wpM true _ _ (call (.ref 334) [.ref x, .ref lc, .bool false]) _ _ _
  k_dflt (refine' written_low (ti := 0) ?B ?F ?X ?N ?T ?hk ?hd ?hu X T D' x1 x2 x3 ?r1 ?r2 ?hm hcz hz25 ?_; (case B => k_asm); (case F => k_asm); (case X => k_asm); (case N => k_asm); (case T => k_asm); (case hk => first | assumption | exact rfl); (case hd => first | exact n_up (by assumption) (by decide) | ktr_room); (case hu => first | exact n_up (by assumption) (by decide) | ktr_units); (case r1 => exact fun p hp => Nat.ne_of_lt (l2 p hp)); (case r2 => exact fun p hp => Nat.ne_of_lt (l3 p hp)); (case hm => exact .head _); k_whole)
  intro g1 lr rs R nr hA1 tkA1 kT hrs hbR hRl FA1 NA1 kB kX kP kD
  clear B' X' T' D' NW FW F2 NC2
  k_steps
  (try dsimp only)
  rename_i hB1 FB1 NB1
  refine hideG fun G hG => ?_
  obtain ⟨m2, F3, y1, y2⟩ : ∃ m2, Fr g1 L' hB1 m2 ∧ m2 (PySem.Str.ofString "cells") = some (.ref lc) ∧ m2 (PySem.Str.ofString "row") = some (.ref lr) := ⟨_, FB1, rfl, rfl⟩
  refine hG ?_
  clear hG G
  have F4 := fr_k2 F3 y1 y2
  clear FB1 F3 l1 l2 l3 x1 x2 x3
  refine execsM_cons (AssignM (CallNameM ?_))
  k_steps
  refine callWithM_of (P := (Mine.hd.heap_39 w.params).In) rfl (keeps_K (by k_is)) ?_
  refine evalArgsM_plain (splicedM_cons ?_)
  rw [if_neg Bool.false_ne_true]
  refine CallNameM ?_
  k_steps
  refine callWithM_of (P := (Mine.hd.heap_39 w.params).In) rfl (keeps_K (by k_is)) (evalArgsM_nil ⟨kX.keeps F4.keep, ?_⟩)
  show wpM true _ _ (call (.ref 275) []) _ _ _
  k_dflt (refine' make_high ?B ?F ?X ?N ?T ?hk ?hd ?hu ?_; (case B => k_asm); (case F => k_asm); (case X => k_asm); (case N => k_asm); (case T => k_asm); (case hk => first | assumption | exact rfl); (case hd => first | exact n_up (by assumption) (by decide) | ktr_room); (case hu => first | exact n_up (by assumption) (by decide) | ktr_units); k_whole)
  intro x dx bb h1 h2 h3 k1 k2 k3 t2 t3 hW2 tkW2 x1 x2 x3 l1 l2 l3 FW NW
  (try dsimp only)
  refine splicedM_cons (wpR_any ?_)
  (try dsimp only)
  rw [if_neg Bool.false_ne_true]
  k_steps
  refine splicedM_cons (wpR_any ?_)
  (try dsimp only)
  rw [if_neg Bool.false_ne_true]
  k_steps
  refine wpR_pure ⟨kX.keeps FW.keep, ?_⟩
  show wpM true _ _ (call (.ref 334) [.ref x, .ref lc, .bool true]) _ _ _
  k_dflt (refine' written_high (ti := 0) ?B ?F ?X ?N ?T ?hk ?hd ?hu X T kD x1 x2 x3 ?r1 ?r2 ?hm hcz hz25 ?_; (case B => k_asm); (case F => k_asm); (case X => k_asm); (case N => k_asm); (case T => k_asm); (case hk => first | assumption | exact rfl); (case hd => first | exact n_up (by assumption) (by decide) | ktr_room); (case hu => first | exact n_up (by assumption) (by decide) | ktr_units); (case r1 => exact fun p hp => Nat.ne_of_lt (l2 p hp)); (case r2 => exact fun p hp => Nat.ne_of_lt (l3 p hp)); (case hm => exact .tail _ (.head _)); k_whole)
  intro g2 lh rh RH nh hA2 tkA2 kT2 hrh hbH hHl FA2 NA2 kB2 kX2 kP2 kD2
  clear kB kX kP kD NW FW F4 NB1
  k_steps
  (try dsimp only)
  rename_i hB2 FB2 NB2
  refine hideG fun G hG => ?_
  obtain ⟨m3, F5, y1, y2, y3⟩ : ∃ m3, Fr g2 L' hB2 m3 ∧ m3 (PySem.Str.ofString "cells") = some (.ref lc) ∧ m3 (PySem.Str.ofString "row") = some (.ref lr) ∧ m3 (PySem.Str.ofString "high_row") = some (.ref lh) := ⟨_, FB2, rfl, rfl, rfl⟩
  refine hG ?_
  clear hG G
  have F6 := fr_k3 F5 y1 y2 y3
  clear FB2 F5 l1 l2 l3 x1 x2 x3
  refine execsM_any (hideQ fun Q' hQ' => ?_)
  k_steps
  all_goals (try (refine hQ' _ _ ?_; clear hQ' Q'))
  (try dsimp only)
  refine execsM_any (hideQ fun Q' hQ' => ?_)
  (k_steps <;> repeat' ((with_reducible refine go_on ?_); (first | (with_reducible (k_here; k_dflt (refine' octets_m ?B ?F ?X ?N ?hm ?T ?hk ?hd ?hu ?hv ?hn ?hb ?_; (case B => k_asm); (case F => k_asm); (case X => k_asm); (case N => k_asm); (case T => k_asm); (case hk => first | assumption | exact rfl); (case hd => first | exact n_up (by assumption) (by decide) | ktr_room); (case hu => first | exact n_up (by assumption) (by decide) | ktr_units); (case hm => k_mem); (case hv => assumption); (case hn => omega); (case hb => assumption); k_whole); intro oM tM hM2 tkM eM FM2 NM2; (try dsimp only))) | fail); k_steps))
  all_goals (try (refine hQ' _ _ ?_; clear hQ' Q'))
  (try dsimp only)
  refine execsM_any (hideQ fun Q' hQ' => ?_)
  (k_steps <;> repeat' ((with_reducible refine go_on ?_); (first | (with_reducible (k_here; k_dflt (refine' octets_m ?B ?F ?X ?N ?hm ?T ?hk ?hd ?hu ?hv ?hn ?hb ?_; (case B => k_asm); (case F => k_asm); (case X => k_asm); (case N => k_asm); (case T => k_asm); (case hk => first | assumption | exact rfl); (case hd => first | exact n_up (by assumption) (by decide) | ktr_room); (case hu => first | exact n_up (by assumption) (by decide) | ktr_units); (case hm => k_mem); (case hv => assumption); (case hn => omega); (case hb => assumption); k_whole); intro oM tM hM2 tkM eM FM2 NM2; (try dsimp only))) | fail); k_steps))
  all_goals (try (refine hQ' _ _ ?_; clear hQ' Q'))
  (try dsimp only)
  rename_i o1' to1' hM1' tkM1' eM1' hB3 hB4 FB4 NB4
  refine hideG fun G hG => ?_
  obtain ⟨m4, o1, o2, to1, to2, F7, y1, y2, y3, y4, y5, e1, e2⟩ : ∃ (m4 : PySem.Str → Option Value) (o1 o2 : Array UInt8) (to1 to2 : Tok), Fr g2 L' hB4 m4 ∧ m4 (PySem.Str.ofString "cells") = some (.ref lc) ∧ m4 (PySem.Str.ofString "row") = some (.ref lr) ∧ m4 (PySem.Str.ofString "high_row") = some (.ref lh) ∧ m4 (PySem.Str.ofString "data") = some (.bytes o1 to1) ∧ m4 (PySem.Str.ofString "high_data") = some (.bytes o2 to2) ∧ KBw.bInts o1 = octsOf false (filled R) ∧ KBw.bInts o2 = octsOf true (filled RH) :=
    ⟨_, _, _, _, _, FB4, rfl, rfl, rfl, rfl, rfl, eM1', eM⟩
  refine hG ?_
  clear hG G
  clear FB4 eM1' eM
  have z1 := filled_len (l := R)
  have z2 := filled_len (l := RH)
  refine hideG fun G hG => ?_
  obtain ⟨ks1, hD1, hbt1, hkl1⟩ : ∃ ks1, KBw.bInts o1 = ks1 ∧ filled R = bitsL ks1 ∧ ks1.length ≤ 126 := ⟨_, e1, (octs_filled false hbR).symm, by rw [octs_len]; omega⟩
  refine hG ?_
  clear hG G
  refine hideG fun G hG => ?_
  obtain ⟨ks2, hD2, hbt2, hkl2⟩ : ∃ ks2, KBw.bInts o2 = ks2 ∧ filled RH = bitsH ks2 ∧ ks2.length ≤ 126 := ⟨_, e2, (octs_filled true hbH).symm, by rw [octs_len]; omega⟩
  refine hG ?_
  clear hG G
  clear e1 e2 z1 z2
  have F8 := fr_k5 F7 y1 y2 y3 y4 y5
  clear F7
  refine execsM_any (hideQ fun Q' hQ' => ?_)
  k_steps
  all_goals (try (refine hQ' _ _ ?_; clear hQ' Q'))
  (try dsimp only)
  rename_i _ _ _ hB5 FB5 NB5
  refine hideG fun G hG => ?_
  obtain ⟨m5, st, tst, F9, y1, y2, y3, y4, y5, y6, s0, s1⟩ : ∃ (m5 : PySem.Str → Option Value) (st : Int) (tst : Tok), Fr g2 L' hB5 m5 ∧ m5 (PySem.Str.ofString "cells") = some (.ref lc) ∧ m5 (PySem.Str.ofString "row") = some (.ref lr) ∧ m5 (PySem.Str.ofString "high_row") = some (.ref lh) ∧ m5 (PySem.Str.ofString "data") = some (.bytes o1 to1) ∧ m5 (PySem.Str.ofString "high_data") = some (.bytes o2 to2) ∧ m5 (PySem.Str.ofString "start") = some (.int st tst) ∧ 0 ≤ st ∧ st ≤ ks1.length :=
    ⟨_, _, _, FB5, rfl, rfl, rfl, rfl, rfl, rfl, by have z := Int.fmod_nonneg_of_pos (cz.getD (Int.toNat 0) 0) (by decide : (0 : Int) < 4); split <;> omega, by split <;> omega⟩
  refine hG ?_
  clear hG G
  have F10 := fr_k6 F9 y1 y2 y3 y4 y5 y6
  clear FB5 F9
  refine execsM_any ?_
  (k_steps <;> repeat' ((with_reducible refine go_on ?_); (first | (with_reducible (k_here; k_dflt (refine' make_rd ?B ?F ?X ?N ?T ?hk ?hd ?hu  ?_; (case B => k_asm); (case F => k_asm); (case X => k_asm); (case N => k_asm); (case T => k_asm); (case hk => first | assumption | exact rfl); (case hd => first | exact n_up (by assumption) (by decide) | ktr_room); (case hu => first | exact n_up (by assumption) (by decide) | ktr_units); k_whole); intro x dx h1 h2 h3 h4 k1 k2 k3 k4 t0 t1 t2 t3 hM tkM xd ld lx FM NM; (try dsimp only))) | (with_reducible (k_here; k_dflt (refine' filled_m ?B ?F ?X ?N ?hm ?T ?hk ?hd ?hu ?hv ?hn ?_; (case B => k_asm); (case F => k_asm); (case X => k_asm); (case N => k_asm); (case T => k_asm); (case hk => first | assumption | exact rfl); (case hd => first | exact n_up (by assumption) (by decide) | ktr_room); (case hu => first | exact n_up (by assumption) (by decide) | ktr_units); (case hm => k_mem); (case hv => assumption); (case hn => omega); k_whole); intro lf vf nf ksf hFl tkFl kf1 kf2 kf3 kf4 kf5 FFl NFl; (try dsimp only))) | fail); k_steps))
  refine go_on ?_
  have NR1 : News g2 L' hFl ((x, instObj 135 dx) :: (dx, rdO h1 h2 h3 h4 k1 k2 k3 k4 t0 t1 t2 t3 o1 st 0 0) :: [(lf, W.listOf vf.toArray nf), (lh, W.listOf rh.toArray nh), (lr, W.listOf rs.toArray nr), (lc, W.listOf wcs.toArray 0), (L' + 1, oC)]) :=
    pickN NFl (by k_mem) (pickN NFl (by k_mem) (pickN NFl (.head _) (fun p hp => NFl p (.tail _ (.tail _ (.tail _ hp))))))
  have hr1 : ∀ p ∈ [(lf, W.listOf vf.toArray nf), (lh, W.listOf rh.toArray nh), (lr, W.listOf rs.toArray nr), (lc, W.listOf wcs.toArray 0), (L' + 1, oC)], p.1 ≠ dx := List.forall_mem_cons.mpr ⟨Nat.ne_of_gt (kf5 _ (.tail _ (.head _))), fun p hp => Nat.ne_of_lt (ld p hp)⟩
  clear NFl
  k_dflt (refine' read_low (ti := 0) ?B ?F ?X ?N ?T ?hk ?hd ?hu X T kD2 hD1 ?hks xd hr1 ?hm hcz hz25 ?hmr kf2 ?hR s0 s1 ?_; (case B => k_asm); (case F => k_asm); (case X => k_asm); (case N => k_asm); (case T => k_asm); (case hk => first | assumption | exact rfl); (case hd => first | exact n_up (by assumption) (by decide) | ktr_room); (case hu => first | exact n_up (by assumption) (by decide) | ktr_units); (case hks => omega); (case hm => exact .tail _ (.tail _ (.tail _ (.head _)))); (case hmr => exact .head _); (case hR => rw [kf1]; exact hbt1); k_whole)
  intro g3 hR3 tkR3 kT3 FR3 NR3 kB3 kX3 kP3 kD3
  clear kB2 kX2 kP2 kD2 NM FM F10 NB5
  k_steps
  (try dsimp only)
  have NR4 : News g3 L' hR3 [(lh, W.listOf rh.toArray nh), (lr, W.listOf rs.toArray nr), (lc, W.listOf wcs.toArray 0), (L' + 1, oC)] := uncons NR3
  clear NR3
  refine execsM_any ?_
  (k_steps <;> repeat' ((with_reducible refine go_on ?_); (first | (with_reducible (k_here; k_dflt (refine' make_hrd ?B ?F ?X ?N ?T ?hk ?hd ?hu  ?_; (case B => k_asm); (case F => k_asm); (case X => k_asm); (case N => k_asm); (case T => k_asm); (case hk => first | assumption | exact rfl); (case hd => first | exact n_up (by assumption) (by decide) | ktr_room); (case hu => first | exact n_up (by assumption) (by decide) | ktr_units); k_whole); intro x dx h1 h2 h3 h4 k1 k2 k3 k4 t0 t1 t2 t3 hM tkM xd ld lx FM NM; (try dsimp only))) | (with_reducible (k_here; k_dflt (refine' filled_m ?B ?F ?X ?N ?hm ?T ?hk ?hd ?hu ?hv ?hn ?_; (case B => k_asm); (case F => k_asm); (case X => k_asm); (case N => k_asm); (case T => k_asm); (case hk => first | assumption | exact rfl); (case hd => first | exact n_up (by assumption) (by decide) | ktr_room); (case hu => first | exact n_up (by assumption) (by decide) | ktr_units); (case hm => k_mem); (case hv => assumption); (case hn => omega); k_whole); intro lf vf nf ksf hFl tkFl kf1 kf2 kf3 kf4 kf5 FFl NFl; (try dsimp only))) | fail); k_steps))
  refine go_on ?_
  have NR1 : News g3 L' hFl ((x, instObj 177 dx) :: (dx, rdO h1 h2 h3 h4 k1 k2 k3 k4 t0 t1 t2 t3 o2 0 0 0) :: [(lf, W.listOf vf.toArray nf), (lh, W.listOf rh.toArray nh), (lr, W.listOf rs.toArray nr), (lc, W.listOf wcs.toArray 0), (L' + 1, oC)]) :=
    pickN NFl (by k_mem) (pickN NFl (by k_mem) (pickN NFl (.head _) (fun p hp => NFl p (.tail _ (.tail _ (.tail _ hp))))))
  have hr1 : ∀ p ∈ [(lf, W.listOf vf.toArray nf), (lh, W.listOf rh.toArray nh), (lr, W.listOf rs.toArray nr), (lc, W.listOf wcs.toArray 0), (L' + 1, oC)], p.1 ≠ dx := List.forall_mem_cons.mpr ⟨Nat.ne_of_gt (kf5 _ (.tail _ (.head _))), fun p hp => Nat.ne_of_lt (ld p hp)⟩
  clear NFl
  k_dflt (refine' read_high (st := 0) (ti := 0) ?B ?F ?X ?N ?T ?hk ?hd ?hu X T kD3 hD2 ?hks xd hr1 ?hm hcz hz25 ?hmr kf2 ?hR (by omega) (by omega) ?_; (case B => k_asm); (case F => k_asm); (case X => k_asm); (case N => k_asm); (case T => k_asm); (case hk => first | assumption | exact rfl); (case hd => first | exact n_up (by assumption) (by decide) | ktr_room); (case hu => first | exact n_up (by assumption) (by decide) | ktr_units); (case hks => omega); (case hm => exact .tail _ (.tail _ (.tail _ (.head _)))); (case hmr => exact .head _); (case hR => rw [kf1]; exact hbt2); k_whole)
  intro g4 hR5 tkR5 kT4 FR5 NR5 kB4 kX4 kP4 kD4
  clear kB3 kX3 kP3 kD3 NM FM FR3 NR4
  k_steps
  (try dsimp only)
  have NR6 : News g4 L' hR5 [(lh, W.listOf rh.toArray nh), (lr, W.listOf rs.toArray nr), (lc, W.listOf wcs.toArray 0), (L' + 1, oC)] := uncons NR5
  clear NR5
  have nlh : lh ≠ L' + 1 := ne_obj NR6 (by k_mem) (by k_mem) (fun e => by rw [← e] at dC; cases dC)
  have nlr : lr ≠ L' + 1 := ne_obj NR6 (by k_mem) (by k_mem) (fun e => by rw [← e] at dC; cases dC)
  have nlc : lc ≠ L' + 1 := ne_obj NR6 (by k_mem) (by k_mem) (fun e => by rw [← e] at dC; cases dC)
  refine execsM_any (hideQ fun Q' hQ' => ?_)
  k_steps
  all_goals (try (refine hQ' _ _ ?_; clear hQ' Q'))
  (try dsimp only)
  rename_i _ hB6 oB0 FB6 NB6 dB0
  refine hideG fun G hG => ?_
  obtain ⟨oB, bw, tbw, NB7, dB, b1, b16⟩ : ∃ (oB : Obj) (bw : Int) (tbw : Tok), News g4 L' hB6 [(lc, W.listOf wcs.toArray 0), (L' + 1, oB)] ∧ oB.data = .cell (some (.int bw tbw)) ∧ 1 ≤ bw ∧ bw ≤ 16 :=
    ⟨oB0, _, _, fun p hp => NB6 p (.tail _ (.tail _ hp)), dB0, by have z := Int.fmod_nonneg_of_pos (cz.getD (Int.toNat 0) 0) (by decide : (0 : Int) < 16); omega, by have z := Int.fmod_lt_of_pos (cz.getD (Int.toNat 0) 0) (by decide : (0 : Int) < 16); omega⟩
  refine hG ?_
  clear hG G
  refine hideG fun G hG => ?_
  obtain ⟨m6, F11, y1⟩ : ∃ m6, Fr g4 L' hB6 m6 ∧ m6 (PySem.Str.ofString "cells") = some (.ref lc) := ⟨_, FB6, rfl⟩
  refine hG ?_
  clear hG G
  have F12 := fr_k1 F11 y1
  clear FB6 F11 NB6 dB0 NR1 FFl kf1 kf2 kf3 kf4 kf5 hr1 ld lx xd nlh nlr
  refine execsM_any (hideQ fun Q' hQ' => ?_)
  k_steps
  all_goals (try (refine hQ' _ _ ?_; clear hQ' Q'))
  (try dsimp only)
  rename_i lv hB8 tkB8 FB8 NB8 oB8
  rename IntsAre ys _ => hI8
  rename ys.length = List.length _ => hL8
  have hp2 : (0 : Int) < 1 * 2 ^ bw.toNat := by rw [Int.one_mul]; exact two_pos _
  refine hideG fun G hG => ?_
  obtain ⟨vz, hvz, hvzl, hvzb, evz⟩ : ∃ vz : List Int, IntsAre ys vz ∧ vz.length = cz.length ∧ (∀ k ∈ vz, 0 ≤ k ∧ k < 2 ^ bw.toNat) ∧ vz = List.map (fun k' => (if k' < 0 then -k' else k').fmod (1 * 2 ^ bw.toNat)) cz :=
    ⟨_, hI8, by rw [List.length_map], fun k hk => by
      obtain ⟨k', _, rfl⟩ := List.mem_map.mp hk
      exact ⟨Int.fmod_nonneg_of_pos _ hp2, by have z := Int.fmod_lt_of_pos (if k' < 0 then -k' else k') hp2; rw [Int.one_mul] at z ⊢; exact z⟩, rfl⟩
  refine hG ?_
  clear hG G
  clear evz hp2 hI8 hL8
  have NB9 : News g4 L' hB8 [(lv, W.listOf ys.toArray ys.length), (lc, W.listOf wcs.toArray 0), (L' + 1, oB)] := NB8
  refine hideG fun G hG => ?_
  obtain ⟨m7, F13, y1, y2⟩ : ∃ m7, Fr g4 L' hB8 m7 ∧ m7 (PySem.Str.ofString "cells") = some (.ref lc) ∧ m7 (PySem.Str.ofString "values") = some (.ref lv) := ⟨_, FB8, rfl, rfl⟩
  refine hG ?_
  clear hG G
  have F14 := fr_k2 F13 y1 y2
  clear FB8 F13 NB8 F12
  refine execsM_any (hideQ fun Q' hQ' => ?_)
  k_steps
  all_goals (try (refine hQ' _ _ ?_; clear hQ' Q'))
  (try dsimp only)
  rename_i ll0 hC1 lt0 hC2 FC2 NC3
  refine execsM_cons (ForM ?_)
  k_steps
  refine' forListT (vs := ys) (n := ys.length) (ch := [(ll0, W.listOf #[] 0)]) (rest := [(lv, W.listOf ys.toArray ys.length), (lc, W.listOf wcs.toArray 0), (L' + 1, oB)])
    (fun i g m ch => g = g4 ∧ ∃ (ll : Addr) (ls : List Value) (LI : List Int) (nl : Nat), ch = [(ll, W.listOf ls.toArray nl)] ∧ IntsAre ls LI ∧ LI = ((vz.take i).flatMap fun k => rowH k bw.toNat) ∧ LI.length ≤ 16 * i ∧ m (PySem.Str.ofString "cells") = some (.ref lc) ∧ m (PySem.Str.ofString "values") = some (.ref lv) ∧ m (PySem.Str.ofString "line") = some (.ref ll)) rfl FC2 NC3 ?hJ ?hl ?hc ?turn ?done
  case hJ => exact ⟨rfl, ll0, [], [], 0, rfl, .nil, rfl, by simp, rfl, rfl, rfl⟩
  case hl => exact fun i g m ch _ => List.mem_append.mpr (.inr (.head _))
  case hc =>
    intro i g m ch hWz p hp
    refine hideG fun G hG => ?_
    obtain ⟨_, ll, ls, LI, nl, rfl, _⟩ := hWz
    refine hG ?_
    clear hG G
    rw [List.mem_singleton.mp hp]
    intro e; simp [W.listOf] at e
  case turn =>
    intro i hi' it io g m ch h tk io1 hWz F3 N3
    refine hideG fun G hG => ?_
    obtain ⟨rfl, ll, ls, LI, nl, rfl, j1, j2, j3, w1, w2, w3⟩ := hWz
    refine hG ?_
    clear hG G
    have hj : i < vz.length := by rw [← hvz.length]; exact hi'
    obtain ⟨tb, eb⟩ := intsAre_get hvz i hi' hj
    rw [eb] at F3
    clear eb
    have hkv := hvzb vz[i] (List.getElem_mem hj)
    obtain ⟨kv, ekv⟩ : ∃ kv, vz[i] = kv := ⟨_, rfl⟩
    rw [ekv] at F3
    refine hideG fun G hG => ?_
    obtain ⟨m8, F15, y1, y2, y3, y4⟩ : ∃ m8, Fr g L' h m8 ∧ m8 (PySem.Str.ofString "cells") = some (.ref lc) ∧ m8 (PySem.Str.ofString "values") = some (.ref lv) ∧ m8 (PySem.Str.ofString "line") = some (.ref ll) ∧ m8 (PySem.Str.ofString "value") = some (.int kv tb) := ⟨_, F3, w1, w2, w3, rfl⟩
    refine hG ?_
    clear hG G
    have F16 := fr_k4 F15 y1 y2 y3 y4
    clear F3 F15 w1 w2 w3
    have N4 : News g L' h [(ll, W.listOf ls.toArray nl), (it, io), (lv, W.listOf ys.toArray ys.length), (lc, W.listOf wcs.toArray 0), (L' + 1, oB)] := N3
    clear N3 FC2 NC3
    refine execsM_any (hideQ fun Q' hQ' => ?_)
    k_steps
    all_goals (try (refine hQ' _ _ ?_; clear hQ' Q'))
    (try dsimp only)
    refine execsM_nil ?_
    rename_i Dw wsw hQ1 hID lD hQ2 FD ND
    refine ⟨g, _, [(Dw, W.listOf wsw.toArray 0)], _, _, rfl, ⟨rfl, Dw, wsw, _, 0, rfl, hID, ?e, ?le, rfl, rfl, rfl⟩, FD, pickN ND (.head _) (fun p hp => ND p (.tail _ (.tail _ (.tail _ hp))))⟩
    case e =>
      rw [j2, List.take_succ_eq_append_getElem hj, List.flatMap_append, ekv]
      simp [row]
    case le => rw [List.length_append, row_length]; omega
  case done =>
    intro g m ch h tk hWz F3 N3
    refine hideG fun G hG => ?_
    obtain ⟨rfl, ll, ls, LI, nl, rfl, j1, j2, j3, w1, w2, w3⟩ := hWz
    refine hG ?_
    clear hG G
    have hyl := hvz.length
    rw [hyl, List.take_length] at j2
    have F16 := fr_k3 F3 w1 w2 w3
    have N4 : News g L' h [(ll, W.listOf ls.toArray nl), (lv, W.listOf ys.toArray ys.length), (lc, W.listOf wcs.toArray 0), (L' + 1, oB)] := N3
    clear F3 w1 w2 w3 N3 FC2 NC3
    have hbL : Bits LI := j2 ▸ bits_flatH vz bw.toNat
    have hv64 : vz.length ≤ 64 := by omega
    have hL4 : LI.length ≤ 1000 := by omega
    have bw0 : 0 ≤ bw := by omega
    have bw24 : bw ≤ 24 := by omega
    have bw40 : bw ≤ 40 := by omega
    (try dsimp only)
    refine execsM_cons (IfR (isTrue_orM (isTrue_Compare1M (CallNameM ?_))))
    k_steps
    refine callWithM_of (P := (Mine.hd.heap_39 w.params).In) rfl (keeps_K (by k_is)) ?_
    refine evalArgsM_plain (splicedM_cons (wpR_any ?_))
    rw [if_neg Bool.false_ne_true]
    k_steps
    refine splicedM_cons (wpR_any ?_)
    (try dsimp only)
    rw [if_neg Bool.false_ne_true]
    k_steps
    refine wpR_pure ⟨kX4.keeps F16.keep, ?_⟩
    show wpM true _ _ (call (.ref 291) [.ref lv, .int bw _]) _ _ _
    k_dflt (refine' joined_c ?B ?F ?X ?N ?hm ?T ?hk ?hd ?hu hvz hv64 bw0 bw24 hvzb ?_; (case B => k_asm); (case F => k_asm); (case X => k_asm); (case N => k_asm); (case T => k_asm); (case hk => first | assumption | exact rfl); (case hd => first | exact n_up (by assumption) (by decide) | ktr_room); (case hu => first | exact n_up (by assumption) (by decide) | ktr_units); (case hm => exact .tail _ (.head _)); k_whole)
    intro oJ tJ hJ tkJ eJ FJ NJ
    (try dsimp only)
    (k_steps <;> repeat' ((with_reducible refine go_on ?_); (first | (with_reducible (k_here; k_dflt (refine' octets_m ?B ?F ?X ?N ?hm ?T ?hk ?hd ?hu ?hv ?hn ?hb ?_; (case B => k_asm); (case F => k_asm); (case X => k_asm); (case N => k_asm); (case T => k_asm); (case hk => first | assumption | exact rfl); (case hd => first | exact n_up (by assumption) (by decide) | ktr_room); (case hu => first | exact n_up (by assumption) (by decide) | ktr_units); (case hm => k_mem); (case hv => assumption); (case hn => omega); (case hb => assumption); k_whole); intro oM tM hM2 tkM eM FM2 NM2; (try dsimp only))) | fail); k_steps))
    · rename_i hne
      obtain rfl : oJ = oM := bInts_inj (eJ.trans ((congrArg (fun l => octsOf true (filled l)) j2.symm).trans eM.symm))
      simp at hne
    refine wpR_any ?_
    (k_steps <;> repeat' ((with_reducible refine go_on ?_); (first | (with_reducible (k_here; k_dflt (refine' octets_m ?B ?F ?X ?N ?hm ?T ?hk ?hd ?hu ?hv ?hn ?hb ?_; (case B => k_asm); (case F => k_asm); (case X => k_asm); (case N => k_asm); (case T => k_asm); (case hk => first | assumption | exact rfl); (case hd => first | exact n_up (by assumption) (by decide) | ktr_room); (case hu => first | exact n_up (by assumption) (by decide) | ktr_units); (case hm => k_mem); (case hv => assumption); (case hn => omega); (case hb => assumption); k_whole); intro oM tM hM2 tkM eM FM2 NM2; (try dsimp only))) | fail); k_steps))
    refine go_on ?_
    have hZ := filled_len (l := LI)
    k_dflt (refine' samples_c (pad := List.replicate ((-(LI.length : Int)) % 8).toNat 0) ?B ?F ?X ?N ?T ?hk ?hd ?hu eM ?hks hv64 bw0 bw40 hvzb ?hbits ?_; (case B => k_asm); (case F => k_asm); (case X => k_asm); (case N => k_asm); (case T => k_asm); (case hk => first | assumption | exact rfl); (case hd => first | exact n_up (by assumption) (by decide) | ktr_room); (case hu => first | exact n_up (by assumption) (by decide) | ktr_units); (case hks => rw [octs_len]; omega); (case hbits => exact (octs_filled true hbL).trans (congrArg (fun l => l ++ List.replicate ((-(LI.length : Int)) % 8).toNat 0) j2)); k_whole)
    intro l2 v2 n2 hS tkS hiS FS NS
    (try dsimp only)
    k_steps
    have NS2 : News g L' hS [(lv, W.listOf ys.toArray ys.length), (L' + 1, oB)] := pickN NS (by k_mem) (pickN NS (by k_mem) (fun p hp => nomatch hp))
    clear NS NM2 NJ N4 FM2 FJ F16
    have bw16 : bw.toNat ≤ 16 := by omega
    refine execsM_nil ?_
    (try dsimp only)
    refine execsM_any (hideQ fun Q' hQ' => ?_)
    k_steps
    all_goals (try (refine hQ' _ _ ?_; clear hQ' Q'))
    rename_i lZ hZ8 tkZ FZ NZ oZ
    have eZ : List.map (fun k' => foldB (rowL k' bw.toNat)) vz = List.map (fun k' => num false (row true k' bw.toNat)) vz := List.map_congr_left fun k _ => foldB_eq _
    rw [decide_eq_true eZ]
    exact ret _ _ fun b o hb => FZ.keep b o (kB4.stays b o hb)
end
end
section -- Lt
set_option maxRecDepth 100000
set_option maxHeartbeats 8000000
set_option linter.unusedVariables false
theorem law_holds : Challenge.rw_nn0201_01.Holds := Mine.hd (by
  k_fill
  intro w s₀ s₁ mg mb G Y fa o pm cd doc dV kV ho hd hcd hD hmg hg args vals as hpre hlay hrd hwl hlo
  have KX := kIn_of Y
  refine Ground.open G ?_
  intro T B D TE TW
  wrow_args hpre hlay hrd hwl hlo
  have efa := mg_of (n := PySem.Str.ofString "law") (v := .ref 346) KX T.g (by k_is)
  have efb : Value.ref fa = .ref 346 := Option.some.inj (hmg.symm.trans efa)
  injection efb with efc
  subst efc
  rename_i ns hs hlay0 hL1 hr1 hl2 as1 as2 l vs as3 hL ra w1 r0 hI hr2 hc1 hc2
  refine law_c KX T hL hI (by omega) fun h' tk hk => ?_
  refine GoodW.toG ⟨.inl ⟨.bool true, .bool true, [], rfl, fun cls => ?hn, .bool true, ?hp, unshared_nil⟩, hk, rfl, hg⟩
  case hn => rfl
  case hp =>
    refine postW_of (r := Challenge.rw_nn0201_01.row.toRowW) (X := true) ?_ ?_ rfl
    · first | rfl | decide +kernel
    · first | rfl | wtm_val)
end
end Mine
end
set_option maxRecDepth 100000 in
set_option maxHeartbeats 8000000 in
theorem PySem.Challenge.cw_nn0201_01_holds : PySem.Challenge.rw_nn0201_01.Holds := by
  exact Mine.law_holds
