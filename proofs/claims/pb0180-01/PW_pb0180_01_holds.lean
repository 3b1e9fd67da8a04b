import PyProof.Rows.All
import Wide.All
import OpenK.AllK
import Wide.FinOn
import PyProof.AttrMissHeap
import Lean
import PySem.Challenge.RW_pb0180_01
open PySem PySem.W PySem.Calls PyProof.Rows
set_option Elab.async false
set_option maxRecDepth 100000
namespace Glyph
open Sem (wp)

/-- the codes that a bytearray's resize asks the stack for -/
def badIds : List String := Builtin.Bytes.decodersThatHold ++ ["bytearray.__contains__", "bytearray.__mod__", "bytearray.__rmod__", "_struct.pack_into.held", "bytearray.find.held"]
def isBad : Code → Bool
  | .builtin id _ => badIds.contains id
  | _ => false
/-- no code of the stack holds a bytearray -/
def Clean (Γ : Ctx) : Prop := ∀ x ∈ Γ.below, isBad x.1 = false

def wpG {α : Type} (M : Model) (A : Around) (t : Sem α) (Q : α → Shared → Prop) (E : Value → Shared → Prop) (s : Shared) : Prop :=
  ∀ Γ p, Γ.In A → Clean Γ → isBad Γ.code = false → wp M Γ t (fun a _ s' => Q a s') (fun e _ s' => E e s') p s
def codeG (M : Model) (A : Around) (c : Code) (R : Result → Shared → Prop) (s : Shared) : Prop :=
  ∀ Γ p, Γ.code = c → Γ.Below A → Clean Γ → wpCode M Γ R p s

section
variable {α β : Type} {M : Model} {A : Around} {E : Value → Shared → Prop} {s : Shared}

theorem wpG_any {t : Sem α} {Q : α → Shared → Prop} (h : wpAny M A t Q E s) : wpG M A t Q E s := fun Γ p hΓ _ _ => h Γ p hΓ
theorem codeG_any {c : Code} {R : Result → Shared → Prop} (h : codeAny M A c R s) : codeG M A c R s := fun Γ p hc hΓ _ => h Γ p hc hΓ
theorem wpG_pure {a : α} {Q : α → Shared → Prop} (h : Q a s) : wpG M A (pure a) Q E s := fun _ _ _ _ _ => h
theorem wpG_throw {e : Value} {Q : α → Shared → Prop} (h : E e s) : wpG M A (throw e : Sem α) Q E s := fun _ _ _ _ _ => h
theorem wpG_mono {t : Sem α} {Q Q' : α → Shared → Prop} {E' : Value → Shared → Prop} (h : wpG M A t Q E s) (hQ : ∀ a s, Q a s → Q' a s) (hE : ∀ e s, E e s → E' e s) : wpG M A t Q' E' s :=
  fun Γ p hΓ c b => Sem.wp_mono M Γ t (fun a _ s => hQ a s) (fun e _ s => hE e s) p s (h Γ p hΓ c b)
theorem wpG_bind {m : Sem α} {f : α → Sem β} {Q : β → Shared → Prop} (h : wpG M A m (fun a s' => wpG M A (f a) Q E s') E s) : wpG M A (m >>= f) Q E s := fun Γ p hΓ c b => by
  rw [Sem.wp_bind']
  exact Sem.wp_mono M Γ m (fun a p' s' h' => h' Γ p' hΓ c b) (fun _ _ _ h' => h') p s (h Γ p hΓ c b)
theorem wpG_tryCatch {m : Sem α} {k : Value → Sem α} {Q : α → Shared → Prop} (h : wpG M A m Q (fun e s' => wpG M A (k e) Q E s') s) : wpG M A (tryCatch m k) Q E s := fun Γ p hΓ c b => by
  rw [Sem.wp_tryCatch']
  exact Sem.wp_mono M Γ m (fun _ _ _ h' => h') (fun e p' s' h' => h' Γ p' hΓ c b) p s (h Γ p hΓ c b)
theorem wpG_onRaise {m : Sem α} {k : Value → Sem Unit} {Q : α → Shared → Prop} (h : wpG M A m Q (fun e s' => wpG M A (k e) (fun _ s'' => E e s'') E s') s) : wpG M A (m.onRaise k) Q E s := fun Γ p hΓ c b => by
  rw [Sem.wp_onRaise]
  exact Sem.wp_mono M Γ m (fun _ _ _ h' => h') (fun e p' s' h' => h' Γ p' hΓ c b) p s (h Γ p hΓ c b)
theorem wpG_attempt {m : Sem α} {Q : Except Value α → Shared → Prop} (h : wpG M A m (fun a => Q (.ok a)) (fun e => Q (.error e)) s) : wpG M A m.attempt Q E s := fun Γ p hΓ c b => by rw [Sem.wp_attempt]; exact h Γ p hΓ c b
theorem wpG_holding {vs : List Value} {m : Sem α} {Q : α → Shared → Prop} (h : wpG M A m Q E s) : wpG M A (holding vs m) Q E s := fun Γ p hΓ c b => by rw [Sem.wp_holding]; exact h Γ p hΓ c b
theorem wpG_ite {c : Prop} [Decidable c] {a b : Sem α} {Q : α → Shared → Prop} (h : if c then wpG M A a Q E s else wpG M A b Q E s) : wpG M A (if c then a else b) Q E s := by split <;> simp_all
theorem wpG_of_eq {t : Sem α} {a : α} {Q : α → Shared → Prop} (e : t = pure a) (h : Q a s) : wpG M A t Q E s := by rw [e]; exact wpG_pure h

theorem codeG_mono {c : Code} {R R' : Result → Shared → Prop} (h : codeG M A c R s) (hR : ∀ r s, R r s → R' r s) : codeG M A c R' s := fun Γ p hc hΓ cl => wpCode_mono hR (h Γ p hc hΓ cl)

theorem clean_enter {Γ : Ctx} (c : Clean Γ) (b : isBad Γ.code = false) (c' : Code) (h : Option Value) (p : Pos) : Clean (Γ.enter c' h p) := by
  intro x hx
  rcases List.mem_cons.mp hx with rfl | hx
  · exact b
  · exact c x hx

theorem wpG_run {c : Code} {h : Option Value} {Q : Flow → Shared → Prop}
    (hc : codeG M (A.mark h) c (fun r s' => match r with | .ok f => Q f s' | .error e => E e s') s) (hnb : h ≠ some byPass := by intro x; cases x) : wpG M A (run c h) Q E s :=
  fun Γ p hΓ cl b => by rw [Sem.wp_run]; exact hc _ p rfl (hΓ.enter c h p hnb) (clean_enter cl b c h p)
theorem wpG_runValue {c : Code} {Q : Value → Shared → Prop} (hc : codeG M A c (fun r s' => match r with | .ok (.ret v) => Q v s' | .ok _ => False | .error e => E e s') s) : wpG M A (runValue c) Q E s :=
  fun Γ p hΓ cl b => by rw [Sem.wp_runValue]; exact hc _ p rfl (hΓ.enter c none p (by intro x; cases x)) (clean_enter cl b c none p)
theorem wpG_call {f : Value} {pos : List Value} {kw : List (Str × Value)} {Q : Value → Shared → Prop}
    (hc : codeG M A (.call f ⟨pos, kw⟩) (fun r s' => match r with | .ok (.ret v) => Q v s' | .ok _ => False | .error e => E e s') s) : wpG M A (call f pos kw) Q E s := wpG_runValue hc
theorem codeG_of_tree {c : Code} {R : Result → Shared → Prop} (hb : isBad c = false)
    (h : wpG M (A.under c) (M.den c) (fun fin s' => match fin with | .done f => R (.ok f) s' | .again c' => c'.quiet = true ∧ codeG M A c' R s') (fun e s' => R (.error e) s') s) : codeG M A c R s := fun Γ p hc hΓ cl => by
  rw [wpCode_iff_wp, hc]
  refine Sem.wp_mono M Γ _ (fun fin p' s' h' => ?_) (fun _ _ _ h' => h') p s (h Γ p (hc ▸ hΓ.in) cl (hc ▸ hb))
  cases fin with
  | done f => exact h'
  | again c' => exact ⟨h'.1, h'.2 (Γ.goto c') p' rfl (hΓ.goto c') cl⟩
theorem codeG_loop {c : Code} {R : Result → Shared → Prop} (hb : isBad c = false) (hq : c.quiet = true) (I : Nat → Shared → Prop)
    (turn : ∀ n s, I n s → wpG M (A.under c) (M.den c) (fun fin s' => match fin with | .done f => R (.ok f) s' | .again c' => (c' = c ∧ ∃ m, m < n ∧ I m s') ∨ (c'.quiet = true ∧ codeG M A c' R s')) (fun e s' => R (.error e) s') s)
    (n : Nat) (h : I n s) : codeG M A c R s := by
  induction n using Nat.strongRecOn generalizing s with
  | ind n ih =>
    refine codeG_of_tree hb (wpG_mono (turn n s h) (fun fin s' hf => ?_) fun _ _ h' => h')
    cases fin with
    | done f => exact hf
    | again c' =>
      rcases hf with ⟨rfl, m, hm, hI⟩ | hf
      · exact ⟨hq, ih m hm hI⟩
      · exact hf

theorem wpAny_pos {α : Type} {M : Model} {A : Around} {a b : Sem α} {Q : α → Shared → Prop} {E : Value → Shared → Prop} {s : Shared} {c : Prop} [Decidable c] (hc : c) (h : wpAny M A a Q E s) : wpAny M A (if c then a else b) Q E s := by
  rw [if_pos hc]; exact h
theorem wpAny_neg {α : Type} {M : Model} {A : Around} {a b : Sem α} {Q : α → Shared → Prop} {E : Value → Shared → Prop} {s : Shared} {c : Prop} [Decidable c] (hc : ¬ c) (h : wpAny M A b Q E s) : wpAny M A (if c then a else b) Q E s := by
  rw [if_neg hc]; exact h
theorem wpG_pos {α : Type} {M : Model} {A : Around} {a b : Sem α} {Q : α → Shared → Prop} {E : Value → Shared → Prop} {s : Shared} {c : Prop} [Decidable c] (hc : c) (h : wpG M A a Q E s) : wpG M A (if c then a else b) Q E s := by
  rw [if_pos hc]; exact h
theorem wpG_neg {α : Type} {M : Model} {A : Around} {a b : Sem α} {Q : α → Shared → Prop} {E : Value → Shared → Prop} {s : Shared} {c : Prop} [Decidable c] (hc : ¬ c) (h : wpG M A b Q E s) : wpG M A (if c then a else b) Q E s := by
  rw [if_neg hc]; exact h
/-- the ask of the stack: none holds it -/
theorem wpG_exported {v : Value} {Q : Bool → Shared → Prop} (h : Q false s) : wpG M A (Builtin.Bytes.exported v) Q E s := fun Γ p _ cl b => by
  show Q (((Γ.code, p) :: Γ.below).any _) s
  have key : ∀ x : Code × Pos, isBad x.1 = false → (match x with
    | (.builtin "bytearray.__contains__" ⟨v' :: _, _⟩, _) | (.builtin "bytearray.__mod__" ⟨v' :: _, _⟩, _)
    | (.builtin "bytearray.__rmod__" ⟨_ :: v' :: _, _⟩, _) | (.builtin "_struct.pack_into.held" ⟨v' :: _, _⟩, _) => Builtin.Bytes.sameRef v' v
    | (.builtin "bytearray.find.held" ⟨_ :: _ :: held, _⟩, _) => held.any (Builtin.Bytes.sameRef v)
    | (.builtin id ⟨v' :: _, _⟩, _) => Builtin.Bytes.sameRef v' v && Builtin.Bytes.decodersThatHold.contains id
    | _ => false) = false := by
    intro x hx
    split <;> first | rfl | (simp [isBad, badIds] at hx; done) | skip
    · rename_i id v' _ _ _ _ _ _ _ _ 
      simp only [isBad, badIds, List.contains_eq_mem, List.mem_append, decide_eq_false_iff_not, not_or] at hx
      simp [hx.1]
  generalize hb : List.any _ _ = bb
  have : bb = false := by
    rw [← hb]
    refine List.any_eq_false.mpr fun x hx => ?_
    rw [Bool.not_eq_true]
    refine key x ?_
    rcases List.mem_cons.mp hx with rfl | hx
    · exact b
    · exact cl x hx
  rw [this]; exact h
end
end Glyph
name_quick tw15400244819504064846 for PySem.W.S.findZ by PySem.W.S.findZ_eq
name_quick tw12240265116311060438 for PySem.W.S.findZ by PySem.W.S.findZ_eq
name_quick tw12920381986670880187 for PySem.W.S.findZ by PySem.W.S.findZ_eq
name_quick tw3261405470949586040 for PySem.W.S.findZ by PySem.W.S.findZ_eq
name_quick tw6394301022687088808 for PySem.W.S.findZ by PySem.W.S.findZ_eq
name_quick tw13021716081427553144 for PySem.W.S.findZ by PySem.W.S.findZ_eq
name_quick tw1892304198427784542 for PySem.W.S.findZ by PySem.W.S.findZ_eq
name_quick tw14340552563055516330 for PySem.W.S.findZ by PySem.W.S.findZ_eq
name_quick tw4295973966557271163 for PySem.W.S.findZ by PySem.W.S.findZ_eq
name_quick tw7094333194440336696 for PySem.W.S.findZ by PySem.W.S.findZ_eq
name_quick tw1866370497314637368 for PySem.W.S.findZ by PySem.W.S.findZ_eq
name_quick tw5743628334085162547 for PySem.W.S.findZ by PySem.W.S.findZ_eq
name_quick tw5446101478908739375 for PySem.W.S.findZ by PySem.W.S.findZ_eq
name_quick tw14215604362041195139 for PySem.W.S.findZ by PySem.W.S.findZ_eq
name_quick tw7584964334612875217 for PySem.W.S.findZ by PySem.W.S.findZ_eq
name_quick tw16484366887218839390 for PySem.W.S.findZ by PySem.W.S.findZ_eq
name_quick tw6853131885922978013 for PySem.W.S.findZ by PySem.W.S.findZ_eq
name_quick tw12306279720853141609 for PySem.W.S.findZ by PySem.W.S.findZ_eq
name_quick tw1579090523015659627 for PySem.W.S.findZ by PySem.W.S.findZ_eq
name_quick tw1882243183450846955 for PySem.W.S.findZ by PySem.W.S.findZ_eq
name_quick tw17462687776783102552 for PySem.W.S.findZ by PySem.W.S.findZ_eq
name_quick tw14594246297461233642 for PySem.W.S.findZ by PySem.W.S.findZ_eq
name_quick tw15779466502900991641 for PySem.W.S.findZ by PySem.W.S.findZ_eq
name_quick tw1282565276988025097 for PySem.W.S.findZ by PySem.W.S.findZ_eq
name_quick tw8115063903273263446 for PySem.W.S.findZ by PySem.W.S.findZ_eq
name_quick tw17281101671087679339 for PySem.W.S.findZ by PySem.W.S.findZ_eq
name_quick tw602845506808024818 for PySem.W.S.findZ by PySem.W.S.findZ_eq
name_quick tw14438524738639137162 for PySem.W.S.findZ by PySem.W.S.findZ_eq
name_quick tw9161341670820127130 for PySem.W.S.findZ by PySem.W.S.findZ_eq
name_quick tw11734492275420963403 for PySem.W.S.findZ by PySem.W.S.findZ_eq
name_quick tw4084401331092759907 for PySem.W.S.findZ by PySem.W.S.findZ_eq
name_quick tw5876579163011386807 for PySem.W.S.findZ by PySem.W.S.findZ_eq
name_quick tw7858283263399132422 for PySem.W.S.findZ by PySem.W.S.findZ_eq
name_quick tw11944481258910113629 for PySem.W.S.findZ by PySem.W.S.findZ_eq
name_quick tw14034777829949313311 for PySem.W.S.findZ by PySem.W.S.findZ_eq
name_quick tw12747506161122438167 for PySem.W.S.findZ by PySem.W.S.findZ_eq
name_quick tw14583257201282059273 for PySem.W.S.findZ by PySem.W.S.findZ_eq
name_quick tw5472333033768542262 for PySem.W.S.findZ by PySem.W.S.findZ_eq
name_quick tw7320131437196844405 for PySem.W.S.findZ by PySem.W.S.findZ_eq
name_quick tw8527243882722956130 for PySem.W.S.findZ by PySem.W.S.findZ_eq
name_quick tw4083765097598813058 for PySem.W.S.findZ by PySem.W.S.findZ_eq
name_quick tw12752908261601290057 for PySem.W.S.findZ by PySem.W.S.findZ_eq
name_quick tw2948205261697202541 for PySem.W.S.findZ by PySem.W.S.findZ_eq
name_quick tw2793885762545977373 for PySem.W.S.findZ by PySem.W.S.findZ_eq
name_quick tw9778341381681072073 for PySem.W.S.findZ by PySem.W.S.findZ_eq
name_quick tw13205180808420906278 for PySem.W.S.findZ by PySem.W.S.findZ_eq
name_quick tw11866389618544634743 for PySem.W.S.findZ by PySem.W.S.findZ_eq
name_quick tw15879629803419981640 for PySem.W.S.findZ by PySem.W.S.findZ_eq
name_quick tw9964072218441992896 for PySem.W.S.findZ by PySem.W.S.findZ_eq
name_quick tw9694807612911616605 for PySem.W.S.findZ by PySem.W.S.findZ_eq
name_quick tw17329534108791140860 for PySem.W.S.findZ by PySem.W.S.findZ_eq
name_quick tw13334639021667298507 for PySem.W.S.findZ by PySem.W.S.findZ_eq
name_quick tw15531711000186536555 for PySem.W.S.findZ by PySem.W.S.findZ_eq
name_quick tw10421448183155450603 for PySem.W.S.findZ by PySem.W.S.findZ_eq
name_quick tw13829244079410597012 for PySem.W.S.findZ by PySem.W.S.findZ_eq
name_quick tw14825102955191637956 for PySem.W.S.findZ by PySem.W.S.findZ_eq
name_quick tw6942992269314335129 for PySem.W.S.findZ by PySem.W.S.findZ_eq
name_quick tw10824183874448209035 for PySem.W.S.findZ by PySem.W.S.findZ_eq
name_quick tw9625889163871424232 for PySem.W.S.findZ by PySem.W.S.findZ_eq
name_quick tw1062238452131701014 for PySem.W.S.findZ by PySem.W.S.findZ_eq
name_quick tw9222445408189159125 for PySem.W.S.findZ by PySem.W.S.findZ_eq
name_quick tw10257608274869128006 for PySem.W.S.findZ by PySem.W.S.findZ_eq
name_quick tw11272742058730922094 for PySem.W.S.findZ by PySem.W.S.findZ_eq
name_quick tw3874579824237099539 for PySem.W.S.findZ by PySem.W.S.findZ_eq
name_quick tw17470545250462844262 for PySem.W.S.findZ by PySem.W.S.findZ_eq
name_quick tw9089497189009277214 for PySem.W.S.findZ by PySem.W.S.findZ_eq
name_quick tw3778675543627445433 for PySem.W.S.findZ by PySem.W.S.findZ_eq
name_quick tw7499809405599453811 for PySem.W.S.findZ by PySem.W.S.findZ_eq
name_quick tw9749134049013335483 for PySem.W.S.findZ by PySem.W.S.findZ_eq
name_quick tw7019923508751628898 for PySem.W.S.findZ by PySem.W.S.findZ_eq
name_quick tw4082358926268469400 for PySem.W.S.findZ by PySem.W.S.findZ_eq
name_quick tw17316491011383250740 for PySem.W.S.findZ by PySem.W.S.findZ_eq
name_quick tw7888542634647598983 for PySem.W.S.findZ by PySem.W.S.findZ_eq
name_quick tw6738780369657260038 for PySem.W.S.findZ by PySem.W.S.findZ_eq
name_quick tw17070324320328093745 for PySem.W.S.findZ by PySem.W.S.findZ_eq
name_quick tw11069420763520722008 for PySem.W.S.findZ by PySem.W.S.findZ_eq
name_quick tw17090105456040353514 for PySem.W.S.findZ by PySem.W.S.findZ_eq
name_quick tw18064017934007533645 for PySem.W.S.findZ by PySem.W.S.findZ_eq
name_quick tw12158856615184340354 for PySem.W.S.findZ by PySem.W.S.findZ_eq
name_quick tw4728382719596883084 for PySem.W.S.findZ by PySem.W.S.findZ_eq
name_quick tw11991764697622592323 for PySem.W.S.findZ by PySem.W.S.findZ_eq
namespace Glyph
open Sem (wp)

theorem runs_clean {prog : Program} {w : World} {t : Sem Fin} {s : Shared} {R : Result → Shared → Prop} (hreg : s.asleep)
    (h : wpG (model prog w) callerA t (fun fin s' => ∃ f, fin = .done f ∧ (R (.ok f) s' ∧ leftWithCleanup s'.gens = false)) (fun e s' => R (.error e) s' ∧ leftWithCleanup s'.gens = false) s) :
    ∃ n r s' s'', runN (denote table) prog w n s ⟨t, .builtin "claim.caller" {}, default, []⟩ = .halted (outcomeOf r) s' ∧
      schedN (denote table) prog w n (.single s ⟨t, .builtin "claim.caller" {}, default, []⟩) = .halted (outcomeOf r) s' ∧ s'.forget = s''.forget ∧ R r s'' := by
  have h' := h ⟨.builtin "claim.caller" {}, none, none, [], none⟩ default caller_in (fun x hx => nomatch hx) (by decide +kernel)
  obtain ⟨n, r, s₁, s₂, hs, hn, hfo, hR⟩ := wp_halts_full (M := model prog w) (R := R) hreg
    (Sem.wp_mono _ _ _ (fun fin p' s' x => by obtain ⟨f, rfl, hf⟩ := x; exact hf) (fun _ _ _ x => x) _ _ h')
  exact ⟨n, r, s₂, s₁, hn, hs, hfo, hR⟩

theorem calls_clean {c : ClaimW} {tree : List Value → Sem Fin} {w : World} {s : Shared} {free : Addr → Prop} {gens : Prop} {kept : Heap → Prop} (hz : s.asleep) (hgens : s.gens = #[])
    (hspec : ∀ args, c.pre args = true → WData.layableAll args = true → ∀ ord : List DictEntry → List DictEntry, (∀ l, (ord l).Perm l) →
      ∃ vs s₁, layAllW c.records (classAt s.heap) w.params ord args s = some (vs, s₁) ∧
        wpG (model c.prog w) callerA (tree vs) (fun fin s' => ∃ f, fin = .done f ∧ (c.Ends s args vs s₁ (.ok f) s' ∧ s'.os = s.os ∧ AllBare s'.gens ∧ kept s'.heap))
          (fun e s' => c.Ends s args vs s₁ (.error e) s' ∧ s'.os = s.os ∧ AllBare s'.gens ∧ kept s'.heap) s₁) :
    c.CallFrom (fun vs => ⟨tree vs, .builtin "claim.caller" {}, default, []⟩) w free gens kept s := by
  intro args hpre hlay ord hord
  obtain ⟨vs, s₁, hlaid, hcode⟩ := hspec args hpre hlay ord hord
  have hal := layAllW_rest _ _ _ hlaid
  obtain ⟨k, r, s', s'', hrun, hsched, hfo, hcase, hos, hkp⟩ := runs_clean (prog := c.prog) (w := w) (t := tree vs) (s := s₁)
    (R := fun r s' => c.Ends s args vs s₁ r s' ∧ s'.os = s.os ∧ kept s'.heap)
    (Shared.asleep_of_life hal.2.2.2 hz)
    (wpG_mono hcode (by
      rintro fin s' ⟨f, e, h1, h2, h3, h4⟩
      exact ⟨f, e, ⟨h1, h2, h4⟩, leftWithCleanup_false_of_bare h3⟩) (by
      rintro e s' ⟨h1, h2, h3, h4⟩
      exact ⟨⟨h1, h2, h4⟩, leftWithCleanup_false_of_bare h3⟩))
  obtain ⟨eh, _, _, eo, _⟩ := Shared.forget_eq hfo
  have hcase := hcase.congr eh
  have hkp : kept s'.heap := by rw [eh]; exact hkp
  rw [← eo] at hos
  have hlife : s'.heap.life = s.heap.life := (runN_life _ _ _ hrun).trans hal.2.2.2
  refine ⟨vs, s₁, hlaid, k, _, s', hsched, ?_, (fun _ i x hx => by rw [hgens] at hx; simp at hx), hkp, by rw [hlife], Shared.rest_eq hos⟩
  rcases hcase with ⟨v, rfl, d1, d2, d3, d4, d5⟩ | ⟨e, ob, cls, rfl, d1, d2, d3, d4, d5⟩
  · exact .inl ⟨v, rfl, d1, d2, d3, fun b o y _ => d4 b o y, d5⟩
  · exact .inr ⟨e, ob, cls, rfl, d1, d2, d3, d4, fun b o y _ => d5 b o y⟩

/-- the walk that is left, on clean stacks -/
def WalkC (q : Program) (loose : List Str) (XP : (Str → Option Value) → Heap → Prop) (YP : World → Heap → Prop) (r : RowW) (d : DefRec) (kwd : List (Str × Expr)) : Prop :=
  ∀ (w : World) (s₀ s₁ : Shared) (mg mb : Str → Option Value), Ground q loose r.records XP w s₀ mg mb s₁.heap → YP w s₁.heap → ∀ (a : Addr) (o : Obj) (pm cd doc dV kV : Value), s₁.heap.get? a = some o →
    o.data = .func { docDef d.name d.params d.body d.scope pm cd doc with defaults := dV, kwdefaults := kV } → s₁.heap.CodeRec cd d.name → Dflts mg s₁.heap d.params kwd dV kV → mg d.name = some (.ref a) → s₁.gens = #[] →
    ∀ (args : List WData) (vals : List Value) (as : List Addr), r.claim.pre args = true → WData.layableAll args = true → ReadsAllW r.records (classAt s₀.heap) s₁.heap vals args as → WellAll w.params s₁.heap vals args → (∀ a ∈ as, (a == sysModules) = false) →
      wpG (model r.prog w) callerA (PySem.call (.ref a) vals) (fun v s' => GoodWG r.claim (classAt s₀.heap) (ExcName.means s₀.heap) args s₁ (.ok (.ret v)) s')
        (fun e s' => GoodWG r.claim (classAt s₀.heap) (ExcName.means s₀.heap) args s₁ (.error e) s') s₁

end Glyph
namespace Glyph.PySem.W
open Glyph
/-- the head's theorem for a walk on clean stacks: in this namespace the library's head line takes it -/
theorem holds_open {r : OpenRow} {q : Program} {loose : List Str} {Xt : Shared → Bool} {XP : (Str → Option Value) → Heap → Prop} {α : Type} {Yf : Shared → α} {Ya : World → α} {YP : World → Heap → Prop} {d : DefRec} {kwd : List (Str × Expr)} {N : Nat}
    (left : LeftO r.prog q loose Xt Yf Ya N) (hY : ∀ w s, Yf s = Ya w → YP w s.heap) (hYk : ∀ w h h', YP w h → (∀ b o, h.get? b = some o → h'.get? b = some o) → YP w h')
    (hX : ∀ s, Xt s = true → XP (s.heap.nsMap mainGlobals) s.heap) (hXk : ∀ mg h h', XP mg h → (∀ b o, h.get? b = some o → h'.get? b = some o) → XP mg h')
    (hdef : defOf q r.name = some (d, kwd)) (hp : r.prog.theDef r.name = some (d.params, d.body, d.scope)) (hk : kwWritten? d.params.kwonlyargs d.params.kw_defaults = some kwd) (hRf : ∀ s, Xt s = true → RecFacts r.records s.heap) (hwr : (!r.writes || r.records.isEmpty) = true)
    (k1 : r.wellSaid = true) (ok : (chainsOk q && opensWell r.prog && (frees r.toRowW && r.within.isEmpty)) = true) (hb : r.prog.bare) (hw : r.toRowW.promised)
    (call : WalkC q loose XP YP r.toRowW d kwd) : r.Holds := by
  refine ⟨k1, hw, ?_⟩
  obtain ⟨ok, k5⟩ := Bool.and_eq_true_iff.mp ok
  obtain ⟨hch, o1⟩ := Bool.and_eq_true_iff.mp ok
  obtain ⟨k5, k6⟩ := Bool.and_eq_true_iff.mp k5
  obtain ⟨hsame, hu, ha, hap, hm⟩ := frees_parts k5
  refine ⟨⟨hb, o1, by show r.toRowW.makers.map _ = []; rw [hm]; rfl⟩, hw.witness, fun w => ⟨(left.behind hX hch w).1, fun s' hs' => ?_⟩⟩
  obtain ⟨s₀, hf, hg0, s, hT, hz, hgens, hg, G00, y⟩ := (left.behind (XP := fun mg h => XP mg h ∧ RecFacts r.records h) (fun s hs => ⟨hX s hs, hRf s hs⟩) hch w).2 s' hs'
  have G0 : Ground q loose [] XP w s (s.heap.nsMap mainGlobals) (s.heap.nsMap builtinsNs) s.heap := ⟨G00.T, G00.B, G00.D, G00.TE, G00.TD, G00.W, G00.X.1, G00.cls, G00.has, G00.apart, G00.once, G00.K⟩
  have RF := G00.X.2
  have hT' := hT
  refine ⟨s₀, hf, hg0, s, hT, fun n hn => ?_, RF.1, RF.2.1, ?_⟩
  · obtain rfl : n = r.name := by split at hn <;> simp_all
    exact pinned_of_view hg G0 hdef hp hk
  have hgens : s.gens = #[] := Array.eq_empty_of_size_eq_zero (beq_iff_eq.mp hgens)
  have G : Ground q loose r.records XP w s _ _ s.heap := RF.ground G0
  refine calls_clean (c := r.toRowW.claim) (tree := fun vs => do match ← nsGet mainNs r.name with
      | some f => do ret (← PySem.call f vs)
      | none => unsupported "claim.caller:no-such-global") hz hgens fun args hpre hlay ord hord => ?_
  obtain ⟨⟨vs, s₁⟩, hlaid⟩ := Option.isSome_iff_exists.mp (layAllW_isSome (P := w.params) (ord := ord) G.has args r.toRowW.args s (pre_splitW hpre).1)
  have keeps := layAllW_keeps _ _ _ hlaid
  have hal := layAllW_rest _ _ _ hlaid
  obtain ⟨as, hrd, hin, hold⟩ := reads_layAllW hord _ _ _ hlaid hlay s₁.heap (fun _ _ e => e)
  have L : Laid r.records w s s₁ args vs as := ⟨⟨ord, hord, hlaid⟩, hrd, hin, hold, keeps, hal.1.trans hgens, hal.2.2.1⟩
  have G₁ := G.keeps hXk keeps
  have hi := ident_freeW hu ha hap
  have hwi : r.claim.within = [] := List.isEmpty_iff.mp k6
  obtain ⟨a, o, pm, cd, doc, dV, kV, h1, h2, h3, h4, h5⟩ := G₁.fn hdef
  have h := call w s s₁ _ _ G₁ (hYk _ _ _ (hY w s y) keeps) a o pm cd doc dV kV h2 h3 h4 h5 (defOf_name hdef ▸ h1) L.gens args vs as hpre hlay L.reads L.well (L.low G.low)
  refine ⟨vs, s₁, hlaid, wpG_bind (wpG_any (wpAny_nsGet G₁.T.g ?_))⟩
  rw [h1]
  refine wpG_bind (wpG_mono h (fun v s' g => wpG_pure ⟨_, rfl, ?_⟩) fun e s' g => ?_)
  · have z := g.laid (c := r.toRowW.claim) hsame hwi hi L
    exact ⟨z.1, z.2.1, z.2.2, fun q => ⟨namesKept_of hT' hg r.keeps keeps g.2.1.old, noTable hwr q⟩⟩
  · have z := g.laid (c := r.toRowW.claim) hsame hwi hi L
    exact ⟨z.1, z.2.1, z.2.2, fun q => ⟨namesKept_of hT' hg r.keeps keeps g.2.1.old, noTable hwr q⟩⟩
end Glyph.PySem.W
namespace Glyph

set_option maxRecDepth 100000 in
set_option maxHeartbeats 8000000 in
open_top hd for PySem.Challenge.rw_pb0180_01
end Glyph
namespace Glyph
section
theorem offBase : True := by w_top off; trivial
noncomputable abbrev Pr : Program := PySem.Challenge.rw_pb0180_01.row.prog
noncomputable abbrev KK (w : World) : Frag := hd.heap_39 w.params
noncomputable abbrev VW : Program := hd.view_39

/-- what the touched addresses leave alone -/
def Ext (T : List Addr) (h h' : Heap) : Prop := ∀ b o, h.get? b = some o → b ∉ T → h'.get? b = some o

section
variable {prog : Program} {w : World} {A₀ A : Around} {s : Shared} {base h₀ : Heap} {outer : List Env} {L : Addr} {m : Str → Option Value} {env : Env} {news : List (Addr × Obj)} {K : Frag}
  {p : Program} {loose : List Str} {mean : ExcName → Option Value} {mg mb : Str → Option Value}
  {R : Result → Shared → Prop} {name qual : Str} {params : Arguments} {body : List Stmt} {scope : Scope} {dV kV doc pm cdv ct oc : Value} {an od : Option Addr} {osl : Array (Option Value)} {f : Addr} {args : Args} {binds : List (Str × Value)}

theorem own_call (B : Below A₀ base outer h₀) (F : Fr h₀ L s.heap m) (X₀ : K.In h₀) (N : News h₀ L s.heap news) (T : Top p loose mean mg mb h₀) (hA : A.frames = some (env :: outer)) (hf : env.frame = some L) (hke : env.scope.kind = .function)
    (ho : K.lookup f = some ⟨oc, od, .func (fnOf name qual params body scope dV kV doc pm an cdv ct), osl⟩) (hcd : codeIn K cdv qual = true) (hroom : A.depth < recursionLimit)
    (hbind : BindsTo s (fnOf name qual params body scope dV kV doc pm an cdv ct) args binds) (hloc : ∀ y ∈ binds, scope.names.lookup y.1 = some .local)
    (h : ∀ g L' h₁, Ext (news.map (·.1)) s.heap g → (∀ b o, g.get? b = some o → s.heap.get? b = some o) → Fr g L' h₁ (fun y => binds.reverse.lookup y) → News g L' h₁ news → Below A base (env :: outer) g → K.In g → Top p loose mean mg mb g →
      wpAny (model prog w) (A.deeper (envOf qual scope L' f cdv)) (execs body (envOf qual scope L' f cdv))
        (fun fl s' => R (.ok (.ret (match fl with | .ret v => v | _ => .none))) s')
        (fun e s' => wpAny (model prog w) (A.deeper (envOf qual scope L' f cdv)) (leaving (envOf qual scope L' f cdv) e) (fun _ s'' => R (.error e) s'') (fun e' s'' => R (.error e') s'') s')
        { s with heap := h₁, toks := s.toks + binds.length })
    (hco : scope.isCoroutine = false) (hgen : scope.isGenerator = false) (hk : scope.kind = .function)
    (hcell : ∀ x ∈ scope.names, x.2 ≠ .cell) : codeAny (model prog w) A (.call (.ref f) args) R s := by
  obtain ⟨FG, BG, st, _⟩ := groundX (R := R) B F N hA hf hke
  refine codeAny_call_def (fd := fnOf name qual params body scope dV kV doc pm an cdv ct) (body := body) (binds := binds) hroom ((X₀.keeps F.keep) _ _ ho) rfl (T.nolimit.keeps F.keep) (codeRec_of (X₀.keeps F.keep) hcd) rfl hbind hcell hloc (fun h₁ hns hk₁ => ?_) hco hgen hk
  exact h _ s.heap.objs.size h₁ (fun b o e n => hideAll_get _ e n) (fun b o e => of_hideAll _ e) ⟨hns, fun b o e => hk₁ b o (of_hideAll _ e), Nat.le_of_eq (hideAll_size _ _)⟩
    (fun p hp => ⟨hk₁ _ _ (N p hp).1, Nat.ne_of_lt (Heap.lt_size (N p hp).1), hideAll_none _ (List.mem_map_of_mem hp)⟩) BG (X₀.keeps st) (T.keeps st)

theorem own_callC (B : Below A₀ base outer h₀) (F : Fr h₀ L s.heap m) (X₀ : K.In h₀) (N : News h₀ L s.heap news) (T : Top p loose mean mg mb h₀) (hA : A.frames = some (env :: outer)) (hf : env.frame = some L) (hke : env.scope.kind = .function)
    (ho : K.lookup f = some ⟨oc, od, .func (fnOf name qual params body scope dV kV doc pm an cdv ct), osl⟩) (hcd : codeIn K cdv qual = true) (hroom : A.depth < recursionLimit)
    (hbind : BindsTo s (fnOf name qual params body scope dV kV doc pm an cdv ct) args binds) (hkind : (binds.all fun y => scope.names.lookup y.1 == some .local || scope.names.lookup y.1 == some .cell) = true)
    (hnd : ((cellsFrom 0 scope.names []).map (·.1)).Nodup)
    (h : ∀ g L' h₁ tk cells, Ext (news.map (·.1)) s.heap g → (∀ b o, g.get? b = some o → s.heap.get? b = some o) → Fr g L' h₁ (bindL (envOfC qual scope L' f cdv).kindOf binds fun _ => none) → News g L' h₁ (cells ++ news) →
      CellsAre (bindC (envOfC qual scope L' f cdv).kindOf binds fun _ => none) (cellsFrom (L' + 1) scope.names []) cells → Below A base (env :: outer) g → K.In g → Top p loose mean mg mb g → (∀ p ∈ news, p.1 < L') →
      wpAny (model prog w) (A.deeper (envOfC qual scope L' f cdv)) (execs body (envOfC qual scope L' f cdv))
        (fun fl s' => R (.ok (.ret (match fl with | .ret v => v | _ => .none))) s')
        (fun e s' => wpAny (model prog w) (A.deeper (envOfC qual scope L' f cdv)) (leaving (envOfC qual scope L' f cdv) e) (fun _ s'' => R (.error e) s'') (fun e' s'' => R (.error e') s'') s')
        { s with heap := h₁, toks := tk })
    (hco : scope.isCoroutine = false) (hgen : scope.isGenerator = false) (hk : scope.kind = .function) : codeAny (model prog w) A (.call (.ref f) args) R s := by
  obtain ⟨FG, BG, st, _⟩ := groundX (R := R) B F N hA hf hke
  refine codeAny_call_function hroom ((X₀.keeps F.keep) _ _ ho) rfl hco hgen rfl (codeRec_of (X₀.keeps F.keep) hcd) (hbind _ _ _ _ ?_)
  refine wpAny_newFunctionEnv_cells hk (kindsX hkind _) fun env' he s' x => ?_
  subst he
  refine ⟨(T.nolimit.keeps F.keep).keeps x.toInCall.keep, codeAny_func ?_⟩
  obtain ⟨h₁, tk, rfl, _⟩ := x.done
  have hk₁ := x.toInCall.keep
  obtain ⟨cells, NC, Y⟩ := Cl.news (h₀ := s.heap) (Nat.le_refl _) fun n c hm => ⟨x.cell n c (lookup_of_mem_nodup (cellsFrom_names scope.names 0 (s.heap.objs.size + 1) [] [] rfl ▸ hnd) hm), x.above n c hm⟩
  refine h _ s.heap.objs.size h₁ tk cells (fun b o e n => hideAll_get _ e n) (fun b o e => of_hideAll _ e) ⟨x.toInCall.ns, fun b o e => hk₁ b o (of_hideAll _ e), Nat.le_of_eq (hideAll_size _ _)⟩ (fun p hp => ?_) Y BG (X₀.keeps st) (T.keeps st) (fun p hp => Heap.lt_size (N p hp).1)
  rcases List.mem_append.mp hp with hp | hp
  · refine ⟨(NC p hp).1, (NC p hp).2.1, ?_⟩
    cases q : (hideAll s.heap (news.map (·.1))).get? p.1 with
    | none => rfl
    | some o => have := of_hideAll _ q; rw [(NC p hp).2.2] at this; cases this
  · exact ⟨hk₁ _ _ (N p hp).1, Nat.ne_of_lt (Heap.lt_size (N p hp).1), hideAll_none _ (List.mem_map_of_mem hp)⟩
end

theorem ext_of {T : List Addr} {h g h' : Heap} {L : Addr} {m : Str → Option Value} (hX : Ext T h g) (F : Fr g L h' m) : Ext T h h' := fun b o e n => F.keep b o (hX b o e n)
theorem fresh_of {T : List Addr} {h g h' : Heap} {L l : Addr} {o : Obj} {news : List (Addr × Obj)} (hX : Ext T h g) (N : News g L h' news) (hm : (l, o) ∈ news) (hT : l ∉ T) : h.get? l = none := by
  cases e : h.get? l with
  | none => rfl
  | some o' => have := hX l o' e hT; rw [(N _ hm).2.2] at this; cases this
theorem listOf_is {h₀ h : Heap} {L l : Addr} {vs : Array Value} {n : Nat} {news : List (Addr × Obj)} (N : News h₀ L h news) (hm : (l, W.listOf vs n) ∈ news) : h.IsList l vs := ⟨_, (N _ hm).1, rfl, n, rfl⟩

theorem room0 {a d : Nat} (h : a + d < recursionLimit) : a < recursionLimit := Nat.lt_of_le_of_lt (Nat.le_add_right a d) h
theorem room2 {a b c d : Nat} (h : a + d < recursionLimit) (hb : b + c ≤ d) : a + b + c < recursionLimit := Nat.lt_of_le_of_lt (by rw [Nat.add_assoc]; exact Nat.add_le_add_left hb a) h
theorem units2 {a b c d : Nat} (h : a + d < cLine) (hb : b + c ≤ d) : a + b + c < cLine := Nat.lt_of_le_of_lt (by rw [Nat.add_assoc]; exact Nat.add_le_add_left hb a) h
end
section
/-- a contract of a def that hands back -/
def Ct (w : World) (f : Addr) (args : List Value) (dd uu : Nat) (touch : List Addr) (Pre : Heap → Prop) (Post : Heap → Value → Heap → Prop) : Prop :=
  ∀ (loose : List Str) (mean : ExcName → Option Value) (mg mb : Str → Option Value) (dp un : Nat) (gd : Option (List Code)) (cn : Str) (cs : Scope) (a : Addr) (ccd : Value) (cl : List (Str × Addr)) (outer : List Env) (A₀ : Around) (base h₀ : Heap) (L : Addr) (m : Str → Option Value) (s : Shared) (Q E : Value → Shared → Prop),
    Below A₀ base outer h₀ → Fr h₀ L s.heap m → (KK w).In h₀ → Top VW loose mean mg mb h₀ → cs.kind = .function → (∀ b ∈ touch, h₀.get? b = none ∧ b ≠ L) → Pre s.heap → dp + dd < recursionLimit → un + uu < cLine →
    (∀ v h' tk', Ext touch s.heap h' → Post s.heap v h' → Q v { s with heap := h', toks := tk' }) →
    wpAny (model Pr w) (ktrTop dp un gd cn cs L a ccd cl outer) (call (.ref f) args) Q E s
end
local macro_rules | `(tactic| walk_at "glyph halt") => `(tactic| ((fail_if_success (with_reducible show wpAny _ _ (eval (PySem.Expr.ListComp _ _ _ _) _) _ _ _)); (fail_if_success (with_reducible show wpAny _ _ (exec (PySem.Stmt.Assign _ (PySem.Expr.ListComp _ _ _ _) _) _) _ _ _)); (fail_if_success (with_reducible show wpAny _ _ (pyIter _) _ _ _)); (fail_if_success (with_reducible show wpAny _ _ (exec (PySem.Stmt.For _ _ _ _ _) _) _ _ _)); (fail_if_success (with_reducible show wpAny _ _ (call (PySem.Value.ref _) _ _) _ _ _))))
local macro_rules | `(tactic| walk_at "glyph walk") => `(tactic| repeat' (first | (k_unfold; (try dsimp only)) | (k_end; wrow_close) | (walk_at "glyph halt"; walk1) | (walk_at "glyph halt"; dsimp only; walk1) | fail "no step"))
local macro_rules | `(tactic| walk_at "glyph haltS") => `(tactic| ((fail_if_success (with_reducible show wpAny _ _ (subscriptTail _ _ (PySem.Value.ref _) (PySem.Value.int _ _)) _ _ _)); (fail_if_success (with_reducible show wpAny _ _ (getMethod _ _ _) _ _ _)); (fail_if_success (with_reducible show wpAny _ _ (binaryOp PySem.Operator.Add (PySem.Value.ref _) (PySem.Value.ref _)) _ _ _))))
local macro_rules | `(tactic| walk_at "glyph walkS") => `(tactic| repeat' (first | (k_unfold; (try dsimp only)) | (k_end; wrow_close) | (walk_at "glyph halt"; walk_at "glyph haltS"; walk1) | (walk_at "glyph halt"; dsimp only; walk_at "glyph haltS"; walk1) | fail "no step"))
section
theorem offRules : True := by w_top off; trivial
/-- what iterating v from s gives: n items, each as P says; src: what the walk reads beside its own iterator -/
def Iter (prog : Program) (w : World) (v : Value) (src : List Addr) (n : Nat) (P : Nat → Value → Prop) (s : Shared) : Prop :=
  ∀ (A : Around) (E : Value → Shared → Prop) (Q : Value → Shared → Prop), A.handled = none →
    (∀ (I : Addr) (fp : List Addr) (St : Nat → Heap → Prop) (h' : Heap) (tk : Nat), (∀ b o, s.heap.get? b = some o → h'.get? b = some o) → s.heap.objs.size ≤ h'.objs.size → s.heap.get? I = none → (∀ b ∈ fp, b = I ∨ b ∈ src) →
      Walks prog w A I fp [I] n P St → (∀ i h, St i h → ∀ b ∈ fp, ∃ o, h.get? b = some o) → St 0 h' → Q (.ref I) { s with heap := h', toks := tk }) →
    wpAny (model prog w) A (pyIter v) Q E s

section
variable {prog : Program} {w : World} {A : Around} {E : Value → Shared → Prop} {s : Shared} {h₀ : Heap} {env : Env}

theorem iter_list {l : Addr} {items : Array Value} (hl : s.heap.IsList l items) : Iter prog w (.ref l) [l] items.size (fun i v => items[i]? = some v) s := by
  intro A E Q hh h
  have hlt : l < s.heap.objs.size := by obtain ⟨o, ho, _⟩ := hl; exact Heap.lt_size ho
  refine wpAny_pyIter_list hl ?_
  refine h _ _ _ _ s.toks (fun b o e => Heap.get?_push_of_some _ e) (by rw [Heap.size_push]; exact Nat.le_succ _) (Heap.get?_none_of_le (Nat.le_refl _)) (fun b hb => ?_) (Walks.list hh _ l (Nat.ne_of_lt hlt) items) (fun i h' st b hb => ?_) ⟨⟨_, Heap.get?_push_size _ rfl, rfl, rfl⟩, hl.push _⟩
  · simpa using hb
  · obtain ⟨⟨o1, e1, _⟩, ⟨o2, e2, _⟩⟩ := st
    rcases List.mem_cons.mp hb with rfl | hb
    · exact ⟨_, e1⟩
    · rw [List.mem_singleton.mp hb]; exact ⟨_, e2⟩

theorem iter_tuple {l : Addr} {items : Array Value} (hl : s.heap.IsTuple l items) : Iter prog w (.ref l) [l] items.size (fun i v => items[i]? = some v) s := by
  intro A E Q hh h
  have hlt : l < s.heap.objs.size := by obtain ⟨o, ho, _⟩ := hl; exact Heap.lt_size ho
  refine wpAny_pyIter_tuple hl ?_
  refine h _ _ _ _ s.toks (fun b o e => Heap.get?_push_of_some _ e) (by rw [Heap.size_push]; exact Nat.le_succ _) (Heap.get?_none_of_le (Nat.le_refl _)) (fun b hb => ?_) (Walks.tuple hh _ l (Nat.ne_of_lt hlt) items) (fun i h' st b hb => ?_) ⟨⟨_, Heap.get?_push_size _ rfl, rfl, rfl⟩, hl.at fun o e => Heap.get?_push_of_some _ e⟩
  · simpa using hb
  · obtain ⟨⟨o1, e1, _⟩, ⟨o2, e2, _⟩⟩ := st
    rcases List.mem_cons.mp hb with rfl | hb
    · exact ⟨_, e1⟩
    · rw [List.mem_singleton.mp hb]; exact ⟨_, e2⟩

theorem iter_dict {K : Type} [DecidableEq K] {knd : KeyKind prog w K} {d : Addr} {kvs : List (K × Value)} (lo : (d == sysModules) = false) (hd : s.heap.DictOf knd d kvs) :
    Iter prog w (.ref d) [d] kvs.length (fun i v => ∃ k x, kvs[i]? = some (k, x) ∧ knd.is k v = true) s := by
  intro A E Q hh h
  obtain ⟨ep, hm⟩ := hd.dictAt
  refine wpAny_pyIter_dict lo hm ?_
  refine h _ _ _ _ s.toks (fun b o e => Heap.get?_push_of_some _ e) (by rw [Heap.size_push]; exact Nat.le_succ _) (Heap.get?_none_of_le (Nat.le_refl _)) (fun b hb => ?_) (Walks.dictKeys hh _ d (Nat.ne_of_lt hm.lt_size) kvs ep) (fun i h' st b hb => ?_) ⟨⟨_, Heap.get?_push_size _ rfl, rfl, rfl⟩, hm.push _⟩
  · simpa using hb
  · obtain ⟨⟨o1, e1, _⟩, ⟨o2, _, e2, _⟩⟩ := st
    rcases List.mem_cons.mp hb with rfl | hb
    · exact ⟨_, e1⟩
    · rw [List.mem_singleton.mp hb]; exact ⟨_, e2⟩

theorem iter_range {r : Addr} {a b c : Int} {t u v : Tok} (n : Nat) (hr : IsRange s.heap r a b c t u v) (hsmall : Builtin.Range.small a b c = true) (hn : Builtin.Range.rangeSize a b c = (n : Int)) :
    Iter prog w (.ref r) [] n (fun i v => ∃ t, v = .int (a + i * c) t) s := by
  intro A E Q hh h
  refine wpAny_pyIter_range hr hsmall ?_
  refine h _ _ _ _ s.toks (fun b o e => Heap.get?_push_of_some _ e) (by rw [Heap.size_push]; exact Nat.le_succ _) (Heap.get?_none_of_le (Nat.le_refl _)) (fun b hb => ?_) (Walks.range hh _ a c n) (fun i h' st b hb => ?_) ?_
  · exact .inl (by simpa using hb)
  · rw [List.mem_singleton.mp hb]; exact ⟨_, st⟩
  · show IsRangeIter _ _ _ _ _
    rw [hn]
    have e1 : a + ((0 : Nat) : Int) * c = a := by simp
    have e2 : (n : Int) - ((0 : Nat) : Int) = n := by simp
    rw [e1, e2]
    exact Heap.get?_push_size _ rfl

theorem Iter.bound {v : Value} {src : List Addr} {n : Nat} {P : Nat → Value → Prop} (x : Iter prog w v src n P s) : Iter prog w v src n (fun i y => i < n ∧ P i y) s :=
  fun A E Q hh h => x A E Q hh fun I fp St h' tk a b c f W d e => h I fp St h' tk a b c f W.bound d e

inductive TurnEnd (h₀ : Heap) (L : Addr) (Jn : (Str → Option Value) → List (Addr × Obj) → Prop) (own : List (Addr × Obj)) (s₁ s' : Shared) : Prop
  | mk : ∀ h' tk m' news' all, s' = { s₁ with heap := h', toks := tk } → Fr h₀ L h' m' → News h₀ L h' all → (∀ p ∈ news', p ∈ all) → (∀ p ∈ own, p ∈ all) → OwnOff own (news'.map (·.1)) → Jn m' news' → TurnEnd h₀ L Jn own s₁ s'

inductive ForAt (prog : Program) (w : World) (A : Around) (h₀ : Heap) (env : Env) (x : Str) (body : List Stmt) (Q : Flow → Shared → Prop) (v : Value) (s₁ : Shared) : Prop
  | mk : ∀ (src : List Addr) (n : Nat) (P : Nat → Value → Prop) (m : Str → Option Value) (news : List (Addr × Obj)) (J : Nat → (Str → Option Value) → List (Addr × Obj) → Prop), A.handled = none → Iter prog w v src n P s₁ → env.locals ∉ src → Fr h₀ env.locals s₁.heap m → News h₀ env.locals s₁.heap news → (∀ p ∈ news, p.1 ∉ src) → J 0 m news → (∀ i x' m₁ news₁ own h tk, i < n → P i x' → J i m₁ news₁ → OwnOff own (news₁.map (·.1)) → Fr h₀ env.locals h (fun y => if y = x then some x' else m₁ y) → News h₀ env.locals h (news₁ ++ own) → wpAny (model prog w) A (execs body env) (fun f s' => match f with | .ret v => Q (.ret v) s' | .brk => Q .next s' | _ => TurnEnd h₀ env.locals (J (i + 1)) own s₁ s') (fun _ _ => False) { s₁ with heap := h, toks := tk }) → (∀ m' news' h tk, J n m' news' → Fr h₀ env.locals h m' → News h₀ env.locals h news' → Q .next { s₁ with heap := h, toks := tk }) → ForAt prog w A h₀ env x body Q v s₁

theorem for_iter {x : Str} {px pos : Pos} {iter : Expr} {body : List Stmt} {Q : Flow → Shared → Prop} (h₀ : Heap) (hx : env.kindOf x = some .local)
    (hp : (env.scope.kind == .class || (env.scope.kind == .module && env.locals != env.globals)) = false)
    (h : wpAny (model prog w) A (eval iter env) (fun v s₁ => ForAt prog w A h₀ env x body Q v s₁) (fun _ _ => False) s)
    (hs : ∀ x, foldedSetIterable iter env x = pure x := by intro _; rfl) :
    wpAny (model prog w) A (exec (.For (.Name x px) iter body [] pos) env) Q E s := by
  refine wpAny_mono (For_invV (E := fun _ _ => False) h₀ hx hp (wpAny_mono h (fun v s₁ h₁ => ?_) fun _ _ e => e) hs PassesOwn.never) (fun _ _ q => q) fun _ _ e => e.elim
  obtain ⟨src, n, P, m, news, J, hh, it, hL, F, N, off, h0, step, fin⟩ := h₁
  refine it A _ _ hh fun I fp St h' tk keep hsz hI hfp W live st0 => ?_
  have hIL : I ≠ env.locals := fun e => by
    obtain ⟨o, _, _, ho, _⟩ := F.ns
    rw [e, ho] at hI; cases hI
  have hI₀ : h₀.get? I = none := by
    cases e : h₀.get? I with
    | none => rfl
    | some o => have := F.keep I o e; rw [hI] at this; cases this
  have hLf : env.locals ∉ fp := fun hm => by
    rcases hfp _ hm with e | e
    · exact hIL e.symm
    · exact hL e
  have offI : ∀ p ∈ news, p.1 ∉ fp := fun p hp hm => by
    rcases hfp _ hm with e | e
    · have := (N p hp).1; rw [e, hI] at this; cases this
    · exact off p hp e
  have hIf : I ∈ fp := W.sub I (List.mem_singleton.mpr rfl)
  refine ⟨I, fp, [I], n, P, St, m, news, fun i m' news' => J i m' news' ∧ ∀ p ∈ news', p.1 ∉ fp, rfl, W, hLf, fun b hb => by rw [List.mem_singleton.mp hb]; exact hI₀,
    fun p hp hm => offI p hp (by rw [List.mem_singleton.mp hm]; exact hIf), st0, F.keeps keep, fun p hp => ⟨keep _ _ (N p hp).1, (N p hp).2⟩, ⟨h0, offI⟩, ?_, ?_⟩
  · rintro i v' m₁ news₁ s₁' own ⟨hh', tk', rfl⟩ hin hP ⟨hJ, hoff⟩ _ hown hownG hownAll hst F₁ N₁
    have hsep : OwnOff own (news₁.map (·.1)) := by
      intro p hp b hb e
      obtain ⟨q, hq, rfl⟩ := List.mem_map.mp hb
      exact hoff q hq (e ▸ hown p hp)
    refine wpAny_mono (step i v' m₁ news₁ own hh' tk' hin hP hJ hsep F₁ fun p hp => N₁ p ((List.mem_append.mp hp).elim (fun h => List.mem_append.mpr (.inr h)) fun h => List.mem_append.mpr (.inl h))) (fun f s₂ q => ?_) fun _ _ e => e
    have fin : TurnEnd h₀ env.locals (J (i + 1)) own s₁ s₂ → LoopStepU h₀ env.locals [I] own (fun m' news' => J (i + 1) m' news' ∧ ∀ p ∈ news', p.1 ∉ fp) { s₁ with heap := hh', toks := tk' } .next s₂ := by
      rintro ⟨h'', tk'', m', news', all, rfl, F', N', hn, ho, ha, hj⟩
      have key : ∀ p ∈ news', p.1 ∉ fp := fun p hp hm => by
        have hp0 := (N' p (hn p hp)).2.2
        obtain ⟨o, e⟩ := live _ _ hst _ hm
        exact ha _ (hownAll p.1 hm hp0 o e) p.1 (List.mem_map_of_mem hp) rfl
      exact ⟨rfl, h'', tk'', m', news', rfl, F', fun p hp => N' p ((List.mem_append.mp hp).elim (ho p) (hn p)), fun p hp hm => key p hp (by rw [List.mem_singleton.mp hm]; exact hIf), hj, key⟩
    cases f with
    | ret v => exact .ret q
    | brk => exact .brk q
    | next => exact .next (fin q)
    | cont => exact .cont (fin q)
  · rintro h'' tk'' m' news' F' N' _ ⟨hJ, _⟩
    exact fin m' news' h'' tk'' hJ F' N'

/-- the source, the element and the end of a comprehension without tests; Mk: what the turn's end says of an element -/
inductive CompAt (prog : Program) (w : World) (A : Around) (h₀ : Heap) (L : Addr) (env : Env) (x : Str) (elt : Expr) (scope : Scope) (cl : List (Str × Addr)) (Mk : Value → Value → Heap → Heap → Prop) (Fin : Shared → (Str → Option Value) → List (Addr × Obj) → Nat → (Nat → Value → Prop) → Prop) (v : Value) (s₁ : Shared) : Prop
  | mk : ∀ (src : List Addr) (n : Nat) (P : Nat → Value → Prop) (m : Str → Option Value) (news : List (Addr × Obj)), A.handled = none → Iter prog w v src n P s₁ → L ∉ src → n ≤ sizeLine → Fr h₀ L s₁.heap m → News h₀ L s₁.heap news → (∀ b ∈ src, ∃ o, s₁.heap.get? b = some o) → (∀ C i x' s₃ m₃ E', s₁.heap.objs.size ≤ C → P i x' → s₃.heap.Ns C m₃ → m₃ x = some x' → (∀ b o, s₁.heap.get? b = some o → s₃.heap.get? b = some o) → wpAny (model prog w) A (eval elt (compEnvC scope cl C env)) (fun y s₄ => Mk x' y s₃.heap s₄.heap ∧ Keeps s₃ s₄) E' s₃) → Fin s₁ m news n P → CompAt prog w A h₀ L env x elt scope cl Mk Fin v s₁

def FinV (h₀ : Heap) (L : Addr) (G : Value → Value → Prop) (Q : Value → Shared → Prop) (s₁ : Shared) (m : Str → Option Value) (news : List (Addr × Obj)) (n : Nat) (P : Nat → Value → Prop) : Prop :=
  ∀ vs ys, Paired G vs ys → vs.length = n → (∀ j v, vs[j]? = some v → P j v) →
    ∀ D h' tk k, Fr h₀ L h' m → News h₀ L h' ((D, PySem.W.listOf ys.toArray k) :: news) → s₁.heap.get? D = none → Q (.ref D) { s₁ with heap := h', toks := tk }

theorem news_one {h h' : Heap} {L D : Addr} {m : Str → Option Value} {o : Obj} {news : List (Addr × Obj)} (F : Fr h₀ L h m) (N : News h₀ L h news) (k : ∀ b o, h.get? b = some o → h'.get? b = some o) (hD : h.get? D = none) (e : h'.get? D = some o) :
    Fr h₀ L h' m ∧ News h₀ L h' ((D, o) :: news) := by
  refine ⟨F.keeps k, fun p hp => ?_⟩
  rcases List.mem_cons.mp hp with rfl | hp
  · refine ⟨e, fun q => ?_, ?_⟩
    · obtain ⟨oL, _, _, ho, _⟩ := F.ns
      have q' : D = L := q
      rw [← q', hD] at ho; cases ho
    · cases z : h₀.get? D with
      | none => rfl
      | some o' => have := F.keep D o' z; rw [hD] at this; cases this
  · exact ⟨k _ _ (N p hp).1, (N p hp).2⟩

theorem comp_vals {x : Str} {px pos : Pos} {iter elt : Expr} {scope : Scope} {cl : List (Str × Addr)} {Q : Value → Shared → Prop} {L : Addr} (G : Value → Value → Prop)
    (hclos : closureFor scope env = pure cl) (hcell : ∀ y ∈ scope.names, y.2 ≠ .cell) (hkind : scope.kind = .function)
    (hnames : ∀ y ∈ scope.names, y.2 = .local → scope.names.lookup y.1 = some .local) (hx : scope.names.lookup x = some .local)
    (h : wpAny (model prog w) A (eval iter env) (CompAt prog w A h₀ L env x elt scope cl (fun v y _ _ => G v y) (FinV h₀ L G Q)) E s)
    (hs : ∀ x, foldedSetIterable iter env x = pure x := by intro _; rfl) :
    wpAny (model prog w) A (eval (.ListComp elt [⟨.Name x px, iter, [], 0⟩] scope pos) env) Q E s := by
  refine wpAny_ListComp_free (fun _ => true) G hclos hcell hkind hnames hx (wpAny_mono h (fun v s₁ h₁ => ?_) fun _ _ e => e) hs
  obtain ⟨src, n, P, m, news, hh, it, hL, hn, F, N, hsrc, helt, fin⟩ := h₁
  refine it A _ _ hh fun I fp St h' tk keep hsz hI hfp W live st0 => ?_
  have up : ∀ s₃ : Shared, (∀ b o, b ∉ [I] → h'.get? b = some o → s₃.heap.get? b = some o) → ∀ b o, s₁.heap.get? b = some o → s₃.heap.get? b = some o := fun s₃ hk b o e =>
    hk b o (fun hm => by rw [List.mem_singleton.mp hm, hI] at e; cases e) (keep b o e)
  refine ⟨I, fp, [I], n, P, St, rfl, W, hn, st0, fun b hb => by obtain ⟨o, e⟩ := live _ _ st0 b hb; exact Heap.lt_size e, ⟨fun C i v s₃ m₃ E' _ _ _ _ _ _ => ?_, fun C i v s₃ m₃ E' hC hP _ hn hm hk _ => ?_⟩, ?_⟩
  · exact wpAny_pure ⟨rfl, s₃.heap, s₃.toks, rfl, fun _ _ e => e⟩
  · refine helt C i v s₃ m₃ E' (Nat.le_trans ?_ hC) hP hn hm (up s₃ hk)
    exact hsz
  · intro D h'' tk' ys vs hD hl hpl hlen hP hF hk
    have hD1 : s₁.heap.get? D = none := by
      cases e : s₁.heap.get? D with
      | none => rfl
      | some o => have := keep D o e; have hD' : h'.get? D = none := hD; rw [hD'] at this; cases this
    obtain ⟨k, e⟩ := hpl
    obtain ⟨F', N'⟩ := news_one F N (fun b o e' => up { s₁ with heap := h'', toks := tk' } hk b o e') hD1 e
    have hF' : Paired G vs ys.toList := by rwa [List.filter_eq_self.mpr (fun _ _ => rfl)] at hF
    have e2 : ys = ys.toList.toArray := by simp
    refine fin vs ys.toList hF' hlen hP D h'' tk' k F' ?_ hD1
    rw [← e2]; exact N'

def FinVA (h₀ : Heap) (L : Addr) (y : Str) (G : Value → Value → Prop) (Q : Flow → Shared → Prop) (s₁ : Shared) (m : Str → Option Value) (news : List (Addr × Obj)) (n : Nat) (P : Nat → Value → Prop) : Prop :=
  ∀ vs ys, Paired G vs ys → vs.length = n → (∀ j v, vs[j]? = some v → P j v) →
    ∀ D h' tk k, Fr h₀ L h' (fun z => if z = y then some (.ref D) else m z) → News h₀ L h' ((D, PySem.W.listOf ys.toArray k) :: news) → s₁.heap.get? D = none → Q .next { s₁ with heap := h', toks := tk }

theorem comp_vals_assign {x y : Str} {px py pos spos : Pos} {iter elt : Expr} {scope : Scope} {cl : List (Str × Addr)} {Q : Flow → Shared → Prop} (G : Value → Value → Prop)
    (hsw : swapsWith (.ListComp elt [⟨.Name x px, iter, [], 0⟩] scope pos) (some (.Name y py)) spos.line env = pure true)
    (hclos : closureFor scope env = pure cl) (hcell : ∀ y ∈ scope.names, y.2 ≠ .cell) (hkind : scope.kind = .function)
    (hnames : ∀ y ∈ scope.names, y.2 = .local → scope.names.lookup y.1 = some .local) (hx : scope.names.lookup x = some .local)
    (hy : env.kindOf y = some .local) (hp : (env.scope.kind == .class || (env.scope.kind == .module && env.locals != env.globals)) = false)
    (h : wpAny (model prog w) A (eval iter env) (CompAt prog w A h₀ env.locals env x elt scope cl (fun v y _ _ => G v y) (FinVA h₀ env.locals y G Q)) E s)
    (hs : ∀ x, foldedSetIterable iter env x = pure x := by intro _; rfl) :
    wpAny (model prog w) A (exec (.Assign [.Name y py] (.ListComp elt [⟨.Name x px, iter, [], 0⟩] scope pos) spos) env) Q E s := by
  refine wpAny_Assign_ListComp_free (fun _ => true) G hsw hclos hcell hkind hnames hx hy hp (wpAny_mono h (fun v s₁ h₁ => ?_) fun _ _ e => e) hs
  obtain ⟨src, n, P, m, news, hh, it, hL, hn, F, N, hsrc, helt, fin⟩ := h₁
  refine it A _ _ hh fun I fp St h' tk keep hsz hI hfp W live st0 => ?_
  have hIL : I ≠ env.locals := fun e => by
    obtain ⟨o, _, _, ho, _⟩ := F.ns
    rw [e, ho] at hI; cases hI
  have up : ∀ s₃ : Shared, (∀ b o, b ∉ [I] → h'.get? b = some o → s₃.heap.get? b = some o) → ∀ b o, s₁.heap.get? b = some o → s₃.heap.get? b = some o := fun s₃ hk b o e =>
    hk b o (fun hm => by rw [List.mem_singleton.mp hm, hI] at e; cases e) (keep b o e)
  refine ⟨I, fp, [I], n, P, St, m, rfl, W, hn, st0, fun b hb => by obtain ⟨o, e⟩ := live _ _ st0 b hb; exact Heap.lt_size e, fun hm => hIL (List.mem_singleton.mp hm).symm, F.ns.at' fun o e => keep _ o e,
    ⟨fun C i v s₃ m₃ E' _ _ _ _ _ _ => ?_, fun C i v s₃ m₃ E' hC hP _ hn hm hk _ => ?_⟩, ?_⟩
  · exact wpAny_pure ⟨rfl, s₃.heap, s₃.toks, rfl, fun _ _ e => e⟩
  · exact helt C i v s₃ m₃ E' (Nat.le_trans hsz hC) hP hn hm (up s₃ hk)
  · intro D h'' tk' ys vs hD hl hpl hlen hP hF hns hk
    have hD1 : s₁.heap.get? D = none := by
      cases e : s₁.heap.get? D with
      | none => rfl
      | some o => have := keep D o e; have hD' : h'.get? D = none := hD; rw [hD'] at this; cases this
    obtain ⟨k, e⟩ := hpl
    have hDL : D ≠ env.locals := fun e => by
      obtain ⟨o, _, _, ho, _⟩ := F.ns
      rw [e, ho] at hD1; cases hD1
    have kp : ∀ b o, b ≠ env.locals → s₁.heap.get? b = some o → h''.get? b = some o := fun b o hb e' =>
      hk b o hb (fun hm => by rw [List.mem_singleton.mp hm, hI] at e'; cases e') (keep b o e')
    have F' : Fr h₀ env.locals h'' (fun z => if z = y then some (.ref D) else m z) := ⟨hns, fun b o e' => kp b o (fun q => by
      rw [q] at e'
      exact absurd (Nat.lt_of_lt_of_le (Heap.lt_size e') F.above) (Nat.lt_irrefl _)) (F.keep b o e'), F.above⟩
    have hF' : Paired G vs ys.toList := by rwa [List.filter_eq_self.mpr (fun _ _ => rfl)] at hF
    have e2 : ys = ys.toList.toArray := by simp
    refine fin vs ys.toList hF' hlen hP D h'' tk' k F' (fun p hp => ?_) hD1
    rcases List.mem_cons.mp hp with rfl | hp
    · refine ⟨by rw [← e2]; exact e, hDL, ?_⟩
      cases z : h₀.get? D with
      | none => rfl
      | some o' => have := F.keep D o' z; rw [hD1] at this; cases this
    · exact ⟨kp _ _ (N p hp).2.1 (N p hp).1, (N p hp).2⟩

theorem ldCellK {M : Model} {x : Str} {pos : Pos} {c C : Addr} {v : Value} {scope : Scope} {cl : List (Str × Addr)} {Q : Value → Shared → Prop} (hc : cl.lookup x = some c) (hv : s.heap.IsCell c (some v)) (h : Q v s)
    (hk : (compEnvC scope cl C env).scope.kind = .function := by rfl) (hl : (compEnvC scope cl C env).kindOf x = some .cell := by rfl) (hd : (x == ("__debug__" : Str)) = false := by decide) :
    wpAny M A (eval (.Name x pos) (compEnvC scope cl C env)) Q E s := wpAny_Name (wpAny_loadName_cell hk hl hc hv h) hd
theorem isCell_at {h h' : Heap} {c : Addr} {v : Option Value} (x : h.IsCell c v) (k : ∀ b o, h.get? b = some o → h'.get? b = some o) : h'.IsCell c v := let ⟨o, e, d⟩ := x; ⟨o, k _ _ e, d⟩
end
end
section
theorem offRulesO : True := by w_top off; trivial
abbrev refs (tl : List (Addr × Obj)) : List Value := tl.map fun p => Value.ref p.1

section
variable {prog : Program} {w : World} {A : Around} {E : Value → Shared → Prop} {s : Shared} {h₀ : Heap} {env : Env}

/-- an element that is a new object -/
inductive NewObj (G : Value → Obj → Prop) (v y : Value) (h h' : Heap) : Prop
  | mk : ∀ T o, y = .ref T → h.get? T = none → h'.get? T = some o → G v o → NewObj G v y h h'

inductive LoopO (s : Shared) (C I D : Addr) (St : Nat → Heap → Prop) (P : Nat → Value → Prop) (G : Value → Obj → Prop) (n k : Nat) (s' : Shared) : Prop
  | mk : ∀ h' tk m' tl (vs : List Value), s' = { s with heap := h', toks := tk } → St vs.length h' → h'.PlainList D (refs tl).toArray → h'.Ns C m' → (∀ j v, vs[j]? = some v → P j v) → Paired (fun v p => G v p.2) vs tl → (∀ p ∈ tl, h'.get? p.1 = some p.2 ∧ s.heap.get? p.1 = none ∧ p.1 ≠ C ∧ p.1 ≠ I ∧ p.1 ≠ D) → vs.length ≤ n → k = n + 1 - vs.length → (∀ b o, b ≠ C → b ≠ I → b ≠ D → s.heap.get? b = some o → h'.get? b = some o) → LoopO s C I D St P G n k s'
/-- the turns of a comprehension whose elements are new objects -/
theorem loop_objs {elt iter : Expr} {x : Str} {px : Pos} {scope : Scope} {pos : Pos} {I D : Addr} {fp : List Addr} {n : Nat} {P : Nat → Value → Prop} {St : Nat → Heap → Prop} {cenv : Env} {m : Str → Option Value} {R : Result → Shared → Prop}
    (W : Walks prog w A I fp [I] n P St) (G : Value → Obj → Prop) (live : ∀ i h, St i h → ∃ o, h.get? I = some o) (hn : n ≤ sizeLine)
    (hx : cenv.kindOf x = some .local) (hp : (cenv.scope.kind == .class || (cenv.scope.kind == .module && cenv.locals != cenv.globals)) = false)
    (hDC : D ≠ cenv.locals) (hDf : D ∉ fp) (hCf : cenv.locals ∉ fp)
    (hst : St 0 s.heap) (hacc : s.heap.PlainList D #[]) (hns : s.heap.Ns cenv.locals m)
    (helt : ∀ i v s₂ m₂, P i v → s₂.heap.Ns cenv.locals m₂ → m₂ x = some v → (∀ b o, b ≠ cenv.locals → b ≠ I → b ≠ D → s.heap.get? b = some o → s₂.heap.get? b = some o) →
      wpAny (model prog w) A (eval elt cenv) (fun y s₃ => NewObj G v y s₂.heap s₃.heap ∧ Keeps s₂ s₃) (notedBy (model prog w) A cenv fun e s' => R (.error e) s') s₂)
    (hR : ∀ h' tk m' tl vs, h'.Ns cenv.locals m' → h'.PlainList D (refs tl).toArray → vs.length = n → (∀ j v, vs[j]? = some v → P j v) → Paired (fun v p => G v p.2) vs tl →
      (∀ p ∈ tl, h'.get? p.1 = some p.2 ∧ s.heap.get? p.1 = none ∧ p.1 ≠ cenv.locals ∧ p.1 ≠ I ∧ p.1 ≠ D) → (∀ b o, b ≠ cenv.locals → b ≠ I → b ≠ D → s.heap.get? b = some o → h'.get? b = some o) →
      R (.ok .next) { s with heap := h', toks := tk }) :
    codeAny (model prog w) A (.compLoop (.ListComp elt [⟨.Name x px, iter, [], 0⟩] scope pos) 0 (.ref I) (.ref D) cenv) R s := by
  have hIf : I ∈ fp := W.sub I (List.mem_singleton.mpr rfl)
  have hCI : cenv.locals ≠ I := fun e => hCf (e ▸ hIf)
  have hDI : D ≠ I := fun e => hDf (e ▸ hIf)
  refine codeAny_compLoop_tests
    (LoopO s cenv.locals I D St P G n) ?_ (n + 1)
    ⟨s.heap, s.toks, m, [], [], rfl, hst, hacc, hns, by simp, Paired.nil, by simp, Nat.zero_le _, rfl, fun _ _ _ _ _ e => e⟩
  rintro k s' ⟨H, tk, m', tl, vs, rfl, hst', hacc', hn', hP, hG, htl, hi, rfl, hk⟩
  by_cases hlt : vs.length < n
  · refine W.item vs.length _ _ _ hlt hst' fun v h₁ tk₁ hPv hst₁ hk₁ => ?_
    refine wpAny_assign_Name (wpAny_storeName_local hx (hn'.at' fun o e => hk₁ _ o (by simpa using hCI) e) (fun h₂ hn₂ hs₂ => ?_) hp)
    have up₂ : ∀ b o, b ≠ cenv.locals → b ≠ I → H.get? b = some o → h₂.get? b = some o := fun b o hbC hbI e => hs₂.extBut b o hbC (hk₁ b o (by simpa using hbI) e)
    have hst₂ : St (vs.length + 1) h₂ := W.frame _ _ _ hst₁ fun b hb o e => hs₂.extBut b o (fun h => hCf (h ▸ hb)) e
    refine wpAny_tests_nil ?_
    simp only [if_true]
    refine wpAny_mono (helt vs.length v _ _ hPv hn₂ (by simp) fun b o hbC hbI hbD e => up₂ b o hbC hbI (hk b o hbC hbI hbD e)) (fun y s₄ h₄ => ?_) fun _ _ e => e
    obtain ⟨⟨T, o, rfl, hTnew, hT, hGo⟩, h₄, tk₄, rfl, hk₄⟩ := h₄
    have hTnew : h₂.get? T = none := hTnew
    have hT : h₄.get? T = some o := hT
    have hk₄ : ∀ b o, h₂.get? b = some o → h₄.get? b = some o := hk₄
    have hTC : T ≠ cenv.locals := by obtain ⟨_, _, _, ho, _⟩ := hn₂; exact ne_of_none_some hTnew ho
    have hTI : T ≠ I := by obtain ⟨_, ho⟩ := live _ _ hst₂; exact ne_of_none_some hTnew ho
    have hTD : T ≠ D := by obtain ⟨_, ho⟩ := hacc'; exact ne_of_none_some hTnew (up₂ D _ hDC hDI ho)
    have hTs : s.heap.get? T = none := by
      cases e : s.heap.get? T with
      | none => rfl
      | some o' => exact absurd rfl (ne_of_none_some hTnew (up₂ T o' hTC hTI (hk T o' hTC hTI hTD e)))
    have hlen : tl.length = vs.length := hG.length.symm
    refine wpAny_list_append_plain (hsz := by simp only [List.size_toArray, List.length_map]; omega) (hacc'.at fun o e => hk₄ _ o (up₂ D o hDC hDI e)) fun h₅ hl₅ hs₅ => ?_
    have up₅ : ∀ b o, b ≠ cenv.locals → b ≠ I → b ≠ D → H.get? b = some o → h₅.get? b = some o := fun b o hbC hbI hbD e => hs₅.extBut b o hbD (hk₄ b o (up₂ b o hbC hbI e))
    refine ⟨n + 1 - (vs.length + 1), by omega, h₅, tk₄, _, tl ++ [(T, o)], vs ++ [v], rfl, ?_, ?_, (hn₂.keeps hk₄).sameBut hs₅ (Ne.symm hDC), fun j u hj => ?_, Paired.snoc hG hGo, fun p hp => ?_, (by rw [List.length_append, List.length_singleton]; exact hlt), (by rw [List.length_append, List.length_singleton]),
      fun b o hbC hbI hbD e => up₅ b o hbC hbI hbD (hk b o hbC hbI hbD e)⟩
    · have := W.frame _ _ h₅ hst₂ fun b hb o e => hs₅.extBut b o (fun h => hDf (h ▸ hb)) (hk₄ b o e)
      simpa using this
    · have : (refs (tl ++ [(T, o)])).toArray = ((refs tl).toArray).push (.ref T) := by simp [refs]
      rw [this]; exact hl₅
    · rcases Nat.lt_trichotomy j vs.length with h | h | h
      · exact hP j u (by rwa [List.getElem?_append_left h] at hj)
      · subst h; simp at hj; subst hj; exact hPv
      · have hnone : (vs ++ [v])[j]? = none := List.getElem?_eq_none (by rw [List.length_append, List.length_singleton]; omega)
        rw [hnone] at hj; cases hj
    · rcases List.mem_append.mp hp with hp | hp
      · obtain ⟨a, b, c, d, e⟩ := htl p hp
        exact ⟨up₅ _ _ c d e a, b, c, d, e⟩
      · rw [List.mem_singleton.mp hp]
        exact ⟨hs₅.extBut T o hTD hT, hTs, hTC, hTI, hTD⟩
  · have hin : vs.length = n := by omega
    refine W.done _ _ _ (hin ▸ hst') fun h₁ tk₁ hk₁ => ?_
    exact hR h₁ tk₁ m' tl vs (hn'.at' fun o e => hk₁ _ o (by simpa using hCI) e) (hacc'.at fun o e => hk₁ _ o (by simpa using hDI) e) hin hP hG
      (fun p hp => by obtain ⟨a, b, c, d, e⟩ := htl p hp; exact ⟨hk₁ _ _ (by simpa using d) a, b, c, d, e⟩) fun b o hbC hbI hbD e => hk₁ b o (by simpa using hbI) (hk b o hbC hbI hbD e)

theorem block_objs {elt iter : Expr} {x : Str} {px : Pos} {scope : Scope} {cl : List (Str × Addr)} {pos : Pos} {s₂ : Shared} {I : Addr} {fp : List Addr} {n : Nat} {P : Nat → Value → Prop}
    {St : Nat → Heap → Prop} (W : Walks prog w A I fp [I] n P St) (hn : n ≤ sizeLine) (G : Value → Obj → Prop) {RR : Value → Addr → Result → Shared → Prop}
    (live : ∀ i h, St i h → ∃ o, h.get? I = some o)
    (hcell : ∀ y ∈ scope.names, y.2 ≠ .cell) (hkind : scope.kind = .function) (hx : scope.names.lookup x = some .local) (hst : St 0 s₂.heap) (hfp : ∀ b ∈ fp, b < s₂.heap.objs.size)
    (helt : ∀ C i v s₃ m₃ E', s₂.heap.objs.size ≤ C → P i v → s₃.heap.Ns C m₃ → m₃ x = some v → (∀ b o, b ≠ I → s₂.heap.get? b = some o → s₃.heap.get? b = some o) →
      wpAny (model prog w) A (eval elt (compEnvC scope cl C env)) (fun y s₄ => NewObj G v y s₃.heap s₄.heap ∧ Keeps s₃ s₄) E' s₃)
    (hRR : ∀ D C h' tk m' tl vs, s₂.heap.get? D = none → s₂.heap.get? C = none → D ≠ C → h'.Ns C m' → h'.PlainList D (refs tl).toArray → vs.length = n → (∀ j v, vs[j]? = some v → P j v) → Paired (fun v p => G v p.2) vs tl →
      (∀ p ∈ tl, h'.get? p.1 = some p.2 ∧ s₂.heap.get? p.1 = none ∧ p.1 ≠ C ∧ p.1 ≠ I ∧ p.1 ≠ D) → (∀ b o, b ≠ I → s₂.heap.get? b = some o → h'.get? b = some o) → RR (.ref D) C (.ok .next) { s₂ with heap := h', toks := tk }) :
    wpAny (model prog w) A (newList []) (fun acc s₃ => wpAny (model prog w) A (newFunctionEnv scope env.globals cl [] env.qual none .none (some env)) (fun cenv s₄ =>
      codeAny (model prog w) A (.compStart (.ListComp elt [⟨.Name x px, iter, [], 0⟩] scope pos) 0 (.ref I) acc { cenv with scope := relabel scope env }) (RR acc cenv.locals) s₄) E s₃) E s₂ := by
  refine wpAny_newObj_type (wpAny_newFunctionEnv hcell (by intro y hy; simp at hy) (fun h₁ hns₁ hsb₁ => ?_) hkind)
  dsimp only at hns₁ hsb₁ ⊢
  generalize hH2 : s₂.heap.push { cls := .type "list", dict := none, data := .seq ([] : List Value).toArray } = H2 at hns₁ hsb₁ ⊢
  have hC : H2.objs.size = s₂.heap.objs.size + 1 := by rw [← hH2, Heap.size_push]
  have hDC : s₂.heap.objs.size ≠ H2.objs.size := by rw [hC]; exact Nat.ne_of_lt (Nat.lt_succ_self _)
  have hCle : s₂.heap.objs.size ≤ H2.objs.size := by rw [hC]; exact Nat.le_succ _
  have below : ∀ b, b < s₂.heap.objs.size → b ≠ H2.objs.size ∧ b ≠ s₂.heap.objs.size := fun b hb => ⟨by rw [hC]; exact Nat.ne_of_lt (Nat.lt_succ_of_lt hb), Nat.ne_of_lt hb⟩
  have hDf : s₂.heap.objs.size ∉ fp := fun hm => Nat.lt_irrefl _ (hfp _ hm)
  have hCf : H2.objs.size ∉ fp := fun hm => by have := hfp _ hm; rw [hC] at this; exact Nat.lt_irrefl _ (Nat.lt_of_succ_lt this)
  have old : ∀ b o, s₂.heap.get? b = some o → h₁.get? b = some o := fun b o e => hsb₁.extBut b o (below b (Heap.lt_size e)).1 (Heap.get?_push_of_some _ (hH2 ▸ Heap.get?_push_of_some _ e))
  have hacc : h₁.PlainList s₂.heap.objs.size #[] := ⟨_, hsb₁.extBut _ _ hDC (Heap.get?_push_of_some _ (hH2 ▸ Heap.get?_push_size _ rfl))⟩
  have hst₁ : St 0 h₁ := W.frame _ _ _ hst fun b _ o e => old b o e
  have older : ∀ T, h₁.get? T = none → s₂.heap.get? T = none := fun T hT => by
    cases e : s₂.heap.get? T with
    | none => rfl
    | some o' => rw [old T o' e] at hT; cases hT
  have loop : ∀ s₃ : Shared, s₃ = { s₂ with heap := h₁, toks := s₂.toks + ([] : List (Str × Value)).length } →
      codeAny (model prog w) A (.compLoop (.ListComp elt [⟨.Name x px, iter, [], 0⟩] scope pos) 0 (.ref I) (.ref s₂.heap.objs.size) (compEnvC scope cl H2.objs.size env)) (RR (.ref s₂.heap.objs.size) H2.objs.size) s₃ := by
    rintro s₃ rfl
    refine loop_objs (cenv := compEnvC scope cl H2.objs.size env) W G live hn (lookup_relabel_local hx) (by simp [compEnvC, relabel, hkind]) hDC hDf hCf hst₁ hacc hns₁
      (fun i v s₃ m₃ hv hn hm hk => helt _ i v s₃ m₃ _ hCle hv hn hm fun b o hbI e => hk b o (below b (Heap.lt_size e)).1 hbI (below b (Heap.lt_size e)).2 (old b o e)) fun h' tk m' tl vs hn hpl hlen hP hF htl hk => ?_
    exact hRR _ _ h' tk m' tl vs (Heap.get?_none_of_le (Nat.le_refl _)) (Heap.get?_none_of_le hCle) hDC hn hpl hlen hP hF (fun p hp => by obtain ⟨a, b, c⟩ := htl p hp; exact ⟨a, older _ b, c⟩)
      fun b o hbI e => hk b o (below b (Heap.lt_size e)).1 hbI (below b (Heap.lt_size e)).2 (old b o e)
  exact codeAny_compStart_list (loop _ rfl) (W.self 0 _ _ _ hst₁ (loop _ rfl))

def FinO (h₀ : Heap) (L : Addr) (G : Value → Obj → Prop) (Q : Value → Shared → Prop) (s₁ : Shared) (m : Str → Option Value) (news : List (Addr × Obj)) (n : Nat) (P : Nat → Value → Prop) : Prop :=
  ∀ vs tl, Paired (fun v (p : Addr × Obj) => G v p.2) vs tl → vs.length = n → (∀ j v, vs[j]? = some v → P j v) →
    ∀ D h' tk k, Fr h₀ L h' m → News h₀ L h' ((D, PySem.W.listOf (refs tl).toArray k) :: (tl ++ news)) → s₁.heap.get? D = none → (∀ p ∈ tl, s₁.heap.get? p.1 = none ∧ p.1 ≠ D) → Q (.ref D) { s₁ with heap := h', toks := tk }

theorem comp_objs {x : Str} {px pos : Pos} {iter elt : Expr} {scope : Scope} {cl : List (Str × Addr)} {Q : Value → Shared → Prop} {L : Addr} (G : Value → Obj → Prop)
    (hclos : closureFor scope env = pure cl) (hcell : ∀ y ∈ scope.names, y.2 ≠ .cell) (hkind : scope.kind = .function)
    (hnames : ∀ y ∈ scope.names, y.2 = .local → scope.names.lookup y.1 = some .local) (hx : scope.names.lookup x = some .local)
    (h : wpAny (model prog w) A (eval iter env) (CompAt prog w A h₀ L env x elt scope cl (NewObj G) (FinO h₀ L G Q)) E s)
    (hs : ∀ x, foldedSetIterable iter env x = pure x := by intro _; rfl) :
    wpAny (model prog w) A (eval (.ListComp elt [⟨.Name x px, iter, [], 0⟩] scope pos) env) Q E s := by
  rw [eval_ListComp]
  refine wpAny_comprehension_free (use := none) rfl hs hclos hkind hnames (wpAny_mono h (fun v s₁ h₁ => ?_) fun _ _ e => e)
  obtain ⟨src, n, P, m, news, hh, it, hL, hn, F, N, hsrc, helt, fin⟩ := h₁
  refine it A _ _ hh fun I fp St h' tk keep hsz hI hfp W live st0 => ?_
  have hIf : I ∈ fp := W.sub I (List.mem_singleton.mpr rfl)
  refine block_objs (RR := fun acc C => compPost (model prog w) A E none Q acc C) W hn G (fun i h st => live i h st I hIf) hcell hkind hx st0 (fun b hb => by obtain ⟨o, e⟩ := live _ _ st0 b hb; exact Heap.lt_size e)
    (fun C i v s₃ m₃ E' hC hP hn hm hk => helt C i v s₃ m₃ E' (Nat.le_trans hsz hC) hP hn hm fun b o e => hk b o (fun q => by rw [q, hI] at e; cases e) (keep b o e)) ?_
  intro D C h'' tk' m' tl vs hD hC hDC hnC hpl hlen hP hG htl hk
  refine ⟨m', hnC, fun h₃ hs₃ => ?_⟩
  have none1 : ∀ T, h'.get? T = none → s₁.heap.get? T = none := fun T hT => by
    cases e : s₁.heap.get? T with
    | none => rfl
    | some o => rw [keep T o e] at hT; cases hT
  have kp : ∀ b o, s₁.heap.get? b = some o → h₃.get? b = some o := fun b o e => hs₃.extBut b o (fun q => by rw [q] at e; have := keep _ _ e; have hC' : h'.get? C = none := hC; rw [hC'] at this; cases this)
    (hk b o (fun q => by rw [q, hI] at e; cases e) (keep b o e))
  obtain ⟨k, eD⟩ := hpl
  obtain ⟨F', N'⟩ := news_one F N kp (none1 D hD) (hs₃.extBut D _ hDC eD)
  refine fin vs tl hG hlen hP D h₃ tk' k F' (fun p hp => ?_) (none1 D hD) fun p hp => ⟨none1 _ (htl p hp).2.1, (htl p hp).2.2.2.2⟩
  rcases List.mem_cons.mp hp with rfl | hp
  · exact N' _ (.head _)
  · rcases List.mem_append.mp hp with hp | hp
    · obtain ⟨a, b, c, d, e⟩ := htl p hp
      exact (news_one F N kp (none1 _ b) (hs₃.extBut _ _ c a)).2 _ (.head _)
    · exact N' _ (.tail _ hp)

def FinOA (h₀ : Heap) (L : Addr) (y : Str) (G : Value → Obj → Prop) (Q : Flow → Shared → Prop) (s₁ : Shared) (m : Str → Option Value) (news : List (Addr × Obj)) (n : Nat) (P : Nat → Value → Prop) : Prop :=
  ∀ vs tl, Paired (fun v (p : Addr × Obj) => G v p.2) vs tl → vs.length = n → (∀ j v, vs[j]? = some v → P j v) →
    ∀ D h' tk k, Fr h₀ L h' (fun z => if z = y then some (.ref D) else m z) → News h₀ L h' ((D, PySem.W.listOf (refs tl).toArray k) :: (tl ++ news)) → s₁.heap.get? D = none → (∀ p ∈ tl, s₁.heap.get? p.1 = none ∧ p.1 ≠ D) → Q .next { s₁ with heap := h', toks := tk }

theorem comp_objs_assign {x y : Str} {px py pos spos : Pos} {iter elt : Expr} {scope : Scope} {cl : List (Str × Addr)} {Q : Flow → Shared → Prop} (G : Value → Obj → Prop)
    (hsw : swapsWith (.ListComp elt [⟨.Name x px, iter, [], 0⟩] scope pos) (some (.Name y py)) spos.line env = pure true)
    (hclos : closureFor scope env = pure cl) (hcell : ∀ y ∈ scope.names, y.2 ≠ .cell) (hkind : scope.kind = .function)
    (hnames : ∀ y ∈ scope.names, y.2 = .local → scope.names.lookup y.1 = some .local) (hx : scope.names.lookup x = some .local)
    (hy : env.kindOf y = some .local) (hp : (env.scope.kind == .class || (env.scope.kind == .module && env.locals != env.globals)) = false)
    (h : wpAny (model prog w) A (eval iter env) (CompAt prog w A h₀ env.locals env x elt scope cl (NewObj G) (FinOA h₀ env.locals y G Q)) E s)
    (hs : ∀ x, foldedSetIterable iter env x = pure x := by intro _; rfl) :
    wpAny (model prog w) A (exec (.Assign [.Name y py] (.ListComp elt [⟨.Name x px, iter, [], 0⟩] scope pos) spos) env) Q E s := by
  rw [exec_Assign_Name_used _ _ _ _ hsw]
  refine wpAny_bind (wpAny_standAt (wpAny_bind ?_))
  show wpAny _ A (do let _ ← comprehension (.ListComp elt [⟨.Name x px, iter, [], 0⟩] scope pos) scope env _ (newList []) false (eval iter env) (some (assign (.Name y py) env))) _ _ s
  refine wpAny_bind (wpAny_mono (wpAny_comprehension_free (use := some (assign (.Name y py) env)) (Q := fun _ s' => Q .next s') rfl hs hclos hkind hnames
    (wpAny_mono h (fun v s₁ h₁ => ?_) fun _ _ e => e)) (fun _ s' hq => wpAny_pure (wpAny_pure hq)) fun _ _ e => e)
  obtain ⟨src, n, P, m, news, hh, it, hL, hn, F, N, hsrc, helt, fin⟩ := h₁
  refine it A _ _ hh fun I fp St h' tk keep hsz hI hfp W live st0 => ?_
  have hIf : I ∈ fp := W.sub I (List.mem_singleton.mpr rfl)
  refine block_objs (RR := fun acc C => compPost (model prog w) A E (some (assign (.Name y py) env)) (fun _ s' => Q .next s') acc C) W hn G (fun i h st => live i h st I hIf) hcell hkind hx st0 (fun b hb => by obtain ⟨o, e⟩ := live _ _ st0 b hb; exact Heap.lt_size e)
    (fun C i v s₃ m₃ E' hC hP hn hm hk => helt C i v s₃ m₃ E' (Nat.le_trans hsz hC) hP hn hm fun b o e => hk b o (fun q => by rw [q, hI] at e; cases e) (keep b o e)) ?_
  intro D C h'' tk' m' tl vs hD hC hDC hnC hpl hlen hP hG htl hk
  have none1 : ∀ T, h'.get? T = none → s₁.heap.get? T = none := fun T hT => by
    cases e : s₁.heap.get? T with
    | none => rfl
    | some o => rw [keep T o e] at hT; cases hT
  have notL : ∀ T, s₁.heap.get? T = none → T ≠ env.locals := fun T hT q => by
    obtain ⟨o, _, _, ho, _⟩ := F.ns
    rw [q, ho] at hT; cases hT
  have hLI : env.locals ≠ I := fun q => notL I hI q.symm
  show wpAny _ A (assign (.Name y py) env (.ref D)) _ _ _
  refine wpAny_assign_Name (wpAny_storeName_local hy (F.ns.at' fun o e => hk _ o hLI (keep _ o e)) (fun h₂ hn₂ hs₂ => ?_) hp)
  have hLC : env.locals ≠ C := fun q => notL C (none1 C hC) q.symm
  refine ⟨m', hnC.sameBut hs₂ (Ne.symm hLC), fun h₃ hs₃ => ?_⟩
  have kp : ∀ b o, b ≠ env.locals → s₁.heap.get? b = some o → h₃.get? b = some o := fun b o hbL e => hs₃.extBut b o (fun q => by rw [q] at e; have := keep _ _ e; have hC' : h'.get? C = none := hC; rw [hC'] at this; cases this)
    (hs₂.extBut b o hbL (hk b o (fun q => by rw [q, hI] at e; cases e) (keep b o e)))
  obtain ⟨k, eD⟩ := hpl
  have hDL := notL D (none1 D hD)
  have F' : Fr h₀ env.locals h₃ (fun z => if z = y then some (.ref D) else m z) := ⟨hn₂.sameBut hs₃ hLC, fun b o e' => kp b o (fun q => by
      rw [q] at e'
      exact absurd (Nat.lt_of_lt_of_le (Heap.lt_size e') F.above) (Nat.lt_irrefl _)) (F.keep b o e'), F.above⟩
  have none0 : ∀ T, s₁.heap.get? T = none → h₀.get? T = none := fun T hT => by
    cases z : h₀.get? T with
    | none => rfl
    | some o' => have := F.keep T o' z; rw [hT] at this; cases this
  refine fin vs tl hG hlen hP D h₃ _ k F' (fun p hp => ?_) (none1 D hD) fun p hp => ⟨none1 _ (htl p hp).2.1, (htl p hp).2.2.2.2⟩
  rcases List.mem_cons.mp hp with rfl | hp
  · exact ⟨hs₃.extBut D _ hDC (hs₂.extBut D _ hDL eD), hDL, none0 _ (none1 D hD)⟩
  · rcases List.mem_append.mp hp with hp | hp
    · obtain ⟨a, b, c, d, e⟩ := htl p hp
      have hpL := notL _ (none1 _ b)
      exact ⟨hs₃.extBut _ _ c (hs₂.extBut _ _ hpL a), hpL, none0 _ (none1 _ b)⟩
    · exact ⟨kp _ _ (N p hp).2.1 (N p hp).1, (N p hp).2⟩
end
end
section
theorem offSpec : True := by w_top off; trivial
/-- the octets of a list of ints -/
def toB (ns : List Int) : Array UInt8 := (ns.map fun n => n.toNat.toUInt8).toArray
/-- a number of two octets -/
def oct2 (n : Int) : List Int := [n / 256, n % 256]
theorem toB_append (a b : List Int) : toB a ++ toB b = toB (a ++ b) := by simp [toB]
theorem toB_size (a : List Int) : (toB a).size = a.length := by simp [toB]

theorem bitAnd_255 {x : Int} (h : 0 ≤ x) : Builtin.bitAnd x 255 = x % 256 := by
  unfold Builtin.bitAnd
  rw [decide_eq_true h, decide_eq_true (by decide : (0 : Int) ≤ 255)]
  show ((x.toNat &&& (2 ^ 8 - 1) : Nat) : Int) = x % 256
  rw [Nat.and_two_pow_sub_one_eq_mod]
  omega
theorem oct_hi {n : Int} (h : 0 ≤ n ∧ n < 65536) : Builtin.bitAnd (n.fdiv (2 ^ ((8 : Int) * (2 - 1 + ((0 : Nat) : Int) * -1)).toNat)) 255 = n / 256 := by
  have e : (2 : Int) ^ ((8 : Int) * (2 - 1 + ((0 : Nat) : Int) * -1)).toNat = 256 := by decide
  rw [e, Int.fdiv_eq_ediv_of_nonneg _ (by decide), bitAnd_255 (by omega)]
  omega
theorem oct_lo {n : Int} (h : 0 ≤ n ∧ n < 65536) : Builtin.bitAnd (n.fdiv (2 ^ ((8 : Int) * (2 - 1 + ((1 : Nat) : Int) * -1)).toNat)) 255 = n % 256 := by
  have e : (2 : Int) ^ ((8 : Int) * (2 - 1 + ((1 : Nat) : Int) * -1)).toNat = 1 := by decide
  rw [e, Int.fdiv_eq_ediv_of_nonneg _ (by decide), bitAnd_255 (by omega)]
  omega
theorem oct2_byte {n : Int} (h : 0 ≤ n ∧ n < 65536) : ∀ x ∈ oct2 n, 0 ≤ x ∧ x < 256 := by
  intro x hx
  simp only [oct2, List.mem_cons, List.not_mem_nil, or_false] at hx
  omega
/-- one glyph more in the spans -/
def spanStep (acc : List (Int × Int)) (g : Int) : List (Int × Int) := match acc.getLast? with
  | some p => if p.2 + 1 = g then acc.dropLast ++ [(p.1, g)] else acc ++ [(g, g)]
  | none => [(g, g)]
def spansOf (gs : List Int) : List (Int × Int) := gs.foldl spanStep []
theorem spanStep_nil (g : Int) : spanStep [] g = [(g, g)] := rfl
theorem spanStep_snoc (acc : List (Int × Int)) (p : Int × Int) (g : Int) : spanStep (acc ++ [p]) g = if p.2 + 1 = g then acc ++ [(p.1, g)] else acc ++ [p] ++ [(g, g)] := by
  unfold spanStep
  rw [List.getLast?_concat]
  simp only [List.dropLast_concat]
theorem spansOf_succ {gs : List Int} {i : Nat} {g : Int} (h : gs[i]? = some g) : spansOf (gs.take (i + 1)) = spanStep (spansOf (gs.take i)) g := by
  unfold spansOf
  rw [List.take_add_one, h]
  simp [List.foldl_append]
theorem spanStep_len (acc : List (Int × Int)) (g : Int) : (spanStep acc g).length ≤ acc.length + 1 := by
  rcases List.eq_nil_or_concat acc with rfl | ⟨a, p, rfl⟩
  · simp [spanStep_nil]
  · rw [List.concat_eq_append, spanStep_snoc]
    split <;> simp
theorem spansOf_len (gs : List Int) : (spansOf gs).length ≤ gs.length := by
  have key : ∀ (l : List Int) (acc : List (Int × Int)), (l.foldl spanStep acc).length ≤ acc.length + l.length := by
    intro l
    induction l with
    | nil => intro acc; simp
    | cons g r ih =>
      intro acc
      have h1 := ih (spanStep acc g)
      have h2 := spanStep_len acc g
      simp only [List.foldl_cons, List.length_cons]
      omega
  have := key gs []
  simpa [spansOf] using this

/-- one span more behind the octets; the index beside -/
def spanFold (st : List Int × Int) (p : Int × Int) : List Int × Int := (st.1 ++ (oct2 p.1 ++ oct2 p.2 ++ oct2 st.2), st.2 + p.2 - p.1 + 1)
/-- the octets of a coverage -/
def coverL (gs : List Int) : List Int :=
  if 2 * (gs.length : Int) ≤ 6 * ((spansOf gs).length : Int) then oct2 1 ++ oct2 gs.length ++ gs.flatMap oct2
  else ((spansOf gs).foldl spanFold (oct2 2 ++ oct2 (spansOf gs).length, 0)).1

theorem flat_len : ∀ l : List Int, (l.flatMap oct2).length = 2 * l.length
  | [] => rfl
  | x :: r => by
    have := flat_len r
    simp only [List.flatMap_cons, List.length_append, oct2, List.length_cons, List.length_nil] at *
    omega
theorem ints_app {vs vs' : List Value} {ns ns' : List Int} (h : IntsAre vs ns) (h' : IntsAre vs' ns') : IntsAre (vs ++ vs') (ns ++ ns') := by
  induction h with
  | nil => exact h'
  | cons n t _ ih => exact .cons n t ih
theorem flat_lenF (f : Int → Int) : ∀ l : List Int, (l.flatMap fun g => oct2 (f g)).length = 2 * l.length
  | [] => rfl
  | x :: r => by
    have := flat_lenF f r
    simp only [List.flatMap_cons, List.length_append, oct2, List.length_cons, List.length_nil] at *
    omega
theorem spanFold_len : ∀ (l : List (Int × Int)) (st : List Int × Int), (l.foldl spanFold st).1.length = st.1.length + 6 * l.length
  | [], _ => by simp
  | p :: r, st => by
    rw [List.foldl_cons, spanFold_len r]
    simp only [spanFold, oct2, List.length_append, List.length_cons, List.length_nil]
    omega
theorem coverL_len {gs : List Int} (h : gs.length ≤ 64) : (coverL gs).length ≤ 400 := by
  have := spansOf_len gs
  unfold coverL
  split
  · simp only [List.length_append, flat_len, oct2, List.length_cons, List.length_nil]
    omega
  · rw [spanFold_len]
    simp only [List.length_append, oct2, List.length_cons, List.length_nil]
    omega
/-- a new list of ints -/
def NewInts (h : Heap) (v : Value) (h' : Heap) (ns : List Int) : Prop := ∃ l vs k, v = .ref l ∧ h.get? l = none ∧ h'.get? l = some (PySem.W.listOf vs.toArray k) ∧ IntsAre vs ns
end
section
theorem offLists : True := by w_top off; trivial
abbrev pairObj (a b : Value) : Obj := { cls := .type "tuple", data := .seq #[a, b] }
abbrev intPair (o : Obj) (p : Int × Int) : Prop := ∃ t1 t2, o = pairObj (.int p.1 t1) (.int p.2 t2)
/-- the objects are pairs of ints -/
abbrev Pairs2 (tl : List (Addr × Obj)) (ps : List (Int × Int)) : Prop := Paired (fun p q => intPair p.2 q) tl ps

section
variable {prog : Program} {w : World} {A : Around} {E : Value → Shared → Prop} {s : Shared} {h₀ : Heap} {env : Env} {L : Addr} {m : Str → Option Value} {news : List (Addr × Obj)}

theorem setItem_last {l : Addr} {xs : List Value} {y v : Value} {k : Nat} {t : Tok} {Q : Unit → Shared → Prop} (ho : s.heap.get? l = some (PySem.W.listOf (xs ++ [y]).toArray k)) 
    (hQ : ∀ h', h'.get? l = some (PySem.W.listOf (xs ++ [v]).toArray k) → Heap.SameBut l s.heap h' → Q () { s with heap := h' }) :
    wpAny (model prog w) A (setItem (.ref l) (.int (-1) t) v) Q E s := by
  have hl : s.heap.IsList l (xs ++ [y]).toArray := ⟨_, ho, rfl, k, rfl⟩
  unfold setItem
  try with_reducible refine wpAny_holding ?_
  first | refine wpAny_bind (wpAny_pure ?_) | skip
  refine wpAny_bind (wpAny_sequenceKey hl.typeIs (by decide) ?_)
  refine wpAny_bind (wpAny_callSpecial?_slot (name := Str.ofString "__setitem__") hl.typeIs slot_list_setitem
    (wpAny_call_entry slot_list_setitem hl.typeIs entry_list_setitem ?_ (args_list_setitem _ _ _)))
  show wpAny _ _ (Builtin.List.listSubscript? (.int (-1) t) >>= _) _ _ s
  refine wpAny_bind (wpAny_listSubscript_int (fitsIndex_neg (by decide) (by decide)) ?_)
  show wpAny _ _ ((Builtin.List.listItems (.ref l) >>= fun zs => pure ((seqIndex? (-1) zs.size).bind fun i => zs[i]?.map (i, ·))) >>= _) _ _ s
  refine wpAny_bind (wpAny_bind ?_)
  show wpAny _ _ (seqItems? (.ref l) >>= _) _ _ s
  refine wpAny_bind (wpAny_seqItems ho rfl (wpAny_pure (wpAny_pure ?_)))
  have hsz : (xs ++ [y]).toArray.size = xs.length + 1 := by simp
  have hidx : seqIndex? (-1) (xs ++ [y]).toArray.size = some xs.length := by
    rw [hsz, seqIndex_neg (by decide) (by omega)]; congr 1; omega
  rw [hidx]
  simp only [Option.bind_some]
  rw [show ((xs ++ [y]).toArray)[xs.length]? = some y by simp]
  show wpAny _ _ (setSeqItemAt l xs.length v >>= _) _ _ s
  have hfin : (s.heap.update l (Obj.mapSeq (·.setIfInBounds xs.length v))).get? l = some (PySem.W.listOf (xs ++ [v]).toArray k) := by
    rw [Heap.get?_update_self _ ho rfl]
    show some (Obj.mapSeq _ _) = _
    simp [Obj.mapSeq]
  refine wpAny_bind (wpAny_setSeqItemAt ho rfl ?_)
  first
    | exact wpAny_bind (wpAny_pure (wpAny_pure ⟨.none, rfl, wpAny_pure (hQ _ hfin (Heap.SameBut.update ..))⟩))
    | exact wpAny_pure ⟨.none, rfl, wpAny_pure (hQ _ hfin (Heap.SameBut.update ..))⟩

theorem getItem_last {l : Addr} {xs : List Value} {y : Value} {k : Nat} {t : Tok} {Q : Value → Shared → Prop} (ho : s.heap.get? l = some (PySem.W.listOf (xs ++ [y]).toArray k)) (h : Q y s) :
    wpAny (model prog w) A (getItem (.ref l) (.int (-1) t)) Q E s :=
  wpAny_getItem_list_neg (items := (xs ++ [y]).toArray) ⟨_, ho, rfl, k, rfl⟩ (by decide) (by simp only [List.size_toArray, List.length_append, List.length_singleton]; omega) (by decide)
    (by simp only [List.size_toArray, List.length_append, List.length_singleton]
        rw [show ((-1 : Int) + ((xs.length + 1 : Nat) : Int)).toNat = xs.length by omega]
        simp) h
theorem sub_last {value slice : Expr} {l : Addr} {xs : List Value} {y : Value} {k : Nat} {t : Tok} {Q : Value → Shared → Prop} (N : News h₀ L s.heap news) (hm : (l, PySem.W.listOf (xs ++ [y]).toArray k) ∈ news) (h : Q y s)
    (hs : subscripted slice false (.ref l) (.int (-1) t) = operate [.ref l, .int (-1) t] (getItem (.ref l) (.int (-1) t)) := by with_unfolding_all rfl) :
    wpAny (model prog w) A (subscriptTail value slice (.ref l) (.int (-1) t)) Q E s :=
  tail_any (T := "list") ⟨_, (N _ hm).1, rfl⟩ slot_list_getitem.lookup (getItem_last (N _ hm).1 h) hs
theorem set_last {l : Addr} {xs : List Value} {y v : Value} {k : Nat} {t : Tok} {Q : Unit → Shared → Prop} {pre post : List (Addr × Obj)} (F : Fr h₀ L s.heap m) (N : News h₀ L s.heap (pre ++ (l, PySem.W.listOf (xs ++ [y]).toArray k) :: post))
    (h1 : ∀ p ∈ pre, p.1 ≠ l) (h2 : ∀ p ∈ post, p.1 ≠ l)
    (h : ∀ h', Fr h₀ L h' m → News h₀ L h' (pre ++ (l, PySem.W.listOf (xs ++ [v]).toArray k) :: post) → Q () { s with heap := h' }) :
    wpAny (model prog w) A (setItem (.ref l) (.int (-1) t) v) Q E s := by
  have hm := N (l, PySem.W.listOf (xs ++ [y]).toArray k) (by simp)
  refine setItem_last hm.1 fun h' e hs => h h' ⟨F.ns.sameBut hs (Ne.symm hm.2.1), fun b ob e' => (hs.2 b (fun q => ?_)).trans (F.keep b ob e'), F.above⟩ (news_set N h1 h2 hs e)
  have := hm.2.2
  rw [← q, e'] at this; cases this

/-- the loop's own name -/
theorem fr_again {h : Heap} {x : Str} {v : Value} {u m : Str → Option Value} (F : Fr h₀ L h (fun y => if y = x then some v else (fun z => if z = x then u z else m z) y)) : Fr h₀ L h (fun y => if y = x then some v else m y) := by
  have e : (fun y => if y = x then some v else (fun z => if z = x then u z else m z) y) = fun y => if y = x then some v else m y := by
    funext y
    by_cases hy : y = x
    · simp only [if_pos hy]
    · simp only [if_neg hy]
  rw [← e]; exact F

theorem truthy_snoc {l : Addr} {xs : List Value} {y : Value} {k : Nat} {Q : Bool → Shared → Prop} (N : News h₀ L s.heap news) (hm : (l, PySem.W.listOf (xs ++ [y]).toArray k) ∈ news) (hz : xs.length ≤ 64) (h : ∀ tk, Q true { s with toks := tk }) :
    wpAny (model prog w) A (truthy (.ref l)) Q E s := by
  refine wpAny_truthy_list (items := (xs ++ [y]).toArray) ⟨_, (N _ hm).1, rfl, k, rfl⟩ ?_ ?_
  · simp only [List.size_toArray, List.length_append, List.length_singleton]; omega
  · have e : (xs ++ [y]).toArray.isEmpty = false := by simp
    rw [e]; exact h _
theorem truthy_nil {l : Addr} {k : Nat} {Q : Bool → Shared → Prop} (N : News h₀ L s.heap news) (hm : (l, PySem.W.listOf #[] k) ∈ news) (h : ∀ tk, Q false { s with toks := tk }) :
    wpAny (model prog w) A (truthy (.ref l)) Q E s := by
  refine wpAny_truthy_list (items := #[]) ⟨_, (N _ hm).1, rfl, k, rfl⟩ (by decide) ?_
  exact h _
end
theorem ints_at {vs : List Value} {ns : List Int} (h : IntsAre vs ns) {i : Nat} {v : Value} (e : vs[i]? = some v) : ∃ n t, ns[i]? = some n ∧ v = .int n t := by
  have hlt : i < vs.length := by
    rcases Nat.lt_or_ge i vs.length with h | h
    · exact h
    · rw [List.getElem?_eq_none h] at e; cases e
  have hlt' : i < ns.length := by rw [← h.length]; exact hlt
  obtain ⟨t, hx⟩ := h.get i ns[i] (by simp [hlt'])
  rw [hx] at e
  exact ⟨ns[i], t, by simp [hlt'], (Option.some.inj e).symm⟩
theorem allLt_mem {D : Addr} {l : List (Addr × Obj)} (h : AllLt D l) : ∀ p ∈ l, p.1 < D := by
  induction l with
  | nil => exact fun p hp => nomatch hp
  | cons q r ih =>
    intro p hp
    have h' : @LT.lt Nat _ q.1 D ∧ AllLt D r := h
    rcases List.mem_cons.mp hp with e | hp
    · rw [e]; exact h'.1
    · exact ih h'.2 p hp
theorem off_cons {own : List (Addr × Obj)} {a : Addr} {r : List Addr} (h : ∀ p ∈ own, p.1 ≠ a) (hr : OwnOff own r) : OwnOff own (a :: r) := fun p hp b hb => by
  rcases List.mem_cons.mp hb with rfl | hb
  · exact h p hp
  · exact hr p hp b hb
theorem off_lt {own : List (Addr × Obj)} {a : Addr} {r : List Addr} (h : AllLt a own) (hr : OwnOff own r) : OwnOff own (a :: r) := off_cons (fun p hp => Nat.ne_of_lt (allLt_mem h p hp)) hr
theorem off_sub {own : List (Addr × Obj)} {r r' : List Addr} (h : OwnOff own r) (hs : ∀ a ∈ r', a ∈ r) : OwnOff own r' := fun p hp b hb => h p hp b (hs b hb)
theorem off_nil {own : List (Addr × Obj)} : OwnOff own [] := fun _ _ _ hb => nomatch hb
theorem paired_nil {α β : Type} {F : α → β → Prop} {l : List β} (h : Paired F [] l) : l = [] := by cases h; rfl
theorem paired_snoc {α β : Type} {F : α → β → Prop} : ∀ {l : List α} {x : α} {r : List β}, Paired F (l ++ [x]) r → ∃ r0 y, r = r0 ++ [y] ∧ Paired F l r0 ∧ F x y
  | [], _, _, .cons h .nil => ⟨[], _, rfl, .nil, h⟩
  | _ :: _, _, _, .cons h t => by
    obtain ⟨r0, y, rfl, a, b⟩ := paired_snoc t
    exact ⟨_ :: r0, y, rfl, .cons h a, b⟩
theorem turnEnd {h₀ h' : Heap} {L : Addr} {Jn : (Str → Option Value) → List (Addr × Obj) → Prop} {own all : List (Addr × Obj)} {s₁ : Shared} {tk : Nat} {m' : Str → Option Value} (news' : List (Addr × Obj))
    (F : Fr h₀ L h' m') (N : News h₀ L h' all) (hn : ∀ p ∈ news', p ∈ all) (ho : ∀ p ∈ own, p ∈ all) (off : OwnOff own (news'.map (·.1))) (hj : Jn m' news') : TurnEnd h₀ L Jn own s₁ { s₁ with heap := h', toks := tk } :=
  ⟨h', tk, m', news', all, rfl, F, N, hn, ho, off, hj⟩
theorem news_swap {h₀ h : Heap} {L : Addr} {a b : Addr × Obj} {r : List (Addr × Obj)} (N : News h₀ L h (a :: b :: r)) : News h₀ L h (b :: a :: r) := fun p hp => N p (by
  rcases List.mem_cons.mp hp with rfl | hp
  · exact .tail _ (.head _)
  · rcases List.mem_cons.mp hp with rfl | hp
    · exact .head _
    · exact .tail _ (.tail _ hp))
theorem paired_app {α β : Type} {F : α → β → Prop} : ∀ {l : List α} {r : List β} {l' : List α} {r' : List β}, Paired F l r → Paired F l' r' → Paired F (l ++ l') (r ++ r')
  | _, _, _, _, .nil, h => h
  | _, _, _, _, .cons a t, h => .cons a (paired_app t h)
theorem not_frame {h₀ h : Heap} {L a : Addr} {m : Str → Option Value} {o : Obj} (F : Fr h₀ L h m) (e : h₀.get? a = some o) : L ≠ a := fun q => by
  rw [← q] at e
  exact absurd (Nat.lt_of_lt_of_le (Heap.lt_size e) F.above) (Nat.lt_irrefl _)
theorem not_led {h₀ h : Heap} {L a : Addr} {o : Obj} {news : List (Addr × Obj)} (N : News h₀ L h news) (e : h₀.get? a = some o) : ∀ p ∈ news, p.1 ≠ a := fun p hp q => by
  have := (N p hp).2.2
  rw [q, e] at this; cases this
end
section
theorem offPostV : True := by w_top off; trivial
/-- the posts made variables: what a long walk carries is short -/
theorem post_var {α : Type} {M : Model} {A : Around} {t : Sem α} {Q : α → Shared → Prop} {E : Value → Shared → Prop} {s : Shared}
    (h : ∀ (Q' : α → Shared → Prop) (E' : Value → Shared → Prop), (∀ v s', Q v s' → Q' v s') → wpAny M A t Q' E' s) : wpAny M A t Q E s :=
  h Q E fun _ _ x => x
theorem post_varQ {α : Type} {M : Model} {A : Around} {t : Sem α} {Q : α → Shared → Prop} {E : Value → Shared → Prop} {s : Shared}
    (h : ∀ (Q' : α → Shared → Prop), (∀ v s', Q v s' → Q' v s') → wpAny M A t Q' E s) : wpAny M A t Q E s :=
  h Q fun _ _ x => x
/-- what a value's branches share -/
theorem wpAny_join {prog : Program} {w : World} {A : Around} {E : Value → Shared → Prop} {s : Shared} {α : Type} {t : Sem α} {Q : α → Shared → Prop} (P : α → Shared → Prop) (h1 : ∀ Q' : α → Shared → Prop, (∀ v s', P v s' → Q' v s') → wpAny (model prog w) A t Q' E s) (h2 : ∀ v s', P v s' → Q v s') :
    wpAny (model prog w) A t Q E s := wpAny_mono (h1 P fun _ _ h => h) (fun v s' h => h2 v s' h) fun _ _ e => e
section
variable {prog : Program} {w : World} {A : Around} {E : Value → Shared → Prop} {s : Shared} {env : Env}
/-- an if whose test is known -/
theorem wpAny_If_b (b : Bool) {test body orelse pos} {Q : Flow → Shared → Prop}
    (h1 : ∀ Q' : Bool → Shared → Prop, (∀ tk, Q' b { s with toks := tk }) → wpAny (model prog w) A (isTrue test env (eval test env)) Q' E s)
    (h2 : ∀ tk, wpAny (model prog w) A (execs (if b then body else orelse) env) Q E { s with toks := tk }) :
    wpAny (model prog w) A (exec (.If test body orelse pos) env) Q E s := by
  rw [exec_If]
  refine wpAny_bind (wpAny_standAt (wpAny_bind (wpAny_mono (h1 (fun b' s₂ => b' = b ∧ ∃ tk, s₂ = { s with toks := tk }) fun tk => ⟨rfl, tk, rfl⟩) (fun b' s₂ h => ?_) fun _ _ e => e)))
  obtain ⟨rfl, tk, rfl⟩ := h
  have := h2 tk
  cases b' <;> exact this
end
theorem turnEndV {P : Prop} {h₀ h' : Heap} {L : Addr} {Jn : (Str → Option Value) → List (Addr × Obj) → Prop} {own all : List (Addr × Obj)} {s₁ : Shared} {tk : Nat} {m' : Str → Option Value}
    (hQ : TurnEnd h₀ L Jn own s₁ { s₁ with heap := h', toks := tk } → P) (news' : List (Addr × Obj))
    (F : Fr h₀ L h' m') (N : News h₀ L h' all) (hn : ∀ p ∈ news', p ∈ all) (ho : ∀ p ∈ own, p ∈ all) (off : OwnOff own (news'.map (·.1))) (hj : Jn m' news') : P :=
  hQ (turnEnd news' F N hn ho off hj)
end
section
theorem offRulesF : True := by w_top off; trivial
section
variable {prog : Program} {w : World} {A : Around} {E : Value → Shared → Prop} {s : Shared} {h₀ : Heap} {env : Env}

inductive LoopK (h₀ : Heap) (L : Addr) (s₁ : Shared) (l : Addr) (fp : List Addr) (St : Nat → Heap → Prop) (J : Nat → (Str → Option Value) → List (Addr × Obj) → Prop) (n k : Nat) (s' : Shared) : Prop
  | mk : ∀ h'' tk m' news' i, s' = { s₁ with heap := h'', toks := tk } → St i h'' → Fr h₀ L h'' m' → News h₀ L h'' news' → (∀ p ∈ news', p.1 ∉ fp) → J i m' news' → i ≤ n → (∀ o, s₁.heap.get? l = some o → h''.get? l = some o) → k = n + 1 - i → LoopK h₀ L s₁ l fp St J n k s'
/-- the turns over a list, whatever the target -/
theorem for_listC {target : Expr} {l : Addr} {items : Array Value} {m : Str → Option Value} {news : List (Addr × Obj)} {J : Nat → (Str → Option Value) → List (Addr × Obj) → Prop} {s₁ : Shared} {body : List Stmt} {Q : Flow → Shared → Prop}
    (hh : A.handled = none) (hl : s₁.heap.IsList l items) (hL : env.locals ≠ l) (F : Fr h₀ env.locals s₁.heap m) (N : News h₀ env.locals s₁.heap news) (off : ∀ p ∈ news, p.1 ≠ l) (h0 : J 0 m news)
    (go : ∀ i v I h₁ tk₁ {Q' : Unit → Shared → Prop} {E' : Value → Shared → Prop}, items[i]? = some v → h₁.IsListIter I l (i + 1) → Q' () { s₁ with heap := h₁, toks := tk₁ } → wpAny (model prog w) A (letOwnedTupleGo target (.ref I) v) Q' E' { s₁ with heap := h₁, toks := tk₁ })
    (step : ∀ (i : Nat) x' m₁ news₁ own h tk, i < items.size → items[i]? = some x' → J i m₁ news₁ → OwnOff own (news₁.map (·.1)) → Fr h₀ env.locals h m₁ → News h₀ env.locals h (news₁ ++ own) →
      wpAny (model prog w) A (assign target env x') (fun _ s₂ => wpAny (model prog w) A (execs body env)
        (fun f s' => match f with | .ret v => Q (.ret v) s' | .brk => Q .next s' | _ => TurnEnd h₀ env.locals (J (i + 1)) own s₁ s') (fun _ _ => False) s₂) (fun _ _ => False) { s₁ with heap := h, toks := tk })
    (fin : ∀ m' news' h tk, J items.size m' news' → Fr h₀ env.locals h m' → News h₀ env.locals h news' → (∀ o, s₁.heap.get? l = some o → h.get? l = some o) → Q .next { s₁ with heap := h, toks := tk }) :
    wpAny (model prog w) A (pyIter (.ref l)) (fun it s₂ => codeAny (model prog w) A (.forLoop target it body [] env) (fun r s' => match r with | .ok f => Q f s' | .error e => cameBackBy (model prog w) A env E e s') s₂) E s₁ := by
  have hlt0 : l < s₁.heap.objs.size := by obtain ⟨o, ho, _⟩ := hl; exact Heap.lt_size ho
  refine wpAny_pyIter_list hl ?_
  obtain ⟨I, eI⟩ : ∃ I, I = s₁.heap.objs.size := ⟨_, rfl⟩
  obtain ⟨h', eh⟩ : ∃ h', h' = s₁.heap.push { cls := .type "list_iterator", data := .fields #[.ref l, .int 0 0] } := ⟨_, rfl⟩
  obtain ⟨tk, etk⟩ : ∃ tk, tk = s₁.toks := ⟨_, rfl⟩
  obtain ⟨n, en⟩ : ∃ n, n = items.size := ⟨_, rfl⟩
  obtain ⟨src, esrc⟩ : ∃ src : List Addr, src = [l] := ⟨_, rfl⟩
  obtain ⟨fp, efp⟩ : ∃ fp : List Addr, fp = [I, l] := ⟨_, rfl⟩
  obtain ⟨St, eSt⟩ : ∃ St : Nat → Heap → Prop, St = fun i h => h.IsListIter I l i ∧ h.IsList l items := ⟨_, rfl⟩
  have keep : ∀ b o, s₁.heap.get? b = some o → h'.get? b = some o := fun b o e => by rw [eh]; exact Heap.get?_push_of_some _ e
  have hI : s₁.heap.get? I = none := by rw [eI]; exact Heap.get?_none_of_le (Nat.le_refl _)
  have hfp : ∀ b ∈ fp, b = I ∨ b ∈ src := fun b hb => by rw [efp] at hb; rw [esrc]; simpa using hb
  have W : Walks prog w A I fp [I] n (fun i v => items[i]? = some v) St := by
    rw [efp, eSt, en]
    exact Walks.list hh _ l (by rw [eI]; exact Nat.ne_of_lt hlt0) items
  have live : ∀ i h, St i h → ∀ b ∈ fp, ∃ o, h.get? b = some o := fun i h st b hb => by
    rw [eSt] at st
    obtain ⟨⟨o1, e1, _⟩, ⟨o2, e2, _⟩⟩ := st
    rw [efp] at hb
    rcases List.mem_cons.mp hb with rfl | hb
    · exact ⟨_, e1⟩
    · rw [List.mem_singleton.mp hb]; exact ⟨_, e2⟩
  have st0 : St 0 h' := by
    rw [eSt, eI, eh]
    exact ⟨⟨_, Heap.get?_push_size _ rfl, rfl, rfl⟩, hl.push _⟩
  have hL : env.locals ∉ src := by rw [esrc]; exact fun q => hL (List.mem_singleton.mp q)
  have off : ∀ p ∈ news, p.1 ∉ src := by rw [esrc]; exact fun p hp q => off p hp (List.mem_singleton.mp q)
  rw [← eI, ← eh]
  rw [← en] at step fin
  show codeAny _ _ _ _ { s₁ with heap := h', toks := s₁.toks }
  rw [← etk]
  have hIL : I ≠ env.locals := fun e => by
    obtain ⟨o, _, _, ho, _⟩ := F.ns
    rw [e, ho] at hI; cases hI
  have hI₀ : h₀.get? I = none := by
    cases e : h₀.get? I with
    | none => rfl
    | some o => have := F.keep I o e; rw [hI] at this; cases this
  have hLf : env.locals ∉ fp := fun hm => by
    rcases hfp _ hm with e | e
    · exact hIL e.symm
    · exact hL e
  have hIf : I ∈ fp := W.sub I (List.mem_singleton.mpr rfl)
  have offI : ∀ p ∈ news, p.1 ∉ fp := fun p hp hm => by
    rcases hfp _ hm with e | e
    · have := (N p hp).1; rw [e, hI] at this; cases this
    · exact off p hp e
  refine codeAny_forLoop_any
    (LoopK h₀ env.locals s₁ l fp St J n) ?_ (n + 1)
    ⟨h', tk, m, news, 0, rfl, st0, F.keeps keep, fun p hp => ⟨keep _ _ (N p hp).1, (N p hp).2⟩, offI, h0, Nat.zero_le _, (fun o e => keep _ _ e), rfl⟩
  rintro k s' ⟨H, tk', m', news', i, rfl, hst', F', N', hoff, hJ, hi, hkl, rfl⟩
  have next : ∀ h₁ : Heap, (∀ b o, b ∉ [I] → H.get? b = some o → h₁.get? b = some o) → Fr h₀ env.locals h₁ m' ∧ News h₀ env.locals h₁ news' := fun h₁ hk₁ =>
    ⟨⟨F'.ns.at' fun o e => hk₁ _ o (fun hm => hIL (List.mem_singleton.mp hm).symm) e, fun b o e => hk₁ b o (fun hm => by rw [List.mem_singleton.mp hm, hI₀] at e; cases e) (F'.keep b o e), F'.above⟩,
      fun p hp => ⟨hk₁ _ _ (fun hm => hoff p hp (by rw [List.mem_singleton.mp hm]; exact hIf)) (N' p hp).1, (N' p hp).2⟩⟩
  by_cases hlt : i < n
  · refine W.item i _ _ _ hlt hst' fun v' h₁ tk₁ hP hst₁ hk₁ => ?_
    obtain ⟨F₁, N₁⟩ := next h₁ hk₁
    have Nown : News h₀ env.locals h₁ (ownOf h₀ fp h₁) := news_ownOf hLf
    have hsep : OwnOff (ownOf h₀ fp h₁) (news'.map (·.1)) := by
      intro p hp b hb e
      obtain ⟨q, hq, rfl⟩ := List.mem_map.mp hb
      exact hoff q hq (e ▸ ownOf_sub p hp)
    have hli : h₁.IsListIter I l (i + 1) := by rw [eSt] at hst₁; exact hst₁.1
    have hlI : l ≠ I := by rw [eI]; exact Nat.ne_of_lt hlt0
    have hkl₁ : ∀ o, s₁.heap.get? l = some o → h₁.get? l = some o := fun o e => hk₁ l o (fun q => hlI (List.mem_singleton.mp q)) (hkl o e)
    refine go i v' I h₁ tk₁ hP hli ?_
    refine wpAny_mono (step i v' m' news' (ownOf h₀ fp h₁) h₁ tk₁ hlt hP hJ hsep F₁ (N₁.append Nown)) (fun _ s₂ h₂ => wpAny_mono h₂ (fun f s₃ q => ?_) fun _ _ e => e.elim) fun _ _ e => e.elim
    have fin' : TurnEnd h₀ env.locals (J (i + 1)) (ownOf h₀ fp h₁) s₁ s₃ → ∃ mm, mm < n + 1 - i ∧ LoopK h₀ env.locals s₁ l fp St J n mm s₃ := by
      rintro ⟨h'', tk'', m'', news'', all, rfl, F'', N'', hn, ho, ha, hj⟩
      have key : ∀ p ∈ news'', p.1 ∉ fp := fun p hp hm => by
        have hp0 := (N'' p (hn p hp)).2.2
        obtain ⟨o, e⟩ := live _ _ hst₁ _ hm
        exact ha _ (mem_ownOf hm hp0 e) p.1 (List.mem_map_of_mem hp) rfl
      have hfpk : ∀ b ∈ fp, ∀ o, h₁.get? b = some o → h''.get? b = some o := fun b hb o e => by
        cases hz : h₀.get? b with
        | some o₀ =>
          have e' := F₁.keep b o₀ hz
          rw [e] at e'; cases e'
          exact F''.keep b _ hz
        | none => exact (N'' _ (ho _ (mem_ownOf hb hz e))).1
      exact ⟨n + 1 - (i + 1), by omega, h'', tk'', m'', news'', i + 1, rfl, W.frame _ _ _ hst₁ hfpk, F'', fun p hp => N'' p (hn p hp), key, hj, hlt,
        fun o e => hfpk l (by rw [efp]; exact .tail _ (.head _)) o (hkl₁ o e), rfl⟩
    cases f with
    | ret v => exact q
    | brk => exact q
    | next => exact fin' q
    | cont => exact fin' q
  · have hin : i = n := by omega
    subst hin
    refine W.done _ _ _ hst' fun h₁ tk₁ hk₁ => wpAny_execs_nil ?_
    obtain ⟨F₁, N₁⟩ := next h₁ hk₁
    exact fin m' news' h₁ tk₁ hJ F₁ N₁ fun o e => hk₁ l o (fun q => (show l ≠ I by rw [eI]; exact Nat.ne_of_lt hlt0) (List.mem_singleton.mp q)) (hkl o e)
/-- a for loop of any target: the turn begins with the assignment -/
inductive ForT (prog : Program) (w : World) (A : Around) (h₀ : Heap) (env : Env) (target : Expr) (body : List Stmt) (Q : Flow → Shared → Prop) (v : Value) (s₁ : Shared) : Prop
  | mk : ∀ (l : Addr) (items : Array Value) (m : Str → Option Value) (news : List (Addr × Obj)) (J : Nat → (Str → Option Value) → List (Addr × Obj) → Prop), A.handled = none → v = .ref l → s₁.heap.IsList l items → (∀ (i : Nat) x, items[i]? = some x → ∃ T, x = .ref T) → env.locals ≠ l → Fr h₀ env.locals s₁.heap m → News h₀ env.locals s₁.heap news → (∀ p ∈ news, p.1 ≠ l) → J 0 m news → (∀ i x' m₁ news₁ own h tk, i < items.size → items[i]? = some x' → J i m₁ news₁ → OwnOff own (news₁.map (·.1)) → Fr h₀ env.locals h m₁ → News h₀ env.locals h (news₁ ++ own) → wpAny (model prog w) A (assign target env x') (fun _ s₂ => wpAny (model prog w) A (execs body env) (fun f s' => match f with | .ret v => Q (.ret v) s' | .brk => Q .next s' | _ => TurnEnd h₀ env.locals (J (i + 1)) own s₁ s') (fun _ _ => False) s₂) (fun _ _ => False) { s₁ with heap := h, toks := tk }) → (∀ m' news' h tk, J items.size m' news' → Fr h₀ env.locals h m' → News h₀ env.locals h news' → Q .next { s₁ with heap := h, toks := tk }) → ForT prog w A h₀ env target body Q v s₁

theorem for_any {elts : List Expr} {kt : Nat} {tpos : Pos} {iter : Expr} {pos : Pos} {body : List Stmt} {Q : Flow → Shared → Prop} (h₀ : Heap)
    (h : wpAny (model prog w) A (eval iter env) (fun v s₁ => ForT prog w A h₀ env (.Tuple elts kt tpos) body Q v s₁) (fun _ _ => False) s)
    (hs : ∀ x, foldedSetIterable iter env x = pure x := by intro _; rfl) :
    wpAny (model prog w) A (exec (.For (.Tuple elts kt tpos) iter body [] pos) env) Q E s := by
  refine wpAny_For (wpAny_mono h (fun v s₁ h₁ => ?_) fun _ _ e => e.elim) hs
  obtain ⟨l, items, m, news, J, hh, rfl, hl, hrefs, hL, F, N, off, h0, step, fin⟩ := h₁
  refine for_listC hh hl hL F N off h0 (fun i v I h₁ tk₁ Q' E' hP hli q => ?_) step fun m' news' h tk a b c _ => fin m' news' h tk a b c
  obtain ⟨T, rfl⟩ := hrefs i v hP
  exact wpAny_letOwnedTupleGo_listiter hli q
end
end
section
theorem offUse : True := by w_top off; trivial
/-- an item of a written list is put in its place -/
theorem setItem_at {prog : Program} {w : World} {A : Around} {E : Value → Shared → Prop} {s : Shared} {l : Addr} {xs : List Value} {n : Int} {v : Value} {k : Nat} {t : Tok} {Q : Unit → Shared → Prop} (ho : s.heap.get? l = some (PySem.W.listOf xs.toArray k))
    (h0 : 0 ≤ n) (h1 : n < xs.length) (hz : xs.length ≤ 1000)
    (hQ : ∀ h', h'.get? l = some (PySem.W.listOf (xs.set n.toNat v).toArray k) → Heap.SameBut l s.heap h' → Q () { s with heap := h' }) :
    wpAny (model prog w) A (setItem (.ref l) (.int n t) v) Q E s := by
  have hfin : (s.heap.update l (Obj.mapSeq (·.setIfInBounds n.toNat v))).get? l = some (PySem.W.listOf (xs.set n.toNat v).toArray k) := by
    rw [Heap.get?_update_self _ ho rfl]
    show some (Obj.mapSeq _ _) = _
    simp [Obj.mapSeq]
  exact ki_setAt ho h0 (by omega) (by rw [List.size_toArray]; exact h1) (hQ _ hfin (Heap.SameBut.update ..))

theorem set_at {prog : Program} {w : World} {A : Around} {E : Value → Shared → Prop} {s : Shared} {h₀ : Heap} {L : Addr} {m : Str → Option Value} {l : Addr} {xs : List Value} {n : Int} {v : Value} {k : Nat} {t : Tok} {Q : Unit → Shared → Prop} {pre post : List (Addr × Obj)} (F : Fr h₀ L s.heap m) (N : News h₀ L s.heap (pre ++ (l, PySem.W.listOf xs.toArray k) :: post))
    (h0 : 0 ≤ n) (hn : n < xs.length) (hz : xs.length ≤ 1000) (h1 : ∀ p ∈ pre, p.1 ≠ l) (h2 : ∀ p ∈ post, p.1 ≠ l)
    (h : ∀ h', Fr h₀ L h' m → News h₀ L h' (pre ++ (l, PySem.W.listOf (xs.set n.toNat v).toArray k) :: post) → Heap.SameBut l s.heap h' → Q () { s with heap := h' }) :
    wpAny (model prog w) A (setItem (.ref l) (.int n t) v) Q E s := by
  have hm := N (l, PySem.W.listOf xs.toArray k) (by simp)
  refine setItem_at hm.1 h0 hn hz fun h' e hs => h h' ⟨F.ns.sameBut hs (Ne.symm hm.2.1), fun b ob e' => (hs.2 b (fun q => ?_)).trans (F.keep b ob e'), F.above⟩ (news_set N h1 h2 hs e) hs
  have := hm.2.2
  rw [← q, e'] at this; cases this

theorem len_list {prog : Program} {w : World} {A : Around} {E : Value → Shared → Prop} {s : Shared} {h₀ : Heap} {L : Addr} {news : List (Addr × Obj)} {l : Addr} {vs : List Value} {n : Int} {k : Nat} {Q : Value → Shared → Prop} (N : News h₀ L s.heap news) (hm : (l, PySem.W.listOf vs.toArray k) ∈ news)
    (hn : (vs.length : Int) = n) (hz : vs.length ≤ 1000) (h : ∀ t tk, Q (.int n t) { s with toks := tk }) : wpAny (model prog w) A (call (.builtin "len") [.ref l]) Q E s := by
  refine call_len_list (items := vs.toArray) ⟨_, (N _ hm).1, rfl, k, rfl⟩ (by rw [List.size_toArray]; omega) ?_
  rw [List.size_toArray, hn]
  exact h _ _
theorem upd_at {D : Addr} {o o' : Obj} {post : List (Addr × Obj)} (h2 : ∀ p ∈ post, p.1 ≠ D) : ∀ {pre : List (Addr × Obj)}, (∀ p ∈ pre, p.1 ≠ D) → Upd D o o' (pre ++ (D, o) :: post) (pre ++ (D, o') :: post)
  | [], _ => .head h2
  | _ :: _, h1 => .tail (h1 _ (.head _)) (upd_at h2 fun p hp => h1 p (.tail _ hp))
/-- a list is taken behind a list of the ledger -/
theorem extend_list {prog : Program} {w : World} {A : Around} {E : Value → Shared → Prop} {s : Shared} {h₀ : Heap} {L : Addr} {m : Str → Option Value} {D b : Addr} {xs ys : List Value} {n n2 : Nat} {Q : Value → Shared → Prop} {pre post : List (Addr × Obj)} (F : Fr h₀ L s.heap m) (N : News h₀ L s.heap (pre ++ (D, PySem.W.listOf xs.toArray n) :: post))
    (hb : (b, PySem.W.listOf ys.toArray n2) ∈ pre ++ (D, PySem.W.listOf xs.toArray n) :: post) (hne : ys.length ≠ 0) (hz : xs.length + ys.length ≤ 1000) (h1 : ∀ p ∈ pre, p.1 ≠ D) (h2 : ∀ p ∈ post, p.1 ≠ D)
    (h : ∀ h', Fr h₀ L h' m → News h₀ L h' (pre ++ (D, PySem.W.listOf (xs ++ ys).toArray (n + 1)) :: post) → Q .none { s with heap := h' }) :
    wpAny (model prog w) A (call (.builtin "list.extend") [.ref D, .ref b]) Q E s := by
  have hs : (1000 : Nat) ≤ sizeLine := by size_fits
  refine kl_extend (its := xs.toArray) (its2 := ys.toArray) F N hb rfl hne (upd_at h2 h1) ?_ ?_ ?_ h
  · have e : Builtin.List.listTooLong (xs.toArray.size + ys.toArray.size) = false := by
      unfold Builtin.List.listTooLong
      rw [decide_eq_false_iff_not, List.size_toArray, List.size_toArray]
      omega
    rw [e]; simp
  · show xs.length ≤ sizeLine
    omega
  · rw [List.size_toArray, List.size_toArray]
    omega
theorem fr_swap {h₀ h : Heap} {L : Addr} {a b : Str} {A : Option Value} {u M : Str → Option Value} (F : Fr h₀ L h (fun y => if y = a then A else if y = b then u y else M y)) (hab : b ≠ a) :
    Fr h₀ L h (fun y => if y = b then u y else (fun y => if y = a then A else M y) y) := by
  have e : (fun y => if y = a then A else if y = b then u y else M y) = fun y => if y = b then u y else (fun y => if y = a then A else M y) y := by
    funext y
    by_cases h1 : y = b
    · subst h1
      simp only [if_neg hab, if_pos]
    · simp only [if_neg h1]
  rw [← e]; exact F
theorem refs_at {tl : List (Addr × Obj)} {i : Nat} {x : Value} (h : (refs tl).toArray[i]? = some x) : ∃ p, tl[i]? = some p ∧ x = .ref p.1 := by
  rw [List.getElem?_toArray, List.getElem?_map] at h
  cases e : tl[i]? with
  | none => rw [e] at h; cases h
  | some p => rw [e] at h; exact ⟨p, rfl, (Option.some.inj h).symm⟩
theorem paired_at {α β : Type} {F : α → β → Prop} : ∀ {l : List α} {r : List β} {i : Nat} {a : α}, Paired F l r → l[i]? = some a → ∃ b, r[i]? = some b ∧ F a b
  | _, _, i, a, .nil, h => by simp at h
  | _, _, 0, a, .cons f _, h => by cases h; exact ⟨_, rfl, f⟩
  | _, _, i + 1, a, .cons _ t, h => paired_at (i := i) t h
/-- what a name holds is written ahead -/
theorem fr_know {h₀ h : Heap} {L : Addr} {a : Str} {v : Value} {M : Str → Option Value} (F : Fr h₀ L h M) (e : M a = some v) : Fr h₀ L h (fun z => if z = a then some v else M z) := by
  have e' : M = fun z => if z = a then some v else M z := by
    funext z
    by_cases hz : z = a
    · subst hz; rw [if_pos rfl]; exact e
    · rw [if_neg hz]
  rw [← e']; exact F
theorem fr_know2 {h₀ h : Heap} {L : Addr} {a b : Str} {v u : Value} {M : Str → Option Value} (F : Fr h₀ L h M) (e : M a = some v) (e2 : M b = some u) : Fr h₀ L h (fun z => if z = a then some v else if z = b then some u else M z) :=
  fr_know (fr_know F e2) (by
    by_cases hz : a = b
    · rw [if_pos hz, ← e2, ← hz, e]
    · rw [if_neg hz, e])
theorem fr_has {h₀ h : Heap} {L : Addr} {M : Str → Option Value} (_F : Fr h₀ L h M) (P : (Str → Option Value) → Prop) (e : P M) : P M := e
theorem ints2 {vs : List Value} {a b : Int} (h : IntsAre vs [a, b]) : ∃ t1 t2, vs = [.int a t1, .int b t2] := by
  cases h with
  | cons _ _ h =>
    cases h with
    | cons _ _ h => cases h; exact ⟨_, _, rfl⟩
section
variable {w : World} {f : Addr} {args : List Value} {dd uu : Nat} {Pre : Heap → Prop} {Post : Heap → Value → Heap → Prop} {A₀ : Around} {s : Shared} {base h₀ : Heap} {outer : List Env} {L : Addr} {m : Str → Option Value} {news : List (Addr × Obj)}
  {loose : List Str} {mean : ExcName → Option Value} {mg mb : Str → Option Value} {dp un : Nat} {gd : Option (List Code)} {cn : Str} {cs : Scope} {a : Addr} {ccd : Value} {cl : List (Str × Addr)} {Q E : Value → Shared → Prop}

theorem ct_use (C : Ct w f args dd uu [] Pre Post) (B : Below A₀ base outer h₀) (F : Fr h₀ L s.heap m) (X : (KK w).In h₀) (T : Top VW loose mean mg mb h₀) (N : News h₀ L s.heap news) (hk : cs.kind = .function) (hP : Pre s.heap)
    (hd : dp + dd < recursionLimit) (hu : un + uu < cLine)
    (hret : ∀ v h' tk', (∀ b o, s.heap.get? b = some o → h'.get? b = some o) → Fr h₀ L h' m → News h₀ L h' news → Post s.heap v h' → Q v { s with heap := h', toks := tk' }) :
    wpAny (model Pr w) (ktrTop dp un gd cn cs L a ccd cl outer) (call (.ref f) args) Q E s :=
  C _ _ _ _ _ _ _ _ _ _ _ _ _ _ _ _ _ _ _ _ _ B F X T hk (fun _ hb => nomatch hb) hP hd hu fun v h' tk' hX hp =>
    have kp : ∀ b o, s.heap.get? b = some o → h'.get? b = some o := fun b o e => hX b o e List.not_mem_nil
    hret v h' tk' kp (F.keeps kp) (N.grown kp) hp

/-- a call that hands back a new list of ints -/
theorem ct_ints {ns : List Int} (C : Ct w f args dd uu [] Pre (fun h v h' => NewInts h v h' ns)) (B : Below A₀ base outer h₀) (F : Fr h₀ L s.heap m) (X : (KK w).In h₀) (T : Top VW loose mean mg mb h₀) (N : News h₀ L s.heap news) (hk : cs.kind = .function) (hP : Pre s.heap)
    (hd : dp + dd < recursionLimit) (hu : un + uu < cLine)
    (hret : ∀ l vs k h' tk', IntsAre vs ns → (∀ p ∈ news, p.1 ≠ l) → (∀ b o, s.heap.get? b = some o → h'.get? b = some o) → s.heap.get? l = none → Fr h₀ L h' m → News h₀ L h' ((l, PySem.W.listOf vs.toArray k) :: news) → Q (.ref l) { s with heap := h', toks := tk' }) :
    wpAny (model Pr w) (ktrTop dp un gd cn cs L a ccd cl outer) (call (.ref f) args) Q E s :=
  ct_use C B F X T N hk hP hd hu fun v h' tk' kp F' N' hp => by
    obtain ⟨l, vs, k, rfl, hn, he, hi⟩ := hp
    obtain ⟨F2, N2⟩ := news_one F N kp hn he
    exact hret l vs k h' tk' hi (fun p hp q => by have := (N p hp).1; rw [q, hn] at this; cases this) kp hn F2 N2
end
end
section
theorem offRulesK : True := by w_top off; trivial
section
variable {prog : Program} {w : World} {A : Around} {E : Value → Shared → Prop} {s : Shared} {h₀ : Heap} {env : Env}

theorem fr_know3 {h₀ h : Heap} {L : Addr} {a b c : Str} {v u x : Value} {M : Str → Option Value} (F : Fr h₀ L h M) (e : M a = some v) (e2 : M b = some u) (e3 : M c = some x) : Fr h₀ L h (fun z => if z = a then some v else if z = b then some u else if z = c then some x else M z) := by
  have e' : M = fun z => if z = a then some v else if z = b then some u else if z = c then some x else M z := by
    funext z
    by_cases h1 : z = a
    · rw [if_pos h1, h1, e]
    · rw [if_neg h1]
      by_cases h2 : z = b
      · rw [if_pos h2, h2, e2]
      · rw [if_neg h2]
        by_cases h3 : z = c
        · rw [if_pos h3, h3, e3]
        · rw [if_neg h3]
  rw [← e']; exact F
/-- a for loop over a list that is told to be the same at the end -/
inductive ForK (prog : Program) (w : World) (A : Around) (h₀ : Heap) (env : Env) (x : Str) (body : List Stmt) (Q : Flow → Shared → Prop) (v : Value) (s₁ : Shared) : Prop
  | mk : ∀ (l : Addr) (items : Array Value) (m : Str → Option Value) (news : List (Addr × Obj)) (J : Nat → (Str → Option Value) → List (Addr × Obj) → Prop), A.handled = none → v = .ref l → s₁.heap.IsList l items → env.locals ≠ l → Fr h₀ env.locals s₁.heap m → News h₀ env.locals s₁.heap news → (∀ p ∈ news, p.1 ≠ l) → J 0 m news → (∀ i x' m₁ news₁ own h tk, i < items.size → items[i]? = some x' → J i m₁ news₁ → OwnOff own (news₁.map (·.1)) → Fr h₀ env.locals h (fun y => if y = x then some x' else m₁ y) → News h₀ env.locals h (news₁ ++ own) → wpAny (model prog w) A (execs body env) (fun f s' => match f with | .ret v => Q (.ret v) s' | .brk => Q .next s' | _ => TurnEnd h₀ env.locals (J (i + 1)) own s₁ s') (fun _ _ => False) { s₁ with heap := h, toks := tk }) → (∀ m' news' h tk, J items.size m' news' → Fr h₀ env.locals h m' → News h₀ env.locals h news' → (∀ o, s₁.heap.get? l = some o → h.get? l = some o) → Q .next { s₁ with heap := h, toks := tk }) → ForK prog w A h₀ env x body Q v s₁

theorem for_keep {x : Str} {px : Pos} {iter : Expr} {pos : Pos} {body : List Stmt} {Q : Flow → Shared → Prop} (h₀ : Heap) (hx : env.kindOf x = some .local)
    (hp : (env.scope.kind == .class || (env.scope.kind == .module && env.locals != env.globals)) = false)
    (h : wpAny (model prog w) A (eval iter env) (fun v s₁ => ForK prog w A h₀ env x body Q v s₁) (fun _ _ => False) s)
    (hs : ∀ x, foldedSetIterable iter env x = pure x := by intro _; rfl) :
    wpAny (model prog w) A (exec (.For (.Name x px) iter body [] pos) env) Q E s := by
  refine wpAny_For (wpAny_mono h (fun v s₁ h₁ => ?_) fun _ _ e => e.elim) hs
  obtain ⟨l, items, m, news, J, hh, rfl, hl, hL, F, N, off, h0, step, fin⟩ := h₁
  refine for_listC hh hl hL F N off h0 (fun i v I h₁ tk₁ Q' E' hP hli q => wpAny_pure q) (fun i v' m' news' own h₁ tk₁ hlt hP hJ hsep F₁ NA => ?_) fin
  refine wpAny_assign_Name (wpAny_storeName_local hx F₁.ns (fun h₂ hn₂ hs₂ => ?_) hp)
  have F₂ : Fr h₀ env.locals h₂ (fun y => if y = x then some v' else m' y) := ⟨hn₂, fun b o e => hs₂.extBut b o (fun q => not_frame F₁ e q.symm) (F₁.keep b o e), F₁.above⟩
  have N₂ : News h₀ env.locals h₂ (news' ++ own) := fun p hp => ⟨hs₂.extBut _ _ (NA p hp).2.1 (NA p hp).1, (NA p hp).2⟩
  exact step i v' m' news' own h₂ _ hlt hP hJ hsep F₂ N₂
end
end
section
theorem offUnpack : True := by w_top off; trivial
section
variable {prog : Program} {w : World} {A : Around} {E : Value → Shared → Prop} {s : Shared} {h₀ : Heap}

theorem unpack_list2 {T : Addr} {x y : Value} {Q : List Value → Shared → Prop} (hh : A.handled = none) (hl : s.heap.IsList T #[x, y])
    (hQ : ∀ h' tk, (∀ b o, s.heap.get? b = some o → h'.get? b = some o) → Q [x, y] { s with heap := h', toks := tk }) : wpAny (model prog w) A (unpackItems (.ref T) 2 none) Q E s := by
  unfold unpackItems
  refine wpAny_bind ?_
  unfold notIterableAtAll
  refine wpAny_bind (wpAny_specialOf hl.typeIs F.slot_list_iter.lookup ?_)
  refine wpAny_pure ?_
  simp only [Bool.false_eq_true, if_false]
  refine wpAny_bind (wpAny_holding ?_)
  refine iter_list hl A _ _ hh fun I fp St h' tk keep hsz hI hfp W live st0 => ?_
  have kp : ∀ (h1 h2 : Heap), (∀ b o, s.heap.get? b = some o → h1.get? b = some o) → (∀ b o, b ∉ [I] → h1.get? b = some o → h2.get? b = some o) → (∀ b o, s.heap.get? b = some o → h2.get? b = some o) :=
    fun h1 h2 k1 k2 b o e => k2 b o (fun hm => by rw [List.mem_singleton.mp hm, hI] at e; cases e) (k1 b o e)
  refine wpAny_bind (wpAny_holding ?_)
  show wpAny _ _ (pyNext (.ref I) >>= _) _ _ _
  refine wpAny_bind (W.item 0 _ _ _ (by simp) st0 fun v1 h1 tk1 hP1 st1 hk1 => ?_)
  cases hP1
  refine wpAny_bind (wpAny_holding ?_)
  show wpAny _ _ (pyNext (.ref I) >>= _) _ _ _
  refine wpAny_bind (W.item 1 _ _ _ (by simp) st1 fun v2 h2 tk2 hP2 st2 hk2 => ?_)
  cases hP2
  refine wpAny_bind (wpAny_holding ?_)
  refine wpAny_pure (wpAny_pure (wpAny_pure ?_))
  rw [if_neg (by simp)]
  refine wpAny_bind (wpAny_holding ?_)
  refine W.done _ _ _ st2 fun h3 tk3 hk3 => ?_
  simp only [Option.isSome_none, Bool.false_eq_true, if_false]
  exact wpAny_pure (hQ h3 tk3 (kp _ _ (kp _ _ (kp _ _ keep hk1) hk2) hk3))

theorem assign_list2 {env : Env} {a b : Str} {pa pb tp : Pos} {kk : Nat} {T : Addr} {x y : Value} {m : Str → Option Value} {Q : Unit → Shared → Prop} (hh : A.handled = none) (ht : s.heap.IsList T #[x, y])
    (ha : env.kindOf a = some .local) (hb : env.kindOf b = some .local) (hp : (env.scope.kind == .class || (env.scope.kind == .module && env.locals != env.globals)) = false) (F : Fr h₀ env.locals s.heap m)
    (h : ∀ (h' : Heap) (tk : Nat), Fr h₀ env.locals h' (fun z => if z = b then some y else if z = a then some x else m z) → (∀ c o, c ≠ env.locals → s.heap.get? c = some o → h'.get? c = some o) → Q () { s with heap := h', toks := tk }) :
    wpAny (model prog w) A (assign (.Tuple [.Name a pa, .Name b pb] kk tp) env (.ref T)) Q E s := by
  rw [arm_assign_Tuple]
  refine wpAny_bind (wpAny_standAt ?_)
  unfold unpack
  refine wpAny_bind (wpAny_holding (unpack_list2 hh ht fun h1 tk1 k1 => ?_))
  have hn₁ : h1.Ns env.locals m := (F.keeps k1).ns
  show wpAny _ _ (assignInOrder [assign (.Name a pa) env, assign (.Name b pb) env] [x, y]) _ _ _
  refine assignInOrder_cons ?_
  refine wpAny_assign_Name (wpAny_storeName_local ha hn₁ (fun h₂ hn₂ hs₂ => ?_) hp)
  refine assignInOrder_cons ?_
  refine wpAny_assign_Name (wpAny_storeName_local hb hn₂ (fun h₃ hn₃ hs₃ => ?_) hp)
  refine assignInOrder_nil ?_
  have k3 : ∀ c o, c ≠ env.locals → s.heap.get? c = some o → h₃.get? c = some o := fun c o hc e => hs₃.extBut c o hc (hs₂.extBut c o hc (k1 c o e))
  exact h h₃ _ ⟨hn₃, fun b o e => k3 b o (Ne.symm (not_frame F e)) (F.keep b o e), F.above⟩ k3
theorem assign_tup2 {env : Env} {a b : Str} {pa pb tp : Pos} {kk : Nat} {T : Addr} {x y : Value} {m : Str → Option Value} {Q : Unit → Shared → Prop} (hh : A.handled = none) (ht : s.heap.IsTuple T #[x, y])
    (ha : env.kindOf a = some .local) (hb : env.kindOf b = some .local) (hp : (env.scope.kind == .class || (env.scope.kind == .module && env.locals != env.globals)) = false) (F : Fr h₀ env.locals s.heap m)
    (h : ∀ (h' : Heap) (tk : Nat), Fr h₀ env.locals h' (fun z => if z = b then some y else if z = a then some x else m z) → (∀ c o, c ≠ env.locals → s.heap.get? c = some o → h'.get? c = some o) → Q () { s with heap := h', toks := tk }) :
    wpAny (model prog w) A (assign (.Tuple [.Name a pa, .Name b pb] kk tp) env (.ref T)) Q E s :=
  kcp_assign hh ht ha hb hp F.ns fun h' tk hn k => h h' tk ⟨hn, fun b o e => k b o (Ne.symm (not_frame F e)) (F.keep b o e), F.above⟩ k
end
end
section
theorem offMaps : True := by w_top off; trivial
abbrev KvIs (kv : Int × Value) (p : Int × Int) : Prop := kv.1 = p.1 ∧ ∃ t, kv.2 = .int p.2 t
/-- a dict of ints to ints -/
def Maps (w : World) (h : Heap) (d : Addr) (ps : List (Int × Int)) : Prop := (d == sysModules) = false ∧ ∃ kvs, h.DictOf (intKind Pr w) d kvs ∧ Paired KvIs kvs ps
def look (ps : List (Int × Int)) (k : Int) : Int := ((ps.find? fun p => p.1 = k).map (·.2)).getD 0
def sortL (l : List Int) : List Int := l.mergeSort (fun a b => decide (a ≤ b))
theorem sortL_perm (l : List Int) : (sortL l).Perm l := List.mergeSort_perm _ _
theorem sortL_sorted (l : List Int) : (sortL l).Pairwise (· ≤ ·) := by
  have := List.pairwise_mergeSort (le := fun a b : Int => decide (a ≤ b)) (by intro a b c; simp; omega) (by intro a b; simp; omega) l
  unfold sortL
  refine this.imp ?_
  intro a b h; simpa using h
theorem sortL_eq {l ns : List Int} (hp : ns.Perm l) (hs : ns.Pairwise (· ≤ ·)) : ns = sortL l := ksm_same (hp.trans (sortL_perm l).symm) hs (sortL_sorted l)

theorem Maps.keep {w : World} {h h' : Heap} {d : Addr} {ps : List (Int × Int)} (M : Maps w h d ps) (k : ∀ b o, h.get? b = some o → h'.get? b = some o) : Maps w h' d ps :=
  ⟨M.1, let ⟨kvs, hd, hp⟩ := M.2; ⟨kvs, hd.keep k, hp⟩⟩
theorem paired_keys {kvs : List (Int × Value)} {ps : List (Int × Int)} (h : Paired KvIs kvs ps) : kvs.map (·.1) = ps.map (·.1) := by
  induction h with
  | nil => rfl
  | cons f _ ih => simp only [List.map_cons, ih, f.1]
theorem Maps.nodup {w : World} {h : Heap} {d : Addr} {ps : List (Int × Int)} (M : Maps w h d ps) : (ps.map (·.1)).Nodup := by
  obtain ⟨_, kvs, ⟨_, _, _, _, _, _, _, _, hn⟩, hp⟩ := M
  rw [← paired_keys hp]; exact hn
theorem look_at {kvs : List (Int × Value)} {ps : List (Int × Int)} (h : Paired KvIs kvs ps) {k : Int} (hk : k ∈ ps.map (·.1)) : ∃ t, valueAt kvs k = some (.int (look ps k) t) := by
  induction h with
  | nil => simp at hk
  | @cons kv p _ _ f _ ih =>
    obtain ⟨a, v⟩ := kv
    obtain ⟨e, t, e2⟩ := f
    simp only at e e2
    subst e e2
    by_cases hz : p.1 = k
    · refine ⟨t, ?_⟩
      simp [valueAt, look, hz]
    · obtain ⟨t', h'⟩ := ih (by
        rcases List.mem_cons.mp hk with q | q
        · exact absurd q.symm hz
        · exact q)
      refine ⟨t', ?_⟩
      simpa [valueAt, look, hz] using h'
theorem ints_of {vs : List Value} {ns : List Int} (hl : vs.length = ns.length) (h : ∀ (j : Nat) v n, vs[j]? = some v → ns[j]? = some n → ∃ t, v = .int n t) : IntsAre vs ns := by
  induction vs generalizing ns with
  | nil => cases ns with
    | nil => exact .nil
    | cons => simp at hl
  | cons v r ih => cases ns with
    | nil => simp at hl
    | cons n ns =>
      obtain ⟨t, rfl⟩ := h 0 v n rfl rfl
      exact .cons _ _ (ih (by simpa using hl) fun j v n a b => h (j + 1) v n a b)

section
variable {w : World} {A : Around} {E : Value → Shared → Prop} {s : Shared} {h₀ : Heap} {env : Env} {L : Addr} {m : Str → Option Value} {news : List (Addr × Obj)} {d : Addr} {ps : List (Int × Int)}

theorem map_item {k : Int} {t : Tok} {Q : Value → Shared → Prop} (M : Maps w s.heap d ps) (hk : k ∈ ps.map (·.1)) (h : ∀ t tk, Q (.int (look ps k) t) { s with toks := tk }) :
    wpAny (model Pr w) A (getItem (.ref d) (.int k t)) Q E s := by
  obtain ⟨_, kvs, hd, hp⟩ := M
  obtain ⟨u, e⟩ := look_at hp hk
  exact wpAny_getItem_of (knd := intKind Pr w) (k := k) (by simp [intKind, Value.isInt]) hd.mapOf e (h _ _)
theorem sub_map {value slice : Expr} {k : Int} {t : Tok} {Q : Value → Shared → Prop} (M : Maps w s.heap d ps) (hk : k ∈ ps.map (·.1)) (h : ∀ t tk, Q (.int (look ps k) t) { s with toks := tk })
    (hs : subscripted slice false (.ref d) (.int k t) = operate [.ref d, .int k t] (getItem (.ref d) (.int k t)) := by with_unfolding_all rfl) :
    wpAny (model Pr w) A (subscriptTail value slice (.ref d) (.int k t)) Q E s := by
  obtain ⟨_, kvs, hd, hp⟩ := id M
  exact tail_any (T := "dict") hd.typeIs slot_dict_getitem.lookup (map_item M hk h) hs
theorem iter_map (M : Maps w s.heap d ps) : Iter Pr w (.ref d) [d] ps.length (fun i v => ∃ p t, ps[i]? = some p ∧ v = .int p.1 t) s := by
  obtain ⟨lo, kvs, hd, hp⟩ := M
  have := iter_dict lo hd
  rw [hp.length] at this
  intro A E Q hh h
  refine this A E Q hh fun I fp St h' tk a b c d W e f => h I fp St h' tk a b c d ?_ e f
  exact W.weaken fun i v ⟨k, x, e, hk⟩ => by
    obtain ⟨p, hp', e1, _⟩ := paired_at hp e
    obtain ⟨t, rfl⟩ := Value.isInt_shape hk
    exact ⟨p, t, hp', by rw [← e1]⟩
theorem sorted_map {Q : Value → Shared → Prop} (M : Maps w s.heap d ps) (hh : A.handled = none) (F : Fr h₀ L s.heap m) (N : News h₀ L s.heap news) (hn : ps.length < 64)
    (h : ∀ D vs c h' tk, Fr h₀ L h' m → News h₀ L h' ((D, PySem.W.listOf vs.toArray c) :: news) → (∀ q ∈ news, q.1 < D) → IntsAre vs (sortL (ps.map (·.1))) → Q (.ref D) { s with heap := h', toks := tk }) :
    wpAny (model Pr w) A (call (.builtin "sorted") [.ref d]) Q E s := by
  obtain ⟨lo, kvs, hd, hp⟩ := M
  obtain ⟨ep, hat⟩ := hd.dictAt
  have hpl := hp.length
  refine kdu_sorted (kdl_dict (knd := intKind Pr w) (kvs := kvs) (ep := ep) lo) hh F N hat (Nat.le_trans (Nat.le_of_lt (by omega : kvs.length < 64)) (by size_fits)) fun D h' tk vs F' N' l1 hl hv => ?_
  have hi : IntsAre vs (ps.map (·.1)) := by
    refine ints_of (by rw [hl, List.length_map, hpl]) fun j v n e1 e2 => ?_
    obtain ⟨k, x, e3, hk⟩ := hv j v e1
    obtain ⟨p, hp', e4, _⟩ := paired_at hp e3
    obtain ⟨t, rfl⟩ := Value.isInt_shape hk
    rw [List.getElem?_map, hp'] at e2
    have e5 : p.1 = n := Option.some.inj e2
    simp only at e4
    exact ⟨t, by rw [e4, e5]⟩
  refine ksk_lsort (news' := fun o => (D, o) :: news) F' N' (fun o => .head fun p hp => Nat.ne_of_lt (l1 p hp)) rfl hi (by rw [List.length_map]; exact hn) fun vs' ns' c h2 F2 N2 i2 _ p2 o2 _ => ?_
  have e := sortL_eq p2 o2
  subst e
  exact h D vs' c h2 tk F2 N2 l1 i2
end
end
section
theorem offMapsB : True := by w_top off; trivial
/-- an object that is a dict of ints -/
def DObj (w : World) (o : Obj) (kvs : List (Int × Value)) : Prop := ∃ es ep, o.ExactDict ∧ o.data = .dict es ep ∧ KeysOf (intKind Pr w) es ∧ Pairs (intKind Pr w) es.toList kvs ∧ (kvs.map (·.1)).Nodup
theorem dobj_of {w : World} {h : Heap} {d : Addr} {kvs : List (Int × Value)} (x : h.DictOf (intKind Pr w) d kvs) : ∃ o, h.get? d = some o ∧ DObj w o kvs := let ⟨o, es, ep, e, r⟩ := x; ⟨o, e, es, ep, r⟩
theorem of_dobj {w : World} {h : Heap} {d : Addr} {o : Obj} {kvs : List (Int × Value)} (e : h.get? d = some o) (x : DObj w o kvs) : h.DictOf (intKind Pr w) d kvs := let ⟨es, ep, r⟩ := x; ⟨o, es, ep, e, r⟩
theorem dobj_new {w : World} : DObj w { cls := .type "dict", data := .dict #[] } [] := by
  obtain ⟨o, e, x⟩ := dobj_of (w := w) (Heap.DictOf.new (knd := intKind Pr w) ({} : Heap))
  rw [Heap.get?_push_size _ rfl] at e
  cases e
  exact x
theorem dobj_nodup {w : World} {o : Obj} {kvs : List (Int × Value)} (x : DObj w o kvs) : (kvs.map (·.1)).Nodup := let ⟨_, _, _, _, _, _, n⟩ := x; n

section
variable {w : World} {A : Around} {E : Value → Shared → Prop} {s : Shared} {h₀ : Heap} {env : Env} {L : Addr} {m : Str → Option Value} {news : List (Addr × Obj)} {d : Addr} {kvs : List (Int × Value)}

/-- a new key is put behind -/
theorem dict_put {o : Obj} {k : Int} {t : Tok} {v : Value} {Q : Unit → Shared → Prop} {pre post : List (Addr × Obj)} (F : Fr h₀ L s.heap m) (N : News h₀ L s.heap (pre ++ (d, o) :: post)) (x : DObj w o kvs) (hk : k ∉ kvs.map (·.1)) (hz : kvs.length ≤ 1000)
    (h1 : ∀ p ∈ pre, p.1 ≠ d) (h2 : ∀ p ∈ post, p.1 ≠ d)
    (h : ∀ h' o' tk, Fr h₀ L h' m → News h₀ L h' (pre ++ (d, o') :: post) → DObj w o' (kvs ++ [(k, v)]) → Q () { s with heap := h', toks := tk }) :
    wpAny (model Pr w) A (setItem (.ref d) (.int k t) v) Q E s := by
  have hm := N (d, o) (by simp)
  have hst : stored kvs k v = kvs ++ [(k, v)] := by
    refine stored_absent ?_ v
    unfold valueAt
    rw [List.find?_eq_none.mpr (fun p hp => by
      rw [decide_eq_true_eq]
      exact fun q => hk (q ▸ List.mem_map_of_mem (f := fun x : Int × Value => x.1) hp))]
    rfl
  refine wpAny_setItem_pairs (knd := intKind Pr w) (k := k) (by simp [intKind, Value.isInt]) (of_dobj hm.1 x) (fun h' hd hs => ?_) (Nat.le_trans hz (by size_fits))
  obtain ⟨o', e', x'⟩ := dobj_of hd
  rw [hst] at x'
  exact h h' o' _ ⟨F.ns.sameBut hs (Ne.symm hm.2.1), fun b ob e'' => (hs.2 b (fun q => by have := hm.2.2; rw [← q, e''] at this; cases this)).trans (F.keep b ob e''), F.above⟩ (news_set N h1 h2 hs e') x'

theorem sorted_dict {Q : Value → Shared → Prop} (lo : (d == sysModules) = false) (hd : s.heap.DictOf (intKind Pr w) d kvs) (hh : A.handled = none) (F : Fr h₀ L s.heap m) (N : News h₀ L s.heap news) (hn : kvs.length < 64)
    (h : ∀ D vs c h' tk, Fr h₀ L h' m → News h₀ L h' ((D, PySem.W.listOf vs.toArray c) :: news) → (∀ q ∈ news, q.1 < D) → IntsAre vs (sortL (kvs.map (·.1))) → Q (.ref D) { s with heap := h', toks := tk }) :
    wpAny (model Pr w) A (call (.builtin "sorted") [.ref d]) Q E s := by
  obtain ⟨ep, hat⟩ := hd.dictAt
  refine kdu_sorted (kdl_dict (knd := intKind Pr w) (kvs := kvs) (ep := ep) lo) hh F N hat (Nat.le_trans (Nat.le_of_lt (by omega : kvs.length < 64)) (by size_fits)) fun D h' tk vs F' N' l1 hl hv => ?_
  have hi : IntsAre vs (kvs.map (·.1)) := by
    refine ints_of (by rw [hl, List.length_map]) fun j v n e1 e2 => ?_
    obtain ⟨k, x, e3, hk⟩ := hv j v e1
    obtain ⟨t, rfl⟩ := Value.isInt_shape hk
    rw [List.getElem?_map, e3] at e2
    have e5 : k = n := Option.some.inj e2
    exact ⟨t, by rw [e5]⟩
  refine ksk_lsort (news' := fun o => (D, o) :: news) F' N' (fun o => .head fun p hp => Nat.ne_of_lt (l1 p hp)) rfl hi (by rw [List.length_map]; exact hn) fun vs' ns' c h2 F2 N2 i2 _ p2 o2 _ => ?_
  have e := sortL_eq p2 o2
  subst e
  exact h D vs' c h2 tk F2 N2 l1 i2
abbrev tupObj (vs : List Value) : Obj := { cls := .type "tuple", data := .seq vs.toArray }
theorem tuple_of {l : Addr} {vs : List Value} {Q : Value → Shared → Prop} (F : Fr h₀ L s.heap m) (N : News h₀ L s.heap news) (hl : s.heap.IsList l vs.toArray) (hz : vs.length ≤ 1000)
    (h : ∀ T h', Fr h₀ L h' m → News h₀ L h' ((T, tupObj vs) :: news) → (∀ q ∈ news, q.1 < T) → Q (.ref T) { s with heap := h' }) :
    wpAny (model Pr w) A (call (.type "tuple") [.ref l]) Q E s :=
  call_tuple_list hl (fun h' k => h _ _ ((F.keeps k).push _) (News.push (F.keeps k) (N.grown k) _ rfl) fun q hq => Heap.lt_size (k _ _ (N q hq).1)) (Nat.le_trans (by rw [List.size_toArray]; exact hz) (by size_fits))
theorem fr_back {h₀ h g h' : Heap} {L Li : Addr} {m mi : Str → Option Value} {news : List (Addr × Obj)} (F : Fr h₀ L h m) (N : News h₀ L h news) (hX : Ext (news.map (·.1)) h g) (Fi : Fr g Li h' mi) : Fr h₀ L h' m := by
  have off : ∀ p ∈ news, p.1 ≠ L ∧ h₀.get? p.1 = none := fun p hp => (N p hp).2
  refine ⟨F.ns.at' fun o e => Fi.keep _ _ (hX _ _ e fun hm => ?_), fun b o e => Fi.keep _ _ (hX _ _ (F.keep b o e) fun hm => ?_), F.above⟩
  · obtain ⟨p, hp, q⟩ := List.mem_map.mp hm
    exact (off p hp).1 q
  · obtain ⟨p, hp, q⟩ := List.mem_map.mp hm
    have := (off p hp).2
    rw [q, e] at this; cases this
theorem news_back {h₀ h g h' : Heap} {L Li : Addr} {news news' : List (Addr × Obj)} (N : News h₀ L h news) (Ni : News g Li h' news') (hs : ∀ p ∈ news', ∃ q ∈ news, q.1 = p.1) : News h₀ L h' news' := fun p hp => by
  obtain ⟨q, hq, e⟩ := hs p hp
  have := (N q hq).2
  rw [e] at this
  exact ⟨(Ni p hp).1, this⟩
theorem same_addrs {news news' : List (Addr × Obj)} (e : news'.map (·.1) = news.map (·.1)) : ∀ p ∈ news', ∃ q ∈ news, q.1 = p.1 := fun p hp => by
  have : p.1 ∈ news'.map (·.1) := List.mem_map_of_mem hp
  rw [e] at this
  obtain ⟨q, hq, e⟩ := List.mem_map.mp this
  exact ⟨q, hq, e⟩
/-- the dict of an object with one field -/
abbrev oneField (w : World) (name : Str) (tk : Tok) (v : Value) : Obj := dictOf [{ hash := PyData.keyHash w.params name, key := .str name tk, val := v }] 1
/-- a new coverage -/
inductive CovAt (w : World) (h : Heap) (v : Value) (h' : Heap) (gs : List Int) : Prop
  | mk : ∀ x dx T vs tk, v = .ref x → h.get? x = none → h.get? dx = none → h.get? T = none → h'.get? x = some (instObj 195 dx) → h'.get? dx = some (oneField w (Str.ofString "glyphs") tk (.ref T)) → h'.get? T = some (tupObj vs) → IntsAre vs gs → T < dx → dx < x → CovAt w h v h' gs
end
end
section
set_option maxHeartbeats 800000
theorem offDelta : True := by w_top off; trivial
def dl (p : Int × Int) : Int := (p.2 - p.1) % 65536
def deltaOf : List (Int × Int) → Option Int
  | [] => some 0
  | p :: r => if r.all (fun q => dl q = dl p) then some (dl p) else none
abbrev OptV (D : Option Int) (v : Value) : Prop := (D = none ∧ v = .none) ∨ ∃ δ t, D = some δ ∧ v = .int δ t
theorem look_self {ps : List (Int × Int)} (hn : (ps.map (·.1)).Nodup) {p : Int × Int} (hp : p ∈ ps) : look ps p.1 = p.2 := by
  induction ps with
  | nil => simp at hp
  | cons q r ih =>
    simp only [List.map_cons, List.nodup_cons] at hn
    rcases List.mem_cons.mp hp with rfl | hp
    · simp [look]
    · have hne : q.1 ≠ p.1 := fun e => hn.1 (e ▸ List.mem_map_of_mem hp)
      have := ih hn.2 hp
      simpa [look, hne] using this
local macro_rules | `(tactic| walk_at "subscriptTail") => `(tactic| ((with_reducible show wpAny _ _ (subscriptTail _ _ (PySem.Value.ref _) (PySem.Value.int _ _)) _ _ _); refine sub_map (Maps.keep (by with_reducible assumption) (Fr.keep (by k_asm))) (by with_reducible assumption) ?_; intro _ _))

theorem ct_delta (w : World) (d : Addr) (ps : List (Int × Int)) : Ct w 256 [.ref d] 1 8 [] (fun h => Maps w h d ps) (fun h v h' => OptV (deltaOf ps) v) := by
  (unfold Ct; dsimp only [Pr, KK, VW]; k_fill)
  intro loose mean mg mb dp un gd cn cs a ccd cl outer A₀ base h₀ L m s Q E B F X T hk ht hP hd hu hret
  have N : News h₀ L s.heap [] := News.nil
  refine wpAny_call ?_
  k_dflt (refine' own_call (binds := [(Str.ofString "mapping", Value.ref d)]) ?k1x1 ?k2x1 ?k3x1 ?k4x1 ?k5x1 ?kAx1 ?kFx1 ?kKx1 ?k6x1 ?k7x1 ?k8x1 ?k9x1 ?kBx1 ?_ ?c2x1 ?c3x1 ?c4x1 ?c5x1; (case kAx1 => exact rfl); (case kFx1 => exact rfl); (case kKx1 => assumption); (case k1x1 => k_asm); (case k2x1 => k_asm); (case k3x1 => k_asm); (case k4x1 => k_asm); (case k5x1 => k_asm); (case k6x1 => k_is); (case k7x1 => k_is); (case k8x1 => (first | exact room0 (by assumption) | exact room2 (by assumption) (by decide) | ktr_room)); (case k9x1 => exact BindsTo.of_eq rfl); (case c5x1 => decide); (case kBx1 => exact locs rfl); (case c2x1 => exact rfl); (case c3x1 => exact rfl); (case c4x1 => exact rfl); k_whole; intro _ _ _ _ _ _ _ _ _ _; (try dsimp only); (try k_fold))
  rename_i g1 L1 h1 hX hXr F1 N1 B1 X1 T1
  refine post_var fun Q1 E1 hQ1 => ?_
  replace hret := fun v h' tk' a b => hQ1 (Flow.ret v) _ (hret v h' tk' a b)
  clear hQ1
  have hP1 : Maps w g1 d ps := hP.keep fun b o e => hX _ _ e List.not_mem_nil
  obtain ⟨od, hod⟩ : ∃ o, g1.get? d = some o := by
    obtain ⟨_, kvs, ⟨o, _, _, e, _⟩, _⟩ := hP1
    exact ⟨o, e⟩
  walk_at "glyph walk"
  rename_i FB NB
  refine for_iter g1 (by with_unfolding_all rfl) (by with_unfolding_all rfl) ?_ (by intro _; with_unfolding_all rfl)
  walk_at "glyph walk"
  refine ⟨[d], ps.length, _, _, [], fun i m news => news = [] ∧ m (Str.ofString "mapping") = some (Value.ref d) ∧ ((i = 0 ∧ m (Str.ofString "delta") = some Value.none) ∨ ∃ p r t, ps = p :: r ∧ (∀ q ∈ ps.take i, dl q = dl p) ∧ m (Str.ofString "delta") = some (.int (dl p) t)),
    rfl, iter_map (hP1.keep FB.keep), ?_, FB, News.nil, (fun p hp => nomatch hp), ⟨rfl, by with_unfolding_all rfl, .inl ⟨rfl, by with_unfolding_all rfl⟩⟩, ?_, ?_⟩
  · intro q; exact not_frame FB hod (List.mem_singleton.mp q)
  · intro i x' m₁ news₁ own h tk hin hPx hJ hsep F N
    refine post_varQ fun Q2 hQ2 => ?_
    obtain ⟨rfl, hm1, hJ⟩ := hJ
    obtain ⟨p, tp, hpi, rfl⟩ := hPx
    have hpm : p ∈ ps := List.mem_of_getElem? hpi
    have hkm : p.1 ∈ ps.map (·.1) := List.mem_map_of_mem hpm
    have hlk : look ps p.1 = p.2 := look_self hP1.nodup hpm
    have hdl : (look ps p.1 - p.1).fmod 65536 = dl p := by rw [hlk, Int.fmod_eq_emod_of_nonneg _ (by decide)]; rfl
    have htk : ps.take (i + 1) = ps.take i ++ [p] := by rw [List.take_add_one, hpi]; rfl
    rcases hJ with ⟨rfl, hm2⟩ | ⟨p0, r, t0, hps, hall, hm2⟩
    · replace F := fr_know2 F (a := Str.ofString "mapping") (b := Str.ofString "delta") (v := .ref d) (u := .none) (by rw [if_neg (by decide)]; exact hm1) (by rw [if_neg (by decide)]; exact hm2)
      walk_at "glyph walk"
      rename_i F2 N2
      obtain ⟨t2, ht2⟩ := fr_has F2 (fun M => ∃ t, M (Str.ofString "delta") = some (Value.int ((look ps p.1 - p.1).fmod 65536) t)) ⟨_, by with_unfolding_all rfl⟩
      obtain ⟨r, hr⟩ : ∃ r, ps = p :: r := by
        cases ps with
        | nil => simp at hpi
        | cons q r => exact ⟨r, by simp at hpi; rw [hpi]⟩
      refine turnEndV (hQ2 .next _) [] F2 N2 (fun p hp => nomatch hp) (fun p hp => hp) hsep ⟨rfl, by with_unfolding_all rfl, .inr ⟨p, r, t2, hr, ?_, ?_⟩⟩
      · intro q hq
        rw [htk] at hq
        simp at hq
        rw [hq]
      · rw [← hdl]; exact ht2
    · replace F := fr_know2 F (a := Str.ofString "mapping") (b := Str.ofString "delta") (v := .ref d) (u := .int (dl p0) t0) (by rw [if_neg (by decide)]; exact hm1) (by rw [if_neg (by decide)]; exact hm2)
      walk_at "glyph walk"
      · rename_i F2 N2 hne
        refine hQ2 _ _ (hret _ _ _ (ext_of hX F2) (.inl ⟨?_, rfl⟩))
        rw [hps]
        show (if (r.all fun q => decide (dl q = dl p0)) = true then some (dl p0) else none) = none
        rw [if_neg]
        intro hq
        rw [List.all_eq_true] at hq
        rw [hdl] at hne
        rw [hps] at hpm
        rcases List.mem_cons.mp hpm with rfl | hpm
        · exact hne rfl
        · exact hne (by simpa using hq p hpm)
      · rename_i heq _ F2 N2
        obtain ⟨t2, ht2⟩ := fr_has F2 (fun M => ∃ t, M (Str.ofString "delta") = some (Value.int ((look ps p.1 - p.1).fmod 65536) t)) ⟨_, by with_unfolding_all rfl⟩
        refine turnEndV (hQ2 .next _) [] F2 N2 (fun p hp => nomatch hp) (fun p hp => hp) hsep ⟨rfl, by with_unfolding_all rfl, .inr ⟨p0, r, t2, hps, ?_, ?_⟩⟩
        · intro q hq
          rw [htk] at hq
          rcases List.mem_append.mp hq with hq | hq
          · exact hall q hq
          · rw [List.mem_singleton.mp hq, ← hdl, heq]
        · rw [← heq]; exact ht2
  · rintro m' news' h tk ⟨rfl, hm1, ⟨hi, hm2⟩ | ⟨p0, r, t0, hps, hall, hm2⟩⟩ F N
    · replace F := fr_know F hm2
      walk_at "glyph walk"
      refine hret _ _ _ (ext_of hX F) (.inr ⟨0, _, ?_, rfl⟩)
      rw [List.length_eq_zero_iff.mp hi]
      rfl
    · replace F := fr_know F hm2
      walk_at "glyph walk"
      refine hret _ _ _ (ext_of hX F) (.inr ⟨dl p0, _, ?_, rfl⟩)
      rw [List.take_of_length_le (Nat.le_refl _)] at hall
      rw [hps]
      show (if (r.all fun q => decide (dl q = dl p0)) = true then some (dl p0) else none) = some (dl p0)
      rw [if_pos]
      rw [List.all_eq_true]
      intro q hq
      simpa using hall q (hps ▸ List.mem_cons_of_mem _ hq)
end
section
set_option maxHeartbeats 4000000
theorem offPair : True := by w_top off; trivial
theorem ct_pair (w : World) (n : Int) (t : Tok) : Ct w 281 [.int n t] 1 8 [] (fun _ => True) (fun h v h' => NewInts h v h' (oct2 n)) := by
  (unfold Ct; dsimp only [Pr, KK, VW]; k_fill)
  intro loose mean mg mb dp un gd cn cs a ccd cl outer A₀ base h₀ L m s Q E B F X T hk ht hP hd hu hret
  have N : News h₀ L s.heap [] := News.nil
  refine wpAny_call ?_
  k_dflt (refine' own_call (binds := [(Str.ofString "number", Value.int n t)]) ?k1x3 ?k2x3 ?k3x3 ?k4x3 ?k5x3 ?kAx3 ?kFx3 ?kKx3 ?k6x3 ?k7x3 ?k8x3 ?k9x3 ?kBx3 ?_ ?c2x3 ?c3x3 ?c4x3 ?c5x3; (case kAx3 => exact rfl); (case kFx3 => exact rfl); (case kKx3 => assumption); (case k1x3 => k_asm); (case k2x3 => k_asm); (case k3x3 => k_asm); (case k4x3 => k_asm); (case k5x3 => k_asm); (case k6x3 => k_is); (case k7x3 => k_is); (case k8x3 => (first | exact room0 (by assumption) | exact room2 (by assumption) (by decide) | ktr_room)); (case k9x3 => exact BindsTo.of_eq rfl); (case c5x3 => decide); (case kBx3 => exact locs rfl); (case c2x3 => exact rfl); (case c3x3 => exact rfl); (case c4x3 => exact rfl); k_whole; intro _ _ _ _ _ _ _ _ _ _; (try dsimp only); (try k_fold))
  rename_i g1 L1 h1 hX hXr F1 N1 B1 X1 T1
  k_steps
  rename_i F2 N2 _
  rw [Int.fdiv_eq_ediv_of_nonneg n (by decide), Int.fmod_eq_emod_of_nonneg n (by decide)] at N2
  exact hret _ _ _ (ext_of hX F2) ⟨_, [_, _], _, rfl, fresh_of hX N2 (.head _) List.not_mem_nil, (N2 _ (.head _)).1, .cons _ _ (.cons _ _ .nil)⟩
end
section
set_option maxHeartbeats 800000
theorem offNumOct : True := by w_top off; trivial
theorem paired_two {α β : Type} {F : α → β → Prop} {l : List α} {r : List β} (h : Paired F l r) (hl : l.length = 2) : ∃ a b c d, l = [a, b] ∧ r = [c, d] ∧ F a c ∧ F b d := by
  cases h with
  | nil => cases hl
  | cons h1 t1 =>
    cases t1 with
    | nil => cases hl
    | cons h2 t2 =>
      cases t2 with
      | nil => exact ⟨_, _, _, _, rfl, rfl, h1, h2⟩
      | cons h3 t3 => cases hl
theorem numOct_ys {n : Int} {vs ys : List Value} (hn : 0 ≤ n ∧ n < 65536) (hp : Paired (fun v y => ∃ p t t', v = .int p t ∧ y = .int (Builtin.bitAnd (n.fdiv (2 ^ (8 * p).toNat)) 255) t') vs ys) (hlen : vs.length = 2)
    (h : ∀ (j : Nat) v, vs[j]? = some v → j < 2 ∧ ∃ t, v = .int (2 - 1 + (j : Int) * -1) t) : ∃ t4 t5, ys = [.int (n / 256) t4, .int (n % 256) t5] := by
  obtain ⟨v0, v1, y0, y1, rfl, rfl, q0, q1⟩ := paired_two hp hlen
  obtain ⟨_, t0, rfl⟩ := h 0 _ rfl
  obtain ⟨_, t1, rfl⟩ := h 1 _ rfl
  obtain ⟨_, _, t4, e0, rfl⟩ := q0
  obtain ⟨_, _, t5, e1, rfl⟩ := q1
  cases e0
  cases e1
  exact ⟨t4, t5, by rw [oct_hi hn, oct_lo hn]⟩
theorem ct_numOct (w : World) (n : Int) (t t2 : Tok) : Ct w 68 [.int n t, .int 2 t2] 1 8 [] (fun _ => 0 ≤ n ∧ n < 65536) (fun h v h' => ∃ t, v = .bytes (toB (oct2 n)) t) := by
  (unfold Ct; dsimp only [Pr, KK, VW]; k_fill)
  intro loose mean mg mb dp un gd cn cs a ccd cl outer A₀ base h₀ L m s Q E B F X T hk ht hP hd hu hret
  have N : News h₀ L s.heap [] := News.nil
  refine wpAny_call ?_
  have hz : n.fdiv (2 ^ ((8 : Int) * 2).toNat) = 0 := by
    rw [Int.fdiv_eq_ediv_of_nonneg _ (by decide)]
    exact Int.ediv_eq_zero_of_lt hP.1 (by have : (2 : Int) ^ ((8 : Int) * 2).toNat = 65536 := by decide
                                          omega)
  k_dflt (refine' own_callC (binds := [(Str.ofString "number", Value.int n t), (Str.ofString "count", Value.int 2 t2)]) ?k1 ?k2 ?k3 ?k4 ?k5 ?kA ?kF ?kK ?k6 ?k7 ?k8 ?k9 ?kB ?kD ?_ ?c2 ?c3 ?c4; (case kA => exact rfl); (case kF => exact rfl); (case kK => assumption); (case k1 => k_asm); (case k2 => k_asm); (case k3 => k_asm); (case k4 => k_asm); (case k5 => k_asm); (case k6 => k_is); (case k7 => k_is); (case k8 => first | exact room0 (by assumption) | ktr_room); (case k9 => exact BindsTo.of_eq rfl); (case kB => exact rfl); (case kD => decide); (case c2 => exact rfl); (case c3 => exact rfl); (case c4 => exact rfl); k_whole)
  intro g1 L1 h1 tk1 cells9 hX hXr F1 N1 Y9 B1 X1 T1 hlt1
  (try k_lt hlt1)
  k_cells Y9
  (try simp only [List.cons_append, List.nil_append] at N1)
  (try dsimp only)
  (try k_fold)
  rename_i o1 d1
  walk_at "glyph walk"
  refine comp_vals (h₀ := g1) (L := L1) (cl := [(Str.ofString "number", L1 + 1)]) (fun v y => ∃ p t t', v = .int p t ∧ y = .int (Builtin.bitAnd (n.fdiv (2 ^ (8 * p).toNat)) 255) t') (by with_unfolding_all rfl) (by decide) rfl (by decide) rfl ?_ (by intro _; with_unfolding_all rfl)
  walk_at "glyph walk"
  rename_i h2 tk2 t3 u3 v3 hr F2 N2 k2
  refine ⟨[], 2, _, _, _, rfl, (iter_range 2 hr (by decide) (by decide)).bound, List.not_mem_nil, by size_fits, F2, N2, (by simp), ?_, ?_⟩
  · intro C i x' s₃ m₃ E' hC hP hn hm hk
    obtain ⟨hi, t', rfl⟩ := hP
    obtain rfl | rfl : i = 0 ∨ i = 1 := by omega
    all_goals
      refine wpAny_BinOp (wpAny_BinOp (ldCellK rfl (isCell_at ⟨o1, (N2 _ (.head _)).1, d1⟩ hk) (wpAny_BinOp (wpAny_Constant_int (ldVarK hn hm (PyProof.Rows.mul_int (rshift_int (by decide) (wpAny_Constant_int (and_int ?_))))))) ))
      exact ⟨⟨_, _, _, rfl, rfl⟩, _, _, rfl, fun _ _ e => e⟩
  · intro vs ys hp hlen hP3 D h3 tk3 k3 F3 N3 hD
    have hy := numOct_ys hP hp hlen hP3
    clear hp hlen hP3
    obtain ⟨t4, t5, rfl⟩ := hy
    walk_at "glyph walk"
    rename_i F4 _ _ _ _
    exact hret _ _ _ (ext_of hX F4) ⟨_, rfl⟩
end
section
set_option maxHeartbeats 800000
theorem offRanges : True := by w_top off; trivial
local macro_rules | `(tactic| walk_at "subscriptTail") => `(tactic| ((with_reducible show wpAny _ _ (subscriptTail _ _ (PySem.Value.ref _) (PySem.Value.int (-1) _)) _ _ _); refine sub_last (by k_asm) (by k_mem) ?_))
local macro_rules | `(tactic| walk_at "truthy ref") => `(tactic| first | (refine truthy_snoc (by k_asm) (by k_mem) (by assumption) ?_; intro _) | (refine truthy_nil (by k_asm) (by k_mem) ?_; intro _))
local macro_rules | `(tactic| k_all) => `(tactic| assumption)
inductive RanP (gs : List Int) (h : Heap) (v : Value) (h' : Heap) : Prop
  | mk : ∀ R tl k, v = .ref R → h.get? R = none → h'.get? R = some (PySem.W.listOf (refs tl).toArray k) → Pairs2 tl (spansOf gs) → (∀ p ∈ tl, h.get? p.1 = none ∧ h'.get? p.1 = some p.2 ∧ p.1 ≠ R) → RanP gs h v h'
inductive RanJ (R gt : Addr) (gs : List Int) (i : Nat) (m : Str → Option Value) (news : List (Addr × Obj)) : Prop
  | mk : ∀ (tl : List (Addr × Obj)) (k : Nat) (u : Str → Option Value), m = (fun z => if z = Str.ofString "glyph" then u z else (fun y => if y = Str.ofString "ranges" then some (Value.ref R) else List.lookup y [(Str.ofString "glyphs", Value.ref gt)].reverse) z) → news = (R, PySem.W.listOf (refs tl).toArray k) :: tl → Pairs2 tl (spansOf (gs.take i)) → (∀ p ∈ tl, p.1 ≠ R) → RanJ R gt gs i m news
theorem ct_ranges (w : World) (gt : Addr) (vs : List Value) (gs : List Int) (hi : IntsAre vs gs) (hlen : gs.length ≤ 64) :
    Ct w 213 [.ref gt] 1 8 [] (fun h => h.IsTuple gt vs.toArray) (RanP gs) := by
  (unfold Ct; dsimp only [Pr, KK, VW]; k_fill)
  intro loose mean mg mb dp un gd cn cs a ccd cl outer A₀ base h₀ L m s Q E B F X T hk ht hP hd hu hret
  have N : News h₀ L s.heap [] := News.nil
  refine wpAny_call ?_
  k_dflt (refine' own_call (binds := [(Str.ofString "glyphs", Value.ref gt)]) ?k1x6 ?k2x6 ?k3x6 ?k4x6 ?k5x6 ?kAx6 ?kFx6 ?kKx6 ?k6x6 ?k7x6 ?k8x6 ?k9x6 ?kBx6 ?_ ?c2x6 ?c3x6 ?c4x6 ?c5x6; (case kAx6 => exact rfl); (case kFx6 => exact rfl); (case kKx6 => assumption); (case k1x6 => k_asm); (case k2x6 => k_asm); (case k3x6 => k_asm); (case k4x6 => k_asm); (case k5x6 => k_asm); (case k6x6 => k_is); (case k7x6 => k_is); (case k8x6 => (first | exact room0 (by assumption) | exact room2 (by assumption) (by decide) | ktr_room)); (case k9x6 => exact BindsTo.of_eq rfl); (case c5x6 => decide); (case kBx6 => exact locs rfl); (case c2x6 => exact rfl); (case c3x6 => exact rfl); (case c4x6 => exact rfl); k_whole; intro _ _ _ _ _ _ _ _ _ _; (try dsimp only); (try k_fold))
  rename_i g1 L1 h1 hX hXr F1 N1 B1 X1 T1
  refine post_var fun Q1 E1 hQ1 => ?_
  replace hret := fun v h' tk' a b => hQ1 (Flow.ret v) _ (hret v h' tk' a b)
  clear hQ1
  have hP1 : g1.IsTuple gt vs.toArray := hP.at fun o e => hX _ _ e List.not_mem_nil
  walk_at "glyph walk"
  rename_i R hA lA hB FB NB
  refine for_iter g1 (by with_unfolding_all rfl) (by with_unfolding_all rfl) ?_ (by intro _; with_unfolding_all rfl)
  walk_at "glyph walk"
  have hvl := hi.length
  refine ⟨[gt], vs.toArray.size, _, _, _, RanJ R gt gs,
    rfl, iter_tuple (hP1.at fun o e => FB.keep _ _ e), ?_, FB, NB, ?_, ⟨[], 0, _, (funext fun z => (ite_self _).symm), rfl, .nil, fun p hp => nomatch hp⟩, ?_, ?_⟩
  · obtain ⟨o, e, _⟩ := hP1
    intro q; exact not_frame FB e (List.mem_singleton.mp q)
  · obtain ⟨o, e, _⟩ := hP1
    intro p hp q; exact not_led NB e p hp (List.mem_singleton.mp q)
  · intro i x' m₁ news₁ own h tk hin hPx hJ hsep F N
    refine post_varQ fun Q2 hQ2 => ?_
    obtain ⟨tl, k, u, rfl, rfl, hp, hne⟩ := hJ
    obtain ⟨g, tg, hg, rfl⟩ := ints_at hi (by simpa using hPx)
    replace F := fr_again F
    have hlen2 := spansOf_len (gs.take i)
    have hlen3 := hp.length
    rcases List.eq_nil_or_concat tl with rfl | ⟨tl0, ⟨T2, o2⟩, rfl⟩
    · simp only [List.map_cons, List.map_nil, List.cons_append, List.nil_append, refs] at hsep N
      have e0 : spansOf (gs.take i) = [] := paired_nil hp
      walk_at "glyph walk"
      rename_i D2 hx2 l2 h2 F2 N2
      have N3 : News g1 L1 h2 ((R, PySem.W.listOf (refs [(D2, pairObj (Value.int g tg) (Value.int g tg))]).toArray (k + 1)) :: (D2, pairObj (Value.int g tg) (Value.int g tg)) :: own) := news_swap N2
      refine turnEndV (hQ2 .next _) [(R, PySem.W.listOf (refs [(D2, pairObj (Value.int g tg) (Value.int g tg))]).toArray (k + 1)), (D2, pairObj (Value.int g tg) (Value.int g tg))] F2 N3 ?_ ?_ ?_ ⟨[(D2, _)], _, fun _ => some (Value.int g tg), rfl, rfl, ?_, ?_⟩
      · intro p hp; exact List.mem_append_left own hp
      · intro p hp; exact List.mem_cons_of_mem _ (List.mem_cons_of_mem _ hp)
      · exact off_cons (fun p hp => hsep p hp R (by simp)) (off_lt l2.2 off_nil)
      · rw [spansOf_succ hg, e0]
        exact .cons ⟨_, _, rfl⟩ .nil
      · intro p hp; rw [List.mem_singleton.mp hp]; exact Nat.ne_of_gt l2.1
    · rw [List.concat_eq_append] at *
      obtain ⟨acc, q, eq, hp0, t1, t2, eo⟩ := paired_snoc hp
      simp only at eo
      subst eo
      have eR : refs (tl0 ++ [(T2, pairObj (Value.int q.1 t1) (Value.int q.2 t2))]) = refs tl0 ++ [Value.ref T2] := by simp [refs]
      have hTR : T2 ≠ R := hne (T2, pairObj (Value.int q.1 t1) (Value.int q.2 t2)) (List.mem_append_right _ (.head _))
      rw [eR] at N
      have N2 : News g1 L1 h ((R, PySem.W.listOf (refs tl0 ++ [Value.ref T2]).toArray k) :: (T2, pairObj (Value.int q.1 t1) (Value.int q.2 t2)) :: (tl0 ++ own)) := fun p hp => N p (by
        simp only [List.cons_append, List.mem_cons, List.mem_append, List.append_assoc, List.nil_append] at hp ⊢
        rcases hp with h | h | h | h
        · exact .inl h
        · exact .inr (.inr (.inl h))
        · exact .inr (.inl h)
        · exact .inr (.inr (.inr h)))
      clear N
      have hR : ∀ p ∈ tl0 ++ own, p.1 ≠ R := fun p hp => by
        rcases List.mem_append.mp hp with h | h
        · exact hne p (by simp [h])
        · exact hsep p h R (by simp)
      generalize hrest : tl0 ++ own = rest at N2 hR
      have hz : (refs tl0).length ≤ 64 := by
        simp only [List.length_append, List.length_singleton, List.length_take] at hlen3 hlen2
        simp only [List.length_map]
        omega
      by_cases hb : q.2 + 1 = g
      · walk_at "glyph walk"
        · rename_i tz ab D2 h2 F2 N3 l2
          refine set_last (pre := [(D2, _)]) F2 N3 ?_ ?_ fun h3 F3 N4 => ?_
          · intro p hp; rw [List.mem_singleton.mp hp]; exact Nat.ne_of_gt l2.1
          · intro p hp
            rcases List.mem_cons.mp hp with rfl | hp
            · exact hTR
            · exact hR p hp
          walk_at "glyph walk"
          subst hrest
          have N5 : News g1 L1 h3 ((D2, pairObj (Value.int q.1 t1) (Value.int g tg)) :: (R, PySem.W.listOf (refs (tl0 ++ [(D2, pairObj (Value.int q.1 t1) (Value.int g tg))])).toArray k) :: (T2, pairObj (Value.int q.1 t1) (Value.int q.2 t2)) :: (tl0 ++ own)) := by
            have e : refs (tl0 ++ [(D2, pairObj (Value.int q.1 t1) (Value.int g tg))]) = refs tl0 ++ [Value.ref D2] := by simp [refs]
            rw [e]; exact N4
          refine turnEndV (hQ2 .next _) ((R, PySem.W.listOf (refs (tl0 ++ [(D2, pairObj (Value.int q.1 t1) (Value.int g tg))])).toArray k) :: (tl0 ++ [(D2, pairObj (Value.int q.1 t1) (Value.int g tg))])) F3 N5 (fun p hp => ?_) (fun p hp => ?_) ?_ ⟨tl0 ++ [(D2, _)], _, fun _ => some (Value.int g tg), rfl, rfl, ?_, fun p hp => ?_⟩
          · rcases List.mem_cons.mp hp with rfl | hp
            · exact .tail _ (.head _)
            · rcases List.mem_append.mp hp with hp | hp
              · exact .tail _ (.tail _ (.tail _ (List.mem_append_left _ hp)))
              · rw [List.mem_singleton.mp hp]; exact .head _
          · exact .tail _ (.tail _ (.tail _ (List.mem_append_right _ hp)))
          · refine off_cons (fun p hp => hR p (List.mem_append_right _ hp)) fun p hp b hb => ?_
            obtain ⟨z, hz, rfl⟩ := List.mem_map.mp hb
            rcases List.mem_append.mp hz with hz | hz
            · exact hsep p hp _ (.tail _ (List.mem_map_of_mem (List.mem_append_left _ hz)))
            · rw [List.mem_singleton.mp hz]
              exact Nat.ne_of_lt (allLt_mem l2.2.2 p (List.mem_append_right _ hp))
          · rw [spansOf_succ hg, eq, spanStep_snoc, if_pos hb]
            exact hp0.snoc ⟨_, _, rfl⟩
          · rcases List.mem_append.mp hp with hp | hp
            · exact hR p (List.mem_append_left _ hp)
            · rw [List.mem_singleton.mp hp]; exact Nat.ne_of_gt l2.1
        · exact absurd hb (by assumption)
      · walk_at "glyph walk"
        rename_i tz ab D2 hx2 l2 h3 F3 N4
        subst hrest
        have N5 : News g1 L1 h3 ((D2, pairObj (Value.int g tg) (Value.int g tg)) :: (R, PySem.W.listOf (refs (tl0 ++ [(T2, pairObj (Value.int q.1 t1) (Value.int q.2 t2))] ++ [(D2, pairObj (Value.int g tg) (Value.int g tg))])).toArray (k + 1)) :: (T2, pairObj (Value.int q.1 t1) (Value.int q.2 t2)) :: (tl0 ++ own)) := by
          have e : (refs (tl0 ++ [(T2, pairObj (Value.int q.1 t1) (Value.int q.2 t2))] ++ [(D2, pairObj (Value.int g tg) (Value.int g tg))])).toArray = (refs tl0 ++ [Value.ref T2]).toArray.push (Value.ref D2) := by simp [refs]
          rw [e]; exact N4
        refine turnEndV (hQ2 .next _) ((R, PySem.W.listOf (refs (tl0 ++ [(T2, pairObj (Value.int q.1 t1) (Value.int q.2 t2))] ++ [(D2, pairObj (Value.int g tg) (Value.int g tg))])).toArray (k + 1)) :: (tl0 ++ [(T2, pairObj (Value.int q.1 t1) (Value.int q.2 t2))] ++ [(D2, pairObj (Value.int g tg) (Value.int g tg))])) F3 N5
          (fun p hp => ?_) (fun p hp => ?_) ?_ ⟨tl0 ++ [(T2, _)] ++ [(D2, _)], _, fun _ => some (Value.int g tg), rfl, rfl, ?_, fun p hp => ?_⟩
        · rcases List.mem_cons.mp hp with rfl | hp
          · exact .tail _ (.head _)
          · rcases List.mem_append.mp hp with hp | hp
            · rcases List.mem_append.mp hp with hp | hp
              · exact .tail _ (.tail _ (.tail _ (List.mem_append_left _ hp)))
              · rw [List.mem_singleton.mp hp]; exact .tail _ (.tail _ (.head _))
            · rw [List.mem_singleton.mp hp]; exact .head _
        · exact .tail _ (.tail _ (.tail _ (List.mem_append_right _ hp)))
        · refine off_cons (fun p hp => hR p (List.mem_append_right _ hp)) fun p hp b hb => ?_
          obtain ⟨z, hz, rfl⟩ := List.mem_map.mp hb
          rcases List.mem_append.mp hz with hz | hz
          · exact hsep p hp _ (.tail _ (List.mem_map_of_mem hz))
          · rw [List.mem_singleton.mp hz]
            exact Nat.ne_of_lt (allLt_mem l2.2.2 p (List.mem_append_right _ hp))
        · rw [spansOf_succ hg, eq, spanStep_snoc, if_neg hb, ← eq]
          exact hp.snoc ⟨_, _, rfl⟩
        · rcases List.mem_append.mp hp with hp | hp
          · exact hne p hp
          · rw [List.mem_singleton.mp hp]; exact Nat.ne_of_gt l2.1
  · rintro m' news' h tk ⟨tl, k, u, rfl, rfl, hp, hne⟩ F N
    walk_at "glyph walk"
    rw [List.take_of_length_le (by rw [List.size_toArray]; omega)] at hp
    exact hret _ _ _ (ext_of hX F) ⟨R, tl, k, rfl, fresh_of hX N (.head _) List.not_mem_nil, (N _ (.head _)).1, hp, fun p hp => ⟨fresh_of hX N (.tail _ hp) List.not_mem_nil, (N _ (.tail _ hp)).1, hne p hp⟩⟩
end
section
set_option maxHeartbeats 800000
theorem offDraw : True := by w_top off; trivial
/-- the pot of a law's script -/
inductive PotAt (n : Int) (h : Heap) (P C : Addr) : Prop
  | mk : P ≠ C → ∀ a b t1 t2 k cs ns kc, h.get? P = some (PySem.W.listOf #[.ref C, .int a t1, .int b t2] k) → h.get? C = some (PySem.W.listOf (List.toArray cs) kc) → IntsAre cs ns → ns.length ≤ 63 → 0 ≤ b → b ≤ n → PotAt n h P C

theorem ct_draw (w : World) (P C : Addr) (lim n : Int) (tl : Tok) (hl : 0 < lim ∧ lim ≤ 65536) (hn1 : n ≤ 1000) : Ct w 274 [.ref P, .int lim tl] 1 8 [P, C] (fun h => PotAt n h P C) (fun _ v h' => PotAt (n + 1) h' P C ∧ ∃ r t, v = .int r t ∧ 0 ≤ r ∧ r < lim) := by
  (unfold Ct; dsimp only [Pr, KK, VW]; k_fill)
  intro loose mean mg mb dp un gd cn cs' a ccd cl outer A₀ base h₀ L m s Q E B F X T hk ht hP hd hu hret
  obtain ⟨hPC, st, pl, t1, t2, k, cs, ns, kc, hp1, hp2, hi, hn, hb0, hbn⟩ := hP
  have N : News h₀ L s.heap [(P, PySem.W.listOf #[.ref C, .int st t1, .int pl t2] k), (C, PySem.W.listOf cs.toArray kc)] := by
    intro p hp
    rcases List.mem_cons.mp hp with rfl | hp
    · exact ⟨hp1, (ht P (.head _)).2, (ht P (.head _)).1⟩
    · rw [List.mem_singleton.mp hp]; exact ⟨hp2, (ht C (.tail _ (.head _))).2, (ht C (.tail _ (.head _))).1⟩
  have hCP : C ≠ P := Ne.symm hPC
  refine wpAny_call ?_
  k_dflt (refine' own_call (binds := [(Str.ofString "pot", Value.ref P), (Str.ofString "limit", Value.int lim tl)]) ?k1x8 ?k2x8 ?k3x8 ?k4x8 ?k5x8 ?kAx8 ?kFx8 ?kKx8 ?k6x8 ?k7x8 ?k8x8 ?k9x8 ?kBx8 ?_ ?c2x8 ?c3x8 ?c4x8 ?c5x8; (case kAx8 => exact rfl); (case kFx8 => exact rfl); (case kKx8 => assumption); (case k1x8 => k_asm); (case k2x8 => k_asm); (case k3x8 => k_asm); (case k4x8 => k_asm); (case k5x8 => k_asm); (case k6x8 => k_is); (case k7x8 => k_is); (case k8x8 => (first | exact room0 (by assumption) | exact room2 (by assumption) (by decide) | ktr_room)); (case k9x8 => exact BindsTo.of_eq rfl); (case c5x8 => decide); (case kBx8 => exact locs rfl); (case c2x8 => exact rfl); (case c3x8 => exact rfl); (case c4x8 => exact rfl); k_whole; intro _ _ _ _ _ _ _ _ _ _; (try dsimp only); (try k_fold))
  rename_i g1 L1 h1 hX hXr F1 N1 B1 X1 T1
  refine post_var fun Q1 E1 hQ1 => ?_
  replace hret := fun v h' tk' a b => hQ1 (Flow.ret v) _ (hret v h' tk' a b)
  clear hQ1
  have hlen := hi.length
  have hlim := hl.1
  have hlim2 := hl.2
  have hr : ∀ x : Int, 0 ≤ x.fmod lim ∧ x.fmod lim < lim := fun x => by
    rw [Int.fmod_eq_emod_of_nonneg _ (by omega)]
    exact ⟨Int.emod_nonneg _ (by omega), Int.emod_lt_of_pos _ hlim⟩
  have fin : ∀ (m' : Str → Option Value) (h' : Heap) (st' : Int) (u1 u2 : Tok) (k' kc' : Nat) (cs2 : List Value) (ns2 : List Int) (tk' : Nat) (v : Int) (t : Tok), Fr g1 L1 h' m' → News g1 L1 h' [(P, PySem.W.listOf #[.ref C, .int st' u1, .int (pl + 1) u2] k'), (C, PySem.W.listOf cs2.toArray kc')] → IntsAre cs2 ns2 → ns2.length ≤ 63 →
      Q1 (.ret (.int (v.fmod lim) t)) { s with heap := h', toks := tk' } := fun m' h' st' u1 u2 k' kc' cs2 ns2 tk' v t F2 N2 i2 l2 =>
    hret _ _ _ (ext_of hX F2) ⟨⟨hPC, st', pl + 1, u1, u2, k', cs2, ns2, kc', (N2 _ (.head _)).1, (N2 _ (.tail _ (.head _))).1, i2, l2, by omega, by omega⟩, _, _, rfl, hr v⟩
  walk_at "glyph walk"
  · rename_i F2 N2 i2 l2 _
    exact fin _ _ _ _ _ _ _ _ _ _ _ _ F2 N2 i2 (by rw [l2]; exact hn)
  · rename_i F2 N2
    exact fin _ _ _ _ _ _ _ _ _ _ _ _ F2 N2 hi hn
  · rename_i F2 N2
    exact fin _ _ _ _ _ _ _ _ _ _ _ _ F2 N2 hi hn
end
section
set_option maxHeartbeats 800000
theorem offCover : True := by w_top off; trivial
local macro_rules | `(tactic| walk_at "subscriptTail") => `(tactic| ((with_reducible show wpAny _ _ (subscriptTail _ _ (PySem.Value.ref _) (PySem.Value.int (-1) _)) _ _ _); refine sub_last (by k_asm) (by k_mem) ?_))
local macro_rules | `(tactic| walk_at "truthy ref") => `(tactic| first | (refine truthy_snoc (by k_asm) (by k_mem) (by assumption) ?_; intro _) | (refine truthy_nil (by k_asm) (by k_mem) ?_; intro _))
local macro_rules | `(tactic| k_all) => `(tactic| assumption)
abbrev lpairObj (a b : Value) : Obj := PySem.W.listOf #[a, b] 0
abbrev intLPair (o : Obj) (p : Int × Int) : Prop := ∃ t1 t2, o = lpairObj (.int p.1 t1) (.int p.2 t2)
abbrev Pairs2L (tl : List (Addr × Obj)) (ps : List (Int × Int)) : Prop := Paired (fun p q => intLPair p.2 q) tl ps

inductive CovA (R gt : Addr) (gs : List Int) (i : Nat) (m : Str → Option Value) (news : List (Addr × Obj)) : Prop
  | mk : ∀ (tl : List (Addr × Obj)) (k : Nat) (u : Str → Option Value), m = (fun z => if z = Str.ofString "glyph" then u z else (fun y => if y = Str.ofString "spans" then some (Value.ref R) else List.lookup y [(Str.ofString "glyphs", Value.ref gt)].reverse) z) → news = (R, PySem.W.listOf (refs tl).toArray k) :: tl → Pairs2L tl (spansOf (gs.take i)) → (∀ p ∈ tl, p.1 ≠ R) → tl.Pairwise (fun p q => p.1 ≠ q.1) → CovA R gt gs i m news
inductive CovB (O R gt : Addr) (gs : List Int) (i : Nat) (m : Str → Option Value) (news : List (Addr × Obj)) : Prop
  | mk : ∀ (vsO : List Value) (kO : Nat) (u : Str → Option Value), m = (fun z => if z = Str.ofString "glyph" then u z else (fun y => if y = Str.ofString "octets" then some (Value.ref O) else if y = Str.ofString "spans" then some (Value.ref R) else List.lookup y [(Str.ofString "glyphs", Value.ref gt)].reverse) z) → news = [(O, PySem.W.listOf vsO.toArray kO)] → IntsAre vsO (oct2 1 ++ oct2 gs.length ++ (gs.take i).flatMap oct2) → CovB O R gt gs i m news
inductive CovC (O2 : Addr) (tl : List (Addr × Obj)) (gs : List Int) (i : Nat) (m : Str → Option Value) (news : List (Addr × Obj)) : Prop
  | mk : ∀ (vsO : List Value) (kO : Nat) (ti : Tok) (M : Str → Option Value), m = M → news = (O2, PySem.W.listOf vsO.toArray kO) :: tl → IntsAre vsO (((spansOf gs).take i).foldl spanFold (oct2 2 ++ oct2 (spansOf gs).length, 0)).1 → M (Str.ofString "octets") = some (Value.ref O2) → M (Str.ofString "index") = some (Value.int (((spansOf gs).take i).foldl spanFold (oct2 2 ++ oct2 (spansOf gs).length, 0)).2 ti) → vsO.length = 4 + 6 * i → CovC O2 tl gs i m news
theorem ct_cover (w : World) (gt : Addr) (vs : List Value) (gs : List Int) (hi : IntsAre vs gs) (hlen : gs.length ≤ 64) :
    Ct w 293 [.ref gt] 2 16 [] (fun h => h.IsList gt vs.toArray) (fun h v h' => NewInts h v h' (coverL gs)) := by
  (unfold Ct; dsimp only [Pr, KK, VW]; k_fill)
  intro loose mean mg mb dp un gd cn cs a ccd cl outer A₀ base h₀ L m s Q E B F X T hk ht hP hd hu hret
  have N : News h₀ L s.heap [] := News.nil
  refine wpAny_call ?_
  k_dflt (refine' own_call (binds := [(Str.ofString "glyphs", Value.ref gt)]) ?k1x10 ?k2x10 ?k3x10 ?k4x10 ?k5x10 ?kAx10 ?kFx10 ?kKx10 ?k6x10 ?k7x10 ?k8x10 ?k9x10 ?kBx10 ?_ ?c2x10 ?c3x10 ?c4x10 ?c5x10; (case kAx10 => exact rfl); (case kFx10 => exact rfl); (case kKx10 => assumption); (case k1x10 => k_asm); (case k2x10 => k_asm); (case k3x10 => k_asm); (case k4x10 => k_asm); (case k5x10 => k_asm); (case k6x10 => k_is); (case k7x10 => k_is); (case k8x10 => (first | exact room0 (by assumption) | exact room2 (by assumption) (by decide) | ktr_room)); (case k9x10 => exact BindsTo.of_eq rfl); (case c5x10 => decide); (case kBx10 => exact locs rfl); (case c2x10 => exact rfl); (case c3x10 => exact rfl); (case c4x10 => exact rfl); k_whole; intro _ _ _ _ _ _ _ _ _ _; (try dsimp only); (try k_fold))
  rename_i g1 L1 h1 hX hXr F1 N1 B1 X1 T1
  refine post_var fun Q1 E1 hQ1 => ?_
  replace hret := fun v h' tk' a b => hQ1 (Flow.ret v) _ (hret v h' tk' a b)
  clear hQ1
  have hP1 : g1.IsList gt vs.toArray := hP.at fun o e => hX _ _ e List.not_mem_nil
  have hvl := hi.length
  walk_at "glyph walk"
  rename_i R hA lA hB FB NB
  refine for_iter g1 (by with_unfolding_all rfl) (by with_unfolding_all rfl) ?_ (by intro _; with_unfolding_all rfl)
  walk_at "glyph walk"
  refine ⟨[gt], vs.toArray.size, _, _, _, CovA R gt gs,
    rfl, iter_list (hP1.at fun o e => FB.keep _ _ e), ?_, FB, NB, ?_, ⟨[], 0, _, (funext fun z => (ite_self _).symm), rfl, .nil, (fun p hp => nomatch hp), .nil⟩, ?_, ?_⟩
  · obtain ⟨o, e, _⟩ := hP1
    intro q; exact not_frame FB e (List.mem_singleton.mp q)
  · obtain ⟨o, e, _⟩ := hP1
    intro p hp q; exact not_led NB e p hp (List.mem_singleton.mp q)
  · intro i x' m₁ news₁ own h tk hin hPx hJ hsep F N
    refine post_varQ fun Q2 hQ2 => ?_
    obtain ⟨tl, k, u, rfl, rfl, hp, hne, hnd⟩ := hJ
    obtain ⟨g, tg, hg, rfl⟩ := ints_at hi (by simpa using hPx)
    replace F := fr_again F
    have hlen2 := spansOf_len (gs.take i)
    have hlen3 := hp.length
    rcases List.eq_nil_or_concat tl with rfl | ⟨tl0, ⟨T2, o2⟩, rfl⟩
    · simp only [List.map_cons, List.map_nil, List.cons_append, List.nil_append, refs] at hsep N
      have e0 : spansOf (gs.take i) = [] := paired_nil hp
      walk_at "glyph walk"
      rename_i D2 hx2 l2 h2 F2 N2
      have N3 : News g1 L1 h2 ((R, PySem.W.listOf (refs [(D2, lpairObj (Value.int g tg) (Value.int g tg))]).toArray (k + 1)) :: (D2, lpairObj (Value.int g tg) (Value.int g tg)) :: own) := news_swap N2
      refine turnEndV (hQ2 .next _) [(R, PySem.W.listOf (refs [(D2, lpairObj (Value.int g tg) (Value.int g tg))]).toArray (k + 1)), (D2, lpairObj (Value.int g tg) (Value.int g tg))] F2 N3 ?_ ?_ ?_ ⟨[(D2, _)], _, fun _ => some (Value.int g tg), rfl, rfl, ?_, ?_, List.pairwise_singleton _ _⟩
      · intro p hp; exact List.mem_append_left own hp
      · intro p hp; exact List.mem_cons_of_mem _ (List.mem_cons_of_mem _ hp)
      · exact off_cons (fun p hp => hsep p hp R (by simp)) (off_lt l2.2 off_nil)
      · rw [spansOf_succ hg, e0]
        exact .cons ⟨_, _, rfl⟩ .nil
      · intro p hp; rw [List.mem_singleton.mp hp]; exact Nat.ne_of_gt l2.1
    · rw [List.concat_eq_append] at *
      obtain ⟨acc, q, eq, hp0, t1, t2, eo⟩ := paired_snoc hp
      simp only at eo
      subst eo
      have eR : refs (tl0 ++ [(T2, lpairObj (Value.int q.1 t1) (Value.int q.2 t2))]) = refs tl0 ++ [Value.ref T2] := by simp [refs]
      have hTR : T2 ≠ R := hne (T2, lpairObj (Value.int q.1 t1) (Value.int q.2 t2)) (List.mem_append_right _ (.head _))
      rw [eR] at N
      have N2 : News g1 L1 h ((R, PySem.W.listOf (refs tl0 ++ [Value.ref T2]).toArray k) :: (T2, lpairObj (Value.int q.1 t1) (Value.int q.2 t2)) :: (tl0 ++ own)) := fun p hp => N p (by
        simp only [List.cons_append, List.mem_cons, List.mem_append, List.append_assoc, List.nil_append] at hp ⊢
        rcases hp with h | h | h | h
        · exact .inl h
        · exact .inr (.inr (.inl h))
        · exact .inr (.inl h)
        · exact .inr (.inr (.inr h)))
      clear N
      have hR : ∀ p ∈ tl0 ++ own, p.1 ≠ R := fun p hp => by
        rcases List.mem_append.mp hp with h | h
        · exact hne p (List.mem_append_left _ h)
        · exact hsep p h R (.head _)
      have hT2 : ∀ p ∈ tl0 ++ own, p.1 ≠ T2 := fun p hp => by
        rcases List.mem_append.mp hp with h | h
        · exact (List.pairwise_append.mp hnd).2.2 p h _ (.head _)
        · exact hsep p h T2 (.tail _ (List.mem_map_of_mem (f := fun x : Addr × Obj => x.1) (a := (T2, lpairObj (Value.int q.1 t1) (Value.int q.2 t2))) (List.mem_append_right _ (.head _))))
      generalize hrest : tl0 ++ own = rest at N2 hR hT2
      have hz : (refs tl0).length ≤ 64 := by
        simp only [List.length_append, List.length_singleton, List.length_take] at hlen3 hlen2
        simp only [List.length_map]
        omega
      by_cases hb : q.2 + 1 = g
      · walk_at "glyph walk"
        · rename_i tz ab
          refine set_at (pre := [(R, _)]) (xs := [_, _]) F N2 (by decide) (by simp) (by simp) ?_ hT2 fun h3 F3 N3 _ => ?_
          · intro p hp; rw [List.mem_singleton.mp hp]; exact Ne.symm hTR
          walk_at "glyph walk"
          subst hrest
          have N5 : News g1 L1 h3 ((R, PySem.W.listOf (refs (tl0 ++ [(T2, lpairObj (Value.int q.1 t1) (Value.int g tg))])).toArray k) :: (T2, lpairObj (Value.int q.1 t1) (Value.int g tg)) :: (tl0 ++ own)) := by
            have e : refs (tl0 ++ [(T2, lpairObj (Value.int q.1 t1) (Value.int g tg))]) = refs tl0 ++ [Value.ref T2] := by simp [refs]
            rw [e]; exact N3
          refine turnEndV (hQ2 .next _) ((R, PySem.W.listOf (refs (tl0 ++ [(T2, lpairObj (Value.int q.1 t1) (Value.int g tg))])).toArray k) :: (tl0 ++ [(T2, lpairObj (Value.int q.1 t1) (Value.int g tg))])) F3 N5 (fun p hp => ?_) (fun p hp => ?_) ?_ ⟨tl0 ++ [(T2, _)], _, fun _ => some (Value.int g tg), rfl, rfl, ?_, fun p hp => ?_, ?_⟩
          · rcases List.mem_cons.mp hp with rfl | hp
            · exact .head _
            · rcases List.mem_append.mp hp with hp | hp
              · exact .tail _ (.tail _ (List.mem_append_left _ hp))
              · rw [List.mem_singleton.mp hp]; exact .tail _ (.head _)
          · exact .tail _ (.tail _ (List.mem_append_right _ hp))
          · refine off_cons (fun p hp => hR p (List.mem_append_right _ hp)) fun p hp b hb => ?_
            obtain ⟨z, hz, rfl⟩ := List.mem_map.mp hb
            rcases List.mem_append.mp hz with hz | hz
            · exact hsep p hp _ (.tail _ (List.mem_map_of_mem (List.mem_append_left _ hz)))
            · rw [List.mem_singleton.mp hz]
              exact hT2 p (List.mem_append_right _ hp)
          · rw [spansOf_succ hg, eq, spanStep_snoc, if_pos hb]
            exact hp0.snoc ⟨_, _, rfl⟩
          · rcases List.mem_append.mp hp with hp | hp
            · exact hR p (List.mem_append_left _ hp)
            · rw [List.mem_singleton.mp hp]; exact hTR
          · refine List.pairwise_append.mpr ⟨(List.pairwise_append.mp hnd).1, List.pairwise_singleton _ _, fun x hx y hy => ?_⟩
            rw [List.mem_singleton.mp hy]
            exact hT2 x (List.mem_append_left _ hx)
        · exact absurd hb (by assumption)
      · walk_at "glyph walk"
        rename_i tz ab D2 hx2 l2 h3 F3 N4
        subst hrest
        have N5 : News g1 L1 h3 ((D2, lpairObj (Value.int g tg) (Value.int g tg)) :: (R, PySem.W.listOf (refs (tl0 ++ [(T2, lpairObj (Value.int q.1 t1) (Value.int q.2 t2))] ++ [(D2, lpairObj (Value.int g tg) (Value.int g tg))])).toArray (k + 1)) :: (T2, lpairObj (Value.int q.1 t1) (Value.int q.2 t2)) :: (tl0 ++ own)) := by
          have e : (refs (tl0 ++ [(T2, lpairObj (Value.int q.1 t1) (Value.int q.2 t2))] ++ [(D2, lpairObj (Value.int g tg) (Value.int g tg))])).toArray = (refs tl0 ++ [Value.ref T2]).toArray.push (Value.ref D2) := by simp [refs]
          rw [e]; exact N4
        refine turnEndV (hQ2 .next _) ((R, PySem.W.listOf (refs (tl0 ++ [(T2, lpairObj (Value.int q.1 t1) (Value.int q.2 t2))] ++ [(D2, lpairObj (Value.int g tg) (Value.int g tg))])).toArray (k + 1)) :: (tl0 ++ [(T2, lpairObj (Value.int q.1 t1) (Value.int q.2 t2))] ++ [(D2, lpairObj (Value.int g tg) (Value.int g tg))])) F3 N5
          (fun p hp => ?_) (fun p hp => ?_) ?_ ⟨tl0 ++ [(T2, _)] ++ [(D2, _)], _, fun _ => some (Value.int g tg), rfl, rfl, ?_, fun p hp => ?_, ?_⟩
        · rcases List.mem_cons.mp hp with rfl | hp
          · exact .tail _ (.head _)
          · rcases List.mem_append.mp hp with hp | hp
            · rcases List.mem_append.mp hp with hp | hp
              · exact .tail _ (.tail _ (.tail _ (List.mem_append_left _ hp)))
              · rw [List.mem_singleton.mp hp]; exact .tail _ (.tail _ (.head _))
            · rw [List.mem_singleton.mp hp]; exact .head _
        · exact .tail _ (.tail _ (.tail _ (List.mem_append_right _ hp)))
        · refine off_cons (fun p hp => hR p (List.mem_append_right _ hp)) fun p hp b hb => ?_
          obtain ⟨z, hz, rfl⟩ := List.mem_map.mp hb
          rcases List.mem_append.mp hz with hz | hz
          · exact hsep p hp _ (.tail _ (List.mem_map_of_mem hz))
          · rw [List.mem_singleton.mp hz]
            exact Nat.ne_of_lt (allLt_mem l2.2.2 p (List.mem_append_right _ hp))
        · rw [spansOf_succ hg, eq, spanStep_snoc, if_neg hb, ← eq]
          exact hp.snoc ⟨_, _, rfl⟩
        · rcases List.mem_append.mp hp with hp | hp
          · exact hne p hp
          · rw [List.mem_singleton.mp hp]; exact Nat.ne_of_gt l2.1
        · refine List.pairwise_append.mpr ⟨hnd, List.pairwise_singleton _ _, fun x hx y hy => ?_⟩
          rw [List.mem_singleton.mp hy]
          rcases List.mem_append.mp hx with hx | hx
          · exact Nat.ne_of_lt (allLt_mem l2.2.2 x (List.mem_append_left _ hx))
          · rw [List.mem_singleton.mp hx]; exact Nat.ne_of_lt l2.2.1
  · rintro m' news' h tk ⟨tl, k, u, rfl, rfl, hp, hne, hnd⟩ F N
    rw [List.take_of_length_le (by rw [List.size_toArray]; omega)] at hp
    walk_at "glyph walk"
    (refine' ct_ints (ct_pair w 1 _) ?k1x12 ?k2x12 ?k3x12 ?k4x12 ?k5x12 ?kKx12 ?kPx12 ?kdx12 ?kux12 ?_; (case k1x12 => k_asm); (case k2x12 => k_asm); (case k3x12 => k_asm); (case k4x12 => k_asm); (case k5x12 => k_asm); (case kKx12 => first | exact rfl | assumption); (case kdx12 => (first | exact room0 (by assumption) | exact room2 (by assumption) (by decide) | ktr_room)); (case kux12 => (first | exact units2 (by assumption) (by decide) | ktr_units)); (try (case kPx12 => trivial)))
    intro l1 vs1 k1 h1 tk1 hi1 hne1 kp1 hn1 F1 N1
    obtain ⟨ta1, tb1, rfl⟩ := ints2 hi1
    walk_at "glyph walk"
    (refine' ct_ints (ct_pair w gs.length _) ?k1x13 ?k2x13 ?k3x13 ?k4x13 ?k5x13 ?kKx13 ?kPx13 ?kdx13 ?kux13 ?_; (case k1x13 => k_asm); (case k2x13 => k_asm); (case k3x13 => k_asm); (case k4x13 => k_asm); (case k5x13 => k_asm); (case kKx13 => first | exact rfl | assumption); (case kdx13 => (first | exact room0 (by assumption) | exact room2 (by assumption) (by decide) | ktr_room)); (case kux13 => (first | exact units2 (by assumption) (by decide) | ktr_units)); (try (case kPx13 => trivial)))
    intro l2 vs2 k2 h2 tk2 hi2 hne2 kp2 hn2 F2 N2
    obtain ⟨ta2, tb2, rfl⟩ := ints2 hi2
    walk_at "glyph walk"
    rename_i O hO lO h3 F3 N3
    have htl := hp.length
    have hle := spansOf_len gs
    refine len_list (n := ((spansOf gs).length : Int)) N3 (.tail _ (.tail _ (.tail _ (.head _)))) (by rw [List.length_map]; omega) (by rw [List.length_map]; omega) fun _ _ => ?_
    by_cases hw : 2 * (gs.length : Int) ≤ 6 * ((spansOf gs).length : Int)
    · walk_at "glyph walk"
      replace F3 := fr_swap F3 (by decide)
      refine for_iter g1 (by with_unfolding_all rfl) (by with_unfolding_all rfl) ?_ (by intro _; with_unfolding_all rfl)
      walk_at "glyph walk"
      refine ⟨[gt], vs.toArray.size, _, _, [(O, PySem.W.listOf #[Value.int (1 / 256) ta1, Value.int (1 % 256) tb1, Value.int (gs.length / 256) ta2, Value.int (gs.length % 256) tb2] 0)], CovB O R gt gs,
        rfl, iter_list (hP1.at fun o e => F3.keep _ _ e), ?_, F3, fun p hp => N3 p (by rw [List.mem_singleton.mp hp]; exact .head _), ?_, ⟨[.int (1 / 256) ta1, .int (1 % 256) tb1, .int (gs.length / 256) ta2, .int (gs.length % 256) tb2], 0, _, rfl, rfl, ?_⟩, ?_, ?_⟩
      · obtain ⟨o, e, _⟩ := hP1
        intro q; exact not_frame F3 e (List.mem_singleton.mp q)
      · obtain ⟨o, e, _⟩ := hP1
        intro p hp q; rw [List.mem_singleton.mp hp] at q; exact not_led N3 e _ (.head _) (List.mem_singleton.mp q)
      · exact .cons _ _ (.cons _ _ (.cons _ _ (.cons _ _ .nil)))
      · intro i x' m₁ news₁ own h tk hin hPx hJ hsep F N
        refine post_varQ fun Q2 hQ2 => ?_
        obtain ⟨vsO, kO, u, rfl, rfl, hO2⟩ := hJ
        obtain ⟨g, tg, hg, rfl⟩ := ints_at hi (by simpa using hPx)
        replace F := fr_again F
        simp only [List.cons_append, List.nil_append] at N
        walk_at "glyph walk"
        (refine' ct_ints (ct_pair w g tg) ?k1x14 ?k2x14 ?k3x14 ?k4x14 ?k5x14 ?kKx14 ?kPx14 ?kdx14 ?kux14 ?_; (case k1x14 => k_asm); (case k2x14 => k_asm); (case k3x14 => k_asm); (case k4x14 => k_asm); (case k5x14 => k_asm); (case kKx14 => first | exact rfl | assumption); (case kdx14 => (first | exact room0 (by assumption) | exact room2 (by assumption) (by decide) | ktr_room)); (case kux14 => (first | exact units2 (by assumption) (by decide) | ktr_units)); (try (case kPx14 => trivial)))
        intro lp vsp kp hp' tkp hip hnep kpp hnp Fp Np
        obtain ⟨tap, tbp, rfl⟩ := ints2 hip
        walk_at "glyph walk"
        have hol : vsO.length ≤ 200 := by
          have e1 := hO2.length
          have e2 : ((gs.take i).flatMap oct2).length = 2 * (gs.take i).length := flat_len _
          simp only [List.length_append, e2, List.length_take, oct2, List.length_cons, List.length_nil] at e1
          omega
        refine extend_list (pre := [(lp, _)]) (ys := [_, _]) Fp Np (.head _) (by simp) (by simp; omega) ?_ ?_ fun h4 F4 N4 => ?_
        · intro p hp; rw [List.mem_singleton.mp hp]; exact fun q => hnep _ (.head _) q.symm
        · intro p hp; exact hsep p hp O (.head _)
        walk_at "glyph walk"
        refine turnEndV (hQ2 .next _) [(O, PySem.W.listOf (vsO ++ [Value.int (g / 256) tap, Value.int (g % 256) tbp]).toArray (kO + 1))] F4 N4 ?_ ?_ ?_ ⟨_, _, fun _ => some (Value.int g tg), rfl, rfl, ?_⟩
        · intro p hp; rw [List.mem_singleton.mp hp]; exact .tail _ (.head _)
        · intro p hp; exact .tail _ (.tail _ hp)
        · exact hsep
        · rw [List.take_add_one, hg, List.flatMap_append, ← List.append_assoc]
          exact ints_app hO2 (.cons _ _ (.cons _ _ .nil))
      · rintro m' news' h tk ⟨vsO, kO, u, rfl, rfl, hO2⟩ F N
        walk_at "glyph walk"
        rw [List.take_of_length_le (by rw [List.size_toArray]; omega)] at hO2
        refine hret _ _ _ (ext_of hX F) ⟨O, vsO, kO, rfl, fresh_of hX N (.head _) List.not_mem_nil, (N _ (.head _)).1, ?_⟩
        unfold coverL
        rw [if_pos hw]
        exact hO2
    · walk_at "glyph walk"
      (refine' ct_ints (ct_pair w 2 _) ?k1x15 ?k2x15 ?k3x15 ?k4x15 ?k5x15 ?kKx15 ?kPx15 ?kdx15 ?kux15 ?_; (case k1x15 => k_asm); (case k2x15 => k_asm); (case k3x15 => k_asm); (case k4x15 => k_asm); (case k5x15 => k_asm); (case kKx15 => first | exact rfl | assumption); (case kdx15 => (first | exact room0 (by assumption) | exact room2 (by assumption) (by decide) | ktr_room)); (case kux15 => (first | exact units2 (by assumption) (by decide) | ktr_units)); (try (case kPx15 => trivial)))
      intro l5 vs5 k5 h5 tk5 hi5 hne5 kp5 hn5 F5 N5
      obtain ⟨ta5, tb5, rfl⟩ := ints2 hi5
      walk_at "glyph walk"
      refine len_list (n := ((spansOf gs).length : Int)) N5 (.tail _ (.tail _ (.tail _ (.tail _ (.head _))))) (by rw [List.length_map]; omega) (by rw [List.length_map]; omega) fun _ _ => ?_
      walk_at "glyph walk"
      (refine' ct_ints (ct_pair w (spansOf gs).length _) ?k1x16 ?k2x16 ?k3x16 ?k4x16 ?k5x16 ?kKx16 ?kPx16 ?kdx16 ?kux16 ?_; (case k1x16 => k_asm); (case k2x16 => k_asm); (case k3x16 => k_asm); (case k4x16 => k_asm); (case k5x16 => k_asm); (case kKx16 => first | exact rfl | assumption); (case kdx16 => (first | exact room0 (by assumption) | exact room2 (by assumption) (by decide) | ktr_room)); (case kux16 => (first | exact units2 (by assumption) (by decide) | ktr_units)); (try (case kPx16 => trivial)))
      intro l6 vs6 k6 h6 tk6 hi6 hne6 kp6 hn6 F6 N6
      obtain ⟨ta6, tb6, rfl⟩ := ints2 hi6
      walk_at "glyph walk"
      rename_i O2 h7 l7 tk7 h8 F8 N8
      refine for_any g1 ?_ (by intro _; with_unfolding_all rfl)
      walk_at "glyph walk"
      have hRt : h8.IsList R (refs tl).toArray := listOf_is N8 (.tail _ (.tail _ (.tail _ (.tail _ (.tail _ (.tail _ (.head _)))))))
      have hT : ∀ p ∈ tl, p.1 ≠ O2 := fun p hp => Nat.ne_of_lt (allLt_mem l7.2.2.2.2.2.2 p hp)
      refine ⟨R, (refs tl).toArray, _, (O2, PySem.W.listOf #[Value.int (2 / 256) ta5, Value.int (2 % 256) tb5, Value.int ((spansOf gs).length / 256) ta6, Value.int ((spansOf gs).length % 256) tb6] 0) :: tl,
        CovC O2 tl gs,
        rfl, rfl, hRt, ?_, ?_, F8, ?_, ?_, ⟨[.int (2 / 256) ta5, .int (2 % 256) tb5, .int ((spansOf gs).length / 256) ta6, .int ((spansOf gs).length % 256) tb6], 0, _, _, rfl, rfl, ?_, by with_unfolding_all rfl, by with_unfolding_all rfl, rfl⟩, ?_, ?_⟩
      · intro i x hx
        rw [List.getElem?_toArray, List.getElem?_map] at hx
        cases e : tl[i]? with
        | none => rw [e] at hx; cases hx
        | some p => rw [e] at hx; exact ⟨p.1, (Option.some.inj hx).symm⟩
      · intro q
        have := (N8 (R, PySem.W.listOf (refs tl).toArray k) (.tail _ (.tail _ (.tail _ (.tail _ (.tail _ (.tail _ (.head _)))))))).2.1
        exact this q.symm
      · intro p hp
        refine N8 p ?_
        rcases List.mem_cons.mp hp with rfl | hp
        · exact .head _
        · exact .tail _ (.tail _ (.tail _ (.tail _ (.tail _ (.tail _ (.tail _ hp))))))
      · intro p hp q
        rcases List.mem_cons.mp hp with rfl | hp
        · exact Nat.ne_of_gt l7.2.2.2.2.2.1 q
        · exact hne p hp q
      · exact .cons _ _ (.cons _ _ (.cons _ _ (.cons _ _ .nil)))
      · intro i x' m₁ news₁ own h tk hin hPx hJ hsep F N
        obtain ⟨vsO, kO, ti, M, rfl, rfl, hO2, hMo, hMi, hvl2⟩ := hJ
        replace F := fr_know2 F hMo hMi
        obtain ⟨⟨T2, o2⟩, htl2, rfl⟩ := refs_at hPx
        obtain ⟨q, hq, t1, t2, e2⟩ := paired_at hp htl2
        simp only at e2
        subst e2
        have hmem := List.mem_of_getElem? htl2
        have hT2l : h.IsList T2 #[Value.int q.1 t1, Value.int q.2 t2] := listOf_is N (List.mem_append_left _ (.tail _ hmem))
        refine assign_list2 rfl hT2l (by with_unfolding_all rfl) (by with_unfolding_all rfl) (by with_unfolding_all rfl) F fun h1 tk1 F1 kk1 => ?_
        have N1 : News g1 L1 h1 ((O2, PySem.W.listOf vsO.toArray kO) :: (tl ++ own)) := fun p hp => ⟨kk1 _ _ (N p hp).2.1 (N p hp).1, (N p hp).2⟩
        clear N F hT2l
        have hR : ∀ p ∈ tl ++ own, p.1 ≠ O2 := fun p hp => by
          rcases List.mem_append.mp hp with hp | hp
          · exact hT p hp
          · exact hsep p hp O2 (.head _)
        generalize hrest : tl ++ own = rest at N1 hR
        generalize hst : ((spansOf gs).take i).foldl spanFold (oct2 2 ++ oct2 (spansOf gs).length, 0) = st at hO2 F1
        refine post_varQ fun Q2 hQ2 => ?_
        walk_at "glyph walk"
        (refine' ct_ints (ct_pair w q.1 _) ?k1x17 ?k2x17 ?k3x17 ?k4x17 ?k5x17 ?kKx17 ?kPx17 ?kdx17 ?kux17 ?_; (case k1x17 => k_asm); (case k2x17 => k_asm); (case k3x17 => k_asm); (case k4x17 => k_asm); (case k5x17 => k_asm); (case kKx17 => first | exact rfl | assumption); (case kdx17 => (first | exact room0 (by assumption) | exact room2 (by assumption) (by decide) | ktr_room)); (case kux17 => (first | exact units2 (by assumption) (by decide) | ktr_units)); (try (case kPx17 => trivial)))
        intro la va ka ha tka hia hnea kpa hna Fa Na
        obtain ⟨taa, tba, rfl⟩ := ints2 hia
        walk_at "glyph walk"
        (refine' ct_ints (ct_pair w q.2 _) ?k1x18 ?k2x18 ?k3x18 ?k4x18 ?k5x18 ?kKx18 ?kPx18 ?kdx18 ?kux18 ?_; (case k1x18 => k_asm); (case k2x18 => k_asm); (case k3x18 => k_asm); (case k4x18 => k_asm); (case k5x18 => k_asm); (case kKx18 => first | exact rfl | assumption); (case kdx18 => (first | exact room0 (by assumption) | exact room2 (by assumption) (by decide) | ktr_room)); (case kux18 => (first | exact units2 (by assumption) (by decide) | ktr_units)); (try (case kPx18 => trivial)))
        intro lb vb kb hb tkb hib hneb kpb hnb Fb Nb
        obtain ⟨tab, tbb, rfl⟩ := ints2 hib
        walk_at "glyph walk"
        (refine' ct_ints (ct_pair w st.2 _) ?k1x19 ?k2x19 ?k3x19 ?k4x19 ?k5x19 ?kKx19 ?kPx19 ?kdx19 ?kux19 ?_; (case k1x19 => k_asm); (case k2x19 => k_asm); (case k3x19 => k_asm); (case k4x19 => k_asm); (case k5x19 => k_asm); (case kKx19 => first | exact rfl | assumption); (case kdx19 => (first | exact room0 (by assumption) | exact room2 (by assumption) (by decide) | ktr_room)); (case kux19 => (first | exact units2 (by assumption) (by decide) | ktr_units)); (try (case kPx19 => trivial)))
        intro lc vc kc hc tkc hic hnec kpc hnc Fc Nc
        obtain ⟨tac, tbc, rfl⟩ := ints2 hic
        walk_at "glyph walk"
        rename_i D1 hd1 ld1 D2 hd2 F2 N2 ld2
        have hin2 : i < tl.length := by rw [List.size_toArray, List.length_map] at hin; exact hin
        refine extend_list (pre := [(D2, _), (lc, _), (D1, _), (lb, _), (la, _)]) (ys := [_, _, _, _, _, _]) F2 N2 (.head _) (by simp) (by simp; omega) ?_ hR fun h4 F4 N4 => ?_
        · intro p hp
          simp only [List.mem_cons, List.not_mem_nil, or_false] at hp
          rcases hp with rfl | rfl | rfl | rfl | rfl
          · exact Nat.ne_of_gt ld2.2.2.2.2.1
          · exact fun e => hnec _ (.tail _ (.tail _ (.tail _ (.head _)))) e.symm
          · exact Nat.ne_of_gt ld1.2.2.1
          · exact fun e => hneb _ (.tail _ (.head _)) e.symm
          · exact fun e => hnea _ (.head _) e.symm
        walk_at "glyph walk"
        rename_i F5 N5
        subst hrest
        obtain ⟨ti2, hti2⟩ := fr_has F5 (fun M => ∃ t, M (Str.ofString "index") = some (Value.int (spanFold st q).2 t)) ⟨_, by with_unfolding_all rfl⟩
        have est : ((spansOf gs).take (i + 1)).foldl spanFold (oct2 2 ++ oct2 (spansOf gs).length, 0) = spanFold st q := by
          rw [List.take_add_one, hq, List.foldl_append, hst]; rfl
        refine turnEndV (hQ2 .next _) ((O2, PySem.W.listOf (vsO ++ [Value.int (q.1 / 256) taa, Value.int (q.1 % 256) tba, Value.int (q.2 / 256) tab, Value.int (q.2 % 256) tbb, Value.int (st.2 / 256) tac, Value.int (st.2 % 256) tbc]).toArray (kO + 1)) :: tl) F5 N5 ?_ ?_ ?_ ⟨_, _, ti2, _, rfl, rfl, ?_, by with_unfolding_all rfl, ?_, ?_⟩
        · intro p hp
          rcases List.mem_cons.mp hp with rfl | hp
          · exact .tail _ (.tail _ (.tail _ (.tail _ (.tail _ (.head _)))))
          · exact .tail _ (.tail _ (.tail _ (.tail _ (.tail _ (.tail _ (List.mem_append_left _ hp))))))
        · intro p hp; exact .tail _ (.tail _ (.tail _ (.tail _ (.tail _ (.tail _ (List.mem_append_right _ hp))))))
        · exact hsep
        · rw [est]
          exact ints_app hO2 (.cons _ _ (.cons _ _ (.cons _ _ (.cons _ _ (.cons _ _ (.cons _ _ .nil))))))
        · rw [est]
          exact hti2
        · simp only [List.length_append, List.length_cons, List.length_nil]
          omega
      · rintro m' news' h tk ⟨vsO, kO, ti, M, rfl, rfl, hO2, hMo, hMi, hvl2⟩ F N
        replace F := fr_know F hMo
        walk_at "glyph walk"
        rw [List.take_of_length_le (by rw [List.size_toArray, List.length_map]; omega)] at hO2
        refine hret _ _ _ (ext_of hX F) ⟨O2, vsO, kO, rfl, fresh_of hX N (.head _) List.not_mem_nil, (N _ (.head _)).1, ?_⟩
        unfold coverL
        rw [if_neg hw]
        exact hO2
end
section
set_option maxHeartbeats 800000
theorem offDue : True := by w_top off; trivial
abbrev keysL (ps : List (Int × Int)) : List Int := sortL (ps.map (·.1))
def dueAll (ps : List (Int × Int)) : List Int := oct2 2 ++ oct2 (6 + 2 * (keysL ps).length) ++ oct2 (keysL ps).length ++ (keysL ps).flatMap (fun g => oct2 (look ps g)) ++ coverL (keysL ps)
def dueOne (ps : List (Int × Int)) (δ : Int) : List Int := oct2 1 ++ oct2 6 ++ oct2 δ ++ coverL (keysL ps)
theorem keysL_len (ps : List (Int × Int)) : (keysL ps).length = ps.length := by
  rw [(sortL_perm _).length_eq, List.length_map]
theorem keysL_mem {ps : List (Int × Int)} {k : Int} (h : k ∈ keysL ps) : k ∈ ps.map (·.1) := (sortL_perm _).mem_iff.mp h
local macro_rules | `(tactic| walk_at "subscriptTail") => `(tactic| ((with_reducible show wpAny _ _ (subscriptTail _ _ (PySem.Value.ref _) (PySem.Value.int _ _)) _ _ _); refine sub_map (Maps.keep (by with_reducible assumption) (Fr.keep (by k_asm))) (by with_reducible assumption) ?_; intro _ _))

theorem ct_due_one (w : World) (d : Addr) (ps : List (Int × Int)) (f δ : Int) (tf t : Tok) (hf : f ≠ 2) (hlen : ps.length < 64) (hb : ∀ x ∈ dueOne ps δ, 0 ≤ x ∧ x < 256) :
   Ct w 300 [.ref d, .int f tf, .int δ t] 4 32 [] (fun h => Maps w h d ps) (fun h v h' => ∃ t, v = .bytes (toB (dueOne ps δ)) t) := by
  (unfold Ct; dsimp only [Pr, KK, VW]; k_fill)
  intro loose mean mg mb dp un gd cn cs a ccd cl outer A₀ base h₀ L m s Q E B F X T hk ht hP hd hu hret
  have N : News h₀ L s.heap [] := News.nil
  refine wpAny_call ?_
  k_dflt (refine' own_call (binds := [(Str.ofString "mapping", Value.ref d), (Str.ofString "form", Value.int f tf), (Str.ofString "delta", Value.int δ t)]) ?k1x20 ?k2x20 ?k3x20 ?k4x20 ?k5x20 ?kAx20 ?kFx20 ?kKx20 ?k6x20 ?k7x20 ?k8x20 ?k9x20 ?kBx20 ?_ ?c2x20 ?c3x20 ?c4x20 ?c5x20; (case kAx20 => exact rfl); (case kFx20 => exact rfl); (case kKx20 => assumption); (case k1x20 => k_asm); (case k2x20 => k_asm); (case k3x20 => k_asm); (case k4x20 => k_asm); (case k5x20 => k_asm); (case k6x20 => k_is); (case k7x20 => k_is); (case k8x20 => (first | exact room0 (by assumption) | exact room2 (by assumption) (by decide) | ktr_room)); (case k9x20 => exact BindsTo.of_eq rfl); (case c5x20 => decide); (case kBx20 => exact locs rfl); (case c2x20 => exact rfl); (case c3x20 => exact rfl); (case c4x20 => exact rfl); k_whole; intro _ _ _ _ _ _ _ _ _ _; (try dsimp only); (try k_fold))
  rename_i g1 L1 h1 hX hXr F1 N1 B1 X1 T1
  refine post_var fun Q1 E1 hQ1 => ?_
  replace hret := fun v h' tk' a b => hQ1 (Flow.ret v) _ (hret v h' tk' a b)
  clear hQ1
  have hP1 : Maps w g1 d ps := hP.keep fun b o e => hX _ _ e List.not_mem_nil
  walk_at "glyph walk"
  refine sorted_map (hP1.keep F1.keep) rfl F1 N1 hlen fun S vs c h2 tk2 F2 N2 l2 hi2 => ?_
  walk_at "glyph walk"
  any_goals (exfalso; omega)
  all_goals
    refine ct_ints (ct_pair w 1 _) (by k_asm) (by k_asm) (by k_asm) (by k_asm) (by k_asm) (by first | exact rfl | assumption) (by trivial) (by first | exact room0 (by assumption) | exact room2 (by assumption) (by decide) | ktr_room) (by first | exact units2 (by assumption) (by decide) | ktr_units) ?_
    intro p1 v1 k1 q1 u1 i1 n1 kp1 z1 F3 N3
    obtain ⟨a1, b1, rfl⟩ := ints2 i1
    walk_at "glyph walk"
    refine ct_ints (ct_pair w 6 _) (by k_asm) (by k_asm) (by k_asm) (by k_asm) (by k_asm) (by first | exact rfl | assumption) (by trivial) (by first | exact room0 (by assumption) | exact room2 (by assumption) (by decide) | ktr_room) (by first | exact units2 (by assumption) (by decide) | ktr_units) ?_
    intro p2 v2 k2 q2 u2 i2 n2 kp2 z2 F4 N4
    obtain ⟨a2, b2, rfl⟩ := ints2 i2
    walk_at "glyph walk"
    refine ct_ints (ct_pair w δ _) (by k_asm) (by k_asm) (by k_asm) (by k_asm) (by k_asm) (by first | exact rfl | assumption) (by trivial) (by first | exact room0 (by assumption) | exact room2 (by assumption) (by decide) | ktr_room) (by first | exact units2 (by assumption) (by decide) | ktr_units) ?_
    intro p3 v3 k3 q3 u3 i3 n3 kp3 z3 F5 N5
    obtain ⟨a3, b3, rfl⟩ := ints2 i3
    walk_at "glyph walk"
    refine ct_ints (ct_cover w S vs (keysL ps) hi2 (by rw [keysL_len]; omega)) (by k_asm) (by k_asm) (by k_asm) (by k_asm) (by k_asm) (by first | exact rfl | assumption) ?_ (by first | exact room0 (by assumption) | exact room2 (by assumption) (by decide) | ktr_room) (by first | exact units2 (by assumption) (by decide) | ktr_units) ?_
    · exact listOf_is (l := S) (vs := vs.toArray) (by k_asm) (by k_mem)
    intro p4 v4 k4 q4 u4 i4 n4 kp4 z4 F6 N6
    walk_at "glyph walkS"
    rename_i lA
    have hcl := coverL_len (gs := keysL ps) (by rw [keysL_len]; omega)
    refine kmk_add_ints (vs := [_, _, _, _, _, _]) (ws := v4) (ns := oct2 1 ++ oct2 6 ++ oct2 δ) F6 N6 (listOf_is N6 (.tail _ (.head _))) (listOf_is N6 (.head _)) (.cons _ _ (.cons _ _ (.cons _ _ (.cons _ _ (.cons _ _ (.cons _ _ .nil)))))) i4 (fun D us h7 F7 N7 l7 i7 => ?_) (Nat.le_trans (by simp only [List.length_append, oct2, List.length_cons, List.length_nil]; omega : _ ≤ 1000) (by size_fits))
    walk_at "glyph walk"
    have hul : us.length ≤ 1000 := by
      have e := i7.length
      simp only [List.length_append, oct2, List.length_cons, List.length_nil] at e
      omega
    refine bytes_K F7 N7 (listOf_is N7 (.head _)) i7 hb (Nat.le_trans hul (by size_fits)) rfl fun h8 t8 k8 F8 N8 _ => ?_
    exact hret _ _ _ (ext_of hX F8) ⟨_, rfl⟩
end
section
set_option maxHeartbeats 800000
theorem offDueB : True := by w_top off; trivial
theorem oct2_len (n : Int) : (oct2 n).length = 2 := rfl
local macro_rules | `(tactic| walk_at "subscriptTail") => `(tactic| ((with_reducible show wpAny _ _ (subscriptTail _ _ (PySem.Value.ref _) (PySem.Value.int _ _)) _ _ _); refine sub_map (Maps.keep (by with_reducible assumption) (Fr.keep (by k_asm))) (by with_reducible assumption) ?_; intro _ _))

theorem ct_due_none (w : World) (d : Addr) (ps : List (Int × Int)) (tf : Tok) (hlen : ps.length < 64) :
    Ct w 300 [.ref d, .int 1 tf, .none] 4 32 [] (fun h => Maps w h d ps) (fun _ v _ => v = .none) := by
  (unfold Ct; dsimp only [Pr, KK, VW]; k_fill)
  intro loose mean mg mb dp un gd cn cs a ccd cl outer A₀ base h₀ L m s Q E B F X T hk ht hP hd hu hret
  have N : News h₀ L s.heap [] := News.nil
  refine wpAny_call ?_
  k_dflt (refine' own_call (binds := [(Str.ofString "mapping", Value.ref d), (Str.ofString "form", Value.int 1 tf), (Str.ofString "delta", Value.none)]) ?k1x22 ?k2x22 ?k3x22 ?k4x22 ?k5x22 ?kAx22 ?kFx22 ?kKx22 ?k6x22 ?k7x22 ?k8x22 ?k9x22 ?kBx22 ?_ ?c2x22 ?c3x22 ?c4x22 ?c5x22; (case kAx22 => exact rfl); (case kFx22 => exact rfl); (case kKx22 => assumption); (case k1x22 => k_asm); (case k2x22 => k_asm); (case k3x22 => k_asm); (case k4x22 => k_asm); (case k5x22 => k_asm); (case k6x22 => k_is); (case k7x22 => k_is); (case k8x22 => (first | exact room0 (by assumption) | exact room2 (by assumption) (by decide) | ktr_room)); (case k9x22 => exact BindsTo.of_eq rfl); (case c5x22 => decide); (case kBx22 => exact locs rfl); (case c2x22 => exact rfl); (case c3x22 => exact rfl); (case c4x22 => exact rfl); k_whole; intro _ _ _ _ _ _ _ _ _ _; (try dsimp only); (try k_fold))
  rename_i g1 L1 h1 hX hXr F1 N1 B1 X1 T1
  have hP1 : Maps w g1 d ps := hP.keep fun b o e => hX _ _ e List.not_mem_nil
  walk_at "glyph walk"
  refine sorted_map (hP1.keep F1.keep) rfl F1 N1 hlen fun S vs c h2 tk2 F2 N2 l2 hi2 => ?_
  walk_at "glyph walk"
  rename_i F3 N3 _
  exact hret _ _ _ (ext_of hX F3) rfl

inductive DueJ (O S d : Addr) (ps : List (Int × Int)) (i : Nat) (m : Str → Option Value) (news : List (Addr × Obj)) : Prop
  | mk : ∀ (vsO : List Value) (kO : Nat), m (Str.ofString "octets") = some (Value.ref O) → m (Str.ofString "glyphs") = some (Value.ref S) → m (Str.ofString "mapping") = some (Value.ref d) → news = [(O, PySem.W.listOf vsO.toArray kO)] → IntsAre vsO (oct2 2 ++ oct2 (6 + 2 * (keysL ps).length) ++ oct2 (keysL ps).length ++ ((keysL ps).take i).flatMap fun g => oct2 (look ps g)) → DueJ O S d ps i m news
theorem ct_due_all (w : World) (d : Addr) (ps : List (Int × Int)) (f : Int) (dv : Value) (tf : Tok) (hf : (dv = .none ∧ f ≠ 1) ∨ (f = 2 ∧ ∃ δ t, dv = .int δ t)) (hlen : ps.length < 64) (hb : ∀ x ∈ dueAll ps, 0 ≤ x ∧ x < 256) :
    Ct w 300 [.ref d, .int f tf, dv] 4 32 [] (fun h => Maps w h d ps) (fun _ v _ => ∃ t, v = .bytes (toB (dueAll ps)) t) := by
  (unfold Ct; dsimp only [Pr, KK, VW]; k_fill)
  intro loose mean mg mb dp un gd cn cs a ccd cl outer A₀ base h₀ L m s Q E B F X T hk ht hP hd hu hret
  have N : News h₀ L s.heap [] := News.nil
  refine wpAny_call ?_
  k_dflt (refine' own_call (binds := [(Str.ofString "mapping", Value.ref d), (Str.ofString "form", Value.int f tf), (Str.ofString "delta", dv)]) ?k1x23 ?k2x23 ?k3x23 ?k4x23 ?k5x23 ?kAx23 ?kFx23 ?kKx23 ?k6x23 ?k7x23 ?k8x23 ?k9x23 ?kBx23 ?_ ?c2x23 ?c3x23 ?c4x23 ?c5x23; (case kAx23 => exact rfl); (case kFx23 => exact rfl); (case kKx23 => assumption); (case k1x23 => k_asm); (case k2x23 => k_asm); (case k3x23 => k_asm); (case k4x23 => k_asm); (case k5x23 => k_asm); (case k6x23 => k_is); (case k7x23 => k_is); (case k8x23 => (first | exact room0 (by assumption) | exact room2 (by assumption) (by decide) | ktr_room)); (case k9x23 => exact BindsTo.of_eq rfl); (case c5x23 => decide); (case kBx23 => exact locs rfl); (case c2x23 => exact rfl); (case c3x23 => exact rfl); (case c4x23 => exact rfl); k_whole; intro _ _ _ _ _ _ _ _ _ _; (try dsimp only); (try k_fold))
  rename_i g1 L1 h1 hX hXr F1 N1 B1 X1 T1
  refine post_var fun Q1 E1 hQ1 => ?_
  replace hret := fun v h' tk' a b => hQ1 (Flow.ret v) _ (hret v h' tk' a b)
  clear hQ1
  have hP1 : Maps w g1 d ps := hP.keep fun b o e => hX _ _ e List.not_mem_nil
  refine wpAny_execs_cons (post_varQ fun Q3 hQ3 => ?_)
  walk_at "glyph walk"
  refine sorted_map (hP1.keep F1.keep) rfl F1 N1 hlen fun S vs c h2 tk2 F2 N2 l2 hi2 => ?_
  have hvl : (vs.length : Int) = (keysL ps).length := by rw [hi2.length]
  have hvl2 : vs.length ≤ 64 := by rw [hi2.length, keysL_len]; omega
  walk_at "glyph walk"
  refine hQ3 _ _ ?_
  clear hQ3
  dsimp only
  refine wpAny_execs_cons (wpAny_If_b false (fun Q' hq => ?_) fun tk5 => ?_)
  · rcases hf with ⟨rfl, hf⟩ | ⟨rfl, δ, t, rfl⟩
    · walk_at "glyph walk"
      all_goals first | exact hq _ | (exfalso; omega)
    · walk_at "glyph walk"
      all_goals first | exact hq _ | (exfalso; omega)
  dsimp only
  refine wpAny_execs_nil ?_
  dsimp only
  refine wpAny_execs_cons (wpAny_If_b true (fun Q' hq => ?_) fun tk5 => ?_)
  · rcases hf with ⟨rfl, hf⟩ | ⟨rfl, δ, t, rfl⟩
    · walk_at "glyph walk"
      all_goals first | exact hq _ | (exfalso; omega)
    · walk_at "glyph walk"
      all_goals first | exact hq _ | (exfalso; omega)
  dsimp only [if_true]
  walk_at "glyph walk"
  (refine' ct_ints (ct_pair w 2 _) ?k1x26 ?k2x26 ?k3x26 ?k4x26 ?k5x26 ?kKx26 ?kPx26 ?kdx26 ?kux26 ?_; (case k1x26 => k_asm); (case k2x26 => k_asm); (case k3x26 => k_asm); (case k4x26 => k_asm); (case k5x26 => k_asm); (case kKx26 => first | exact rfl | assumption); (case kdx26 => (first | exact room0 (by assumption) | exact room2 (by assumption) (by decide) | ktr_room)); (case kux26 => (first | exact units2 (by assumption) (by decide) | ktr_units)); (try (case kPx26 => trivial)))
  intro p1 v1 k1 q1 u1 i1 n1 kp1 z1 F3 N3
  obtain ⟨a1, b1, rfl⟩ := ints2 i1
  walk_at "glyph walk"
  refine len_list N3 (.tail _ (.head _)) hvl (by omega) fun _ _ => ?_
  walk_at "glyph walk"
  (refine' ct_ints (ct_pair w (6 + 2 * (keysL ps).length) _) ?k1x27 ?k2x27 ?k3x27 ?k4x27 ?k5x27 ?kKx27 ?kPx27 ?kdx27 ?kux27 ?_; (case k1x27 => k_asm); (case k2x27 => k_asm); (case k3x27 => k_asm); (case k4x27 => k_asm); (case k5x27 => k_asm); (case kKx27 => first | exact rfl | assumption); (case kdx27 => (first | exact room0 (by assumption) | exact room2 (by assumption) (by decide) | ktr_room)); (case kux27 => (first | exact units2 (by assumption) (by decide) | ktr_units)); (try (case kPx27 => trivial)))
  intro p2 v2 k2 q2 u2 i2 n2 kp2 z2 F4 N4
  obtain ⟨a2, b2, rfl⟩ := ints2 i2
  walk_at "glyph walk"
  rename_i D1 _ _ N5 _
  refine len_list N5 (.tail _ (.tail _ (.tail _ (.head _)))) hvl (by omega) fun _ _ => ?_
  walk_at "glyph walk"
  (refine' ct_ints (ct_pair w (keysL ps).length _) ?k1x28 ?k2x28 ?k3x28 ?k4x28 ?k5x28 ?kKx28 ?kPx28 ?kdx28 ?kux28 ?_; (case k1x28 => k_asm); (case k2x28 => k_asm); (case k3x28 => k_asm); (case k4x28 => k_asm); (case k5x28 => k_asm); (case kKx28 => first | exact rfl | assumption); (case kdx28 => (first | exact room0 (by assumption) | exact room2 (by assumption) (by decide) | ktr_room)); (case kux28 => (first | exact units2 (by assumption) (by decide) | ktr_units)); (try (case kPx28 => trivial)))
  intro p3 v3 k3 q3 u3 i3 n3 kp3 z3 F6 N6
  obtain ⟨a3, b3, rfl⟩ := ints2 i3
  walk_at "glyph walk"
  rename_i O h6 lO h7 F7 N7
  clear i1 i2 i3 n1 n2 n3 kp1 kp2 kp3 z1 z2 z3
  have hSl : h7.get? S = some (PySem.W.listOf vs.toArray c) := (N7 (S, PySem.W.listOf vs.toArray c) (by k_mem)).1
  have hSn := (N7 (S, PySem.W.listOf vs.toArray c) (by k_mem)).2
  have hOS : O ≠ S := Nat.ne_of_gt lO.2.2.2.2
  refine for_keep g1 (by with_unfolding_all rfl) (by with_unfolding_all rfl) ?_ (by intro _; with_unfolding_all rfl)
  walk_at "glyph walk"
  refine ⟨S, vs.toArray, _, [(O, PySem.W.listOf #[Value.int (2 / 256) a1, Value.int (2 % 256) b1, Value.int ((6 + 2 * (keysL ps).length) / 256) a2, Value.int ((6 + 2 * (keysL ps).length) % 256) b2, Value.int ((keysL ps).length / 256) a3, Value.int ((keysL ps).length % 256) b3] 0)],
    DueJ O S d ps,
    rfl, rfl, ⟨_, hSl, rfl, _, rfl⟩, hSn.1.symm, F7, ?_, ?_, ⟨[_, _, _, _, _, _], 0, by with_unfolding_all rfl, by with_unfolding_all rfl, by with_unfolding_all rfl, rfl, ?_⟩, ?_, ?_⟩
  · intro p hp; rw [List.mem_singleton.mp hp]; exact N7 _ (.head _)
  · intro p hp; rw [List.mem_singleton.mp hp]; exact hOS
  · exact .cons _ _ (.cons _ _ (.cons _ _ (.cons _ _ (.cons _ _ (.cons _ _ .nil)))))
  · intro i x' m₁ news₁ own h tk hin hPx hJ hsep F N
    refine post_varQ fun Q2 hQ2 => ?_
    obtain ⟨vsO, kO, hm1, hm2, hm3, rfl, hO2⟩ := hJ
    obtain ⟨g, tg, hg, rfl⟩ := ints_at hi2 (by simpa using hPx)
    replace F := fr_know3 F (a := Str.ofString "octets") (b := Str.ofString "glyphs") (c := Str.ofString "mapping") (v := .ref O) (u := .ref S) (x := .ref d) (by rw [if_neg (by decide)]; exact hm1) (by rw [if_neg (by decide)]; exact hm2) (by rw [if_neg (by decide)]; exact hm3)
    simp only [List.cons_append, List.nil_append] at N
    have hkm : g ∈ ps.map (·.1) := keysL_mem (List.mem_of_getElem? hg)
    walk_at "glyph walk"
    (refine' ct_ints (ct_pair w (look ps g) _) ?k1x29 ?k2x29 ?k3x29 ?k4x29 ?k5x29 ?kKx29 ?kPx29 ?kdx29 ?kux29 ?_; (case k1x29 => k_asm); (case k2x29 => k_asm); (case k3x29 => k_asm); (case k4x29 => k_asm); (case k5x29 => k_asm); (case kKx29 => first | exact rfl | assumption); (case kdx29 => (first | exact room0 (by assumption) | exact room2 (by assumption) (by decide) | ktr_room)); (case kux29 => (first | exact units2 (by assumption) (by decide) | ktr_units)); (try (case kPx29 => trivial)))
    intro lp vsp kp hp' tkp hip hnep kpp hnp Fp Np
    obtain ⟨tap, tbp, rfl⟩ := ints2 hip
    walk_at "glyph walk"
    have hol : vsO.length ≤ 200 := by
      have e1 := hO2.length
      have e2 : (((keysL ps).take i).flatMap fun g => oct2 (look ps g)).length = 2 * ((keysL ps).take i).length := flat_lenF _ _
      have e3 : (keysL ps).length = vs.length := hi2.length.symm
      simp only [List.length_append, e2, List.length_take, oct2_len] at e1
      omega
    refine extend_list (pre := [(lp, _)]) (ys := [_, _]) Fp Np (.head _) (by simp) (by simp; omega) ?_ ?_ fun h4 F4 N4 => ?_
    · intro p hp; rw [List.mem_singleton.mp hp]; exact fun q => hnep _ (.head _) q.symm
    · intro p hp; exact hsep p hp O (.head _)
    walk_at "glyph walk"
    refine turnEndV (hQ2 .next _) [(O, PySem.W.listOf (vsO ++ [Value.int (look ps g / 256) tap, Value.int (look ps g % 256) tbp]).toArray (kO + 1))] F4 N4 ?_ ?_ ?_ ⟨_, _, by with_unfolding_all rfl, by with_unfolding_all rfl, by with_unfolding_all rfl, rfl, ?_⟩
    · intro p hp; rw [List.mem_singleton.mp hp]; exact .tail _ (.head _)
    · intro p hp; exact .tail _ (.tail _ hp)
    · exact hsep
    · rw [List.take_add_one, hg, List.flatMap_append, ← List.append_assoc]
      exact ints_app hO2 (.cons _ _ (.cons _ _ .nil))
  · rintro m' news' h tk ⟨vsO, kO, hm1, hm2, hm3, rfl, hO2⟩ F N hSk
    replace F := fr_know2 F hm1 hm2
    have N9 : News g1 L1 h [(O, PySem.W.listOf vsO.toArray kO), (S, PySem.W.listOf vs.toArray c)] := by
      intro p hp
      rcases List.mem_cons.mp hp with rfl | hp
      · exact N _ (.head _)
      · rw [List.mem_singleton.mp hp]; exact ⟨hSk _ hSl, hSn⟩
    clear N
    rw [List.take_of_length_le (by rw [List.size_toArray, hi2.length]; exact Nat.le_refl _)] at hO2
    walk_at "glyph walk"
    (refine' ct_ints (ct_cover w S vs (keysL ps) hi2 (by rw [keysL_len]; omega)) ?k1x30 ?k2x30 ?k3x30 ?k4x30 ?k5x30 ?kKx30 ?kPx30 ?kdx30 ?kux30 ?_; (case k1x30 => k_asm); (case k2x30 => k_asm); (case k3x30 => k_asm); (case k4x30 => k_asm); (case k5x30 => k_asm); (case kKx30 => first | exact rfl | assumption); (case kdx30 => (first | exact room0 (by assumption) | exact room2 (by assumption) (by decide) | ktr_room)); (case kux30 => (first | exact units2 (by assumption) (by decide) | ktr_units)); (try (case kPx30 => trivial)))
    · exact listOf_is (l := S) (vs := vs.toArray) (by k_asm) (by k_mem)
    intro p4 v4 k4 q4 u4 i4 n4 kp4 z4 F6 N6
    have hcl := coverL_len (gs := keysL ps) (by rw [keysL_len]; omega)
    have hfl : ((keysL ps).flatMap fun g => oct2 (look ps g)).length = 2 * (keysL ps).length := flat_lenF _ _
    have hkl := keysL_len ps
    have hsz : (oct2 2 ++ oct2 (6 + 2 * (keysL ps).length) ++ oct2 (keysL ps).length ++ (keysL ps).flatMap fun g => oct2 (look ps g)).length + (coverL (keysL ps)).length ≤ 1000 := by
      simp only [List.length_append, hfl, oct2_len]; omega
    refine kmk_add_ints (vs := vsO) (ws := v4) F6 N6 (listOf_is N6 (.tail _ (.head _))) (listOf_is N6 (.head _)) hO2 i4 (fun D us h8 F8 N8 l8 i8 => ?_) (Nat.le_trans hsz (by size_fits))
    walk_at "glyph walk"
    have hul : us.length ≤ 1000 := by
      have e := i8.length
      rw [List.length_append] at e
      omega
    refine bytes_K F8 N8 (listOf_is N8 (.head _)) i8 hb (Nat.le_trans hul (by size_fits)) rfl fun h9 t9 k9 F9 N9 _ => ?_
    exact hret _ _ _ (ext_of hX F9) ⟨_, rfl⟩
end
section
set_option maxHeartbeats 800000
theorem offCovof : True := by w_top off; trivial
theorem ct_covof (w : World) (d : Addr) (ps : List (Int × Int)) (hlen : ps.length < 64) : Ct w 206 [.ref d] 3 24 [] (fun h => Maps w h d ps)
    (fun h v h' => CovAt w h v h' (sortL (ps.map (·.1)))) := by
  (unfold Ct; dsimp only [Pr, KK, VW]; k_fill)
  intro loose mean mg mb dp un gd cn cs a ccd cl outer A₀ base h₀ L m s Q E B F X T hk ht hP hd hu hret
  have N : News h₀ L s.heap [] := News.nil
  refine wpAny_call ?_
  k_dflt (refine' own_call (binds := [(Str.ofString "glyphs", Value.ref d)]) ?k1x31 ?k2x31 ?k3x31 ?k4x31 ?k5x31 ?kAx31 ?kFx31 ?kKx31 ?k6x31 ?k7x31 ?k8x31 ?k9x31 ?kBx31 ?_ ?c2x31 ?c3x31 ?c4x31 ?c5x31; (case kAx31 => exact rfl); (case kFx31 => exact rfl); (case kKx31 => assumption); (case k1x31 => k_asm); (case k2x31 => k_asm); (case k3x31 => k_asm); (case k4x31 => k_asm); (case k5x31 => k_asm); (case k6x31 => k_is); (case k7x31 => k_is); (case k8x31 => (first | exact room0 (by assumption) | exact room2 (by assumption) (by decide) | ktr_room)); (case k9x31 => exact BindsTo.of_eq rfl); (case c5x31 => decide); (case kBx31 => exact locs rfl); (case c2x31 => exact rfl); (case c3x31 => exact rfl); (case c4x31 => exact rfl); k_whole; intro _ _ _ _ _ _ _ _ _ _; (try dsimp only); (try k_fold))
  rename_i g1 L1 h1 hX hXr F1 N1 B1 X1 T1
  refine post_var fun Q1 E1 hQ1 => ?_
  replace hret := fun v h' tk' a b => hQ1 (Flow.ret v) _ (hret v h' tk' a b)
  clear hQ1
  have hP1 : Maps w g1 d ps := hP.keep fun b o e => hX _ _ e List.not_mem_nil
  obtain ⟨od, hod⟩ : ∃ o, g1.get? d = some o := by
    obtain ⟨_, kvs, ⟨o, _, _, e, _⟩, _⟩ := hP1
    exact ⟨o, e⟩
  walk_at "glyph walk"
  rename_i D hD oD loD _ _ hiD _ lD h2 FB NB
  refine for_iter g1 (by with_unfolding_all rfl) (by with_unfolding_all rfl) ?_ (by intro _; with_unfolding_all rfl)
  walk_at "glyph walk"
  refine ⟨[d], ps.length, _, _, _, fun i m news => ∃ o, m (Str.ofString "found") = some (Value.ref D) ∧ news = [(D, o)] ∧ DObj w o ((ps.take i).map fun p => (p.1, Value.bool true)),
    rfl, iter_map (hP1.keep FB.keep), ?_, FB, NB, ?_, ⟨_, by with_unfolding_all rfl, rfl, hiD⟩, ?_, ?_⟩
  · intro q; exact not_frame FB hod (List.mem_singleton.mp q)
  · intro p hp q; exact not_led NB hod p hp (List.mem_singleton.mp q)
  · intro i x' m₁ news₁ own h tk hin hPx hJ hsep F N
    refine post_varQ fun Q2 hQ2 => ?_
    obtain ⟨o, hm1, rfl, hx⟩ := hJ
    obtain ⟨p, tp, hpi, rfl⟩ := hPx
    replace F := fr_know F (a := Str.ofString "found") (v := .ref D) (by rw [if_neg (by decide)]; exact hm1)
    walk_at "glyph walk"
    have hnd : p.1 ∉ ((ps.take i).map fun p => (p.1, Value.bool true)).map (·.1) := by
      have hs : ((ps.take i ++ [p]).map (·.1)).Nodup := by
        have e : ps.take (i + 1) = ps.take i ++ [p] := by rw [List.take_add_one, hpi]; rfl
        rw [← e]; exact hP1.nodup.sublist ((List.take_sublist _ _).map _)
      rw [List.map_append] at hs
      intro hm
      rw [List.map_map] at hm
      exact (List.nodup_append.mp hs).2.2 _ hm _ (.head _) rfl
    refine dict_put (pre := []) F N hx hnd (by rw [List.length_map, List.length_take]; omega) (fun p hp => nomatch hp) (fun p hp => hsep p hp D (.head _)) fun h4 o4 tk4 F4 N4 x4 => ?_
    walk_at "glyph walk"
    refine turnEndV (hQ2 .next _) [(D, o4)] F4 N4 (fun p hp => ?_) (fun p hp => .tail _ hp) hsep ⟨o4, by with_unfolding_all rfl, rfl, ?_⟩
    · rw [List.mem_singleton.mp hp]; exact .head _
    · rw [List.take_add_one, hpi, List.map_append]
      exact x4
  · rintro m' news' h tk ⟨o, hm1, rfl, hx⟩ F N
    replace F := fr_know F hm1
    walk_at "glyph walk"
    rw [List.take_of_length_le (Nat.le_refl _)] at hx
    refine sorted_dict loD (of_dobj (N _ (.head _)).1 hx) rfl F N (by rw [List.length_map]; exact hlen) fun S vs c h4 tk4 F4 N4 l4 i4 => ?_
    rw [List.map_map] at i4
    walk_at "glyph walk"
    refine tuple_of F4 N4 (listOf_is N4 (.head _)) (by rw [i4.length, (sortL_perm _).length_eq, List.length_map]; omega) fun T2 h5 F5 N5 l5 => ?_
    walk_at "glyph walk"
    (refine' call_cls ?k1x34 ?k2x34 ?k3x34 ?k4x34 ?k5x34 ?k6x34 ?_; (case k1x34 => k_asm); (case k2x34 => k_asm); (case k3x34 => k_asm); (case k4x34 => k_is); (case k5x34 => k_is); (case k6x34 => k_is); k_whole)
    intro x dx h6 F6 N6 l6 l7
    k_lt l6
    k_lt2 l7
    k_dflt (refine' own_call (binds := [(Str.ofString "self", Value.ref x), (Str.ofString "glyphs", Value.ref T2)]) ?k1x33 ?k2x33 ?k3x33 ?k4x33 ?k5x33 ?kAx33 ?kFx33 ?kKx33 ?k6x33 ?k7x33 ?k8x33 ?k9x33 ?kBx33 ?_ ?c2x33 ?c3x33 ?c4x33 ?c5x33; (case kAx33 => exact rfl); (case kFx33 => exact rfl); (case kKx33 => exact rfl); (case k1x33 => k_asm); (case k2x33 => k_asm); (case k3x33 => k_asm); (case k4x33 => k_asm); (case k5x33 => k_asm); (case k6x33 => k_is); (case k7x33 => k_is); (case k8x33 => (first | exact room0 (by assumption) | exact room2 (by assumption) (by decide) | ktr_room)); (case k9x33 => exact BindsTo.of_eq rfl); (case c5x33 => decide); (case kBx33 => exact locs rfl); (case c2x33 => exact rfl); (case c3x33 => exact rfl); (case c4x33 => exact rfl); k_whole; intro _ _ _ _ _ _ _ _ _ _; (try dsimp only); (try k_fold))
    rename_i g2 L2 h2 hX2 hXr2 F2 N2 B2 X2 Tp2
    walk_at "glyph walk"
    rename_i F7 N7
    have F8 := fr_back F6 N6 hX2 F7
    have N8 := news_back N6 N7 (same_addrs rfl)
    exact ⟨rfl, hret _ _ _ (ext_of hX F8) ⟨x, dx, T2, vs, _, rfl, fresh_of hX N8 (.head _) List.not_mem_nil, fresh_of hX N8 (.tail _ (.head _)) List.not_mem_nil, fresh_of hX N8 (.tail _ (.tail _ (.head _))) List.not_mem_nil,
      (N8 _ (.head _)).1, (N8 _ (.tail _ (.head _))).1, (N8 _ (.tail _ (.tail _ (.head _)))).1, i4, l6.1, l7⟩⟩
end
section
theorem offDictL : True := by w_top off; trivial
theorem lk_list_keys : typeLookup (.type "list") "keys" = pure none := by rw [typeLookup_type, builtinLookup_eq_fast]; kernel_rfl
section
variable {prog : Program} {w : World} {A : Around} {E : Value → Shared → Prop} {s : Shared} {a : Addr}
theorem keys_miss {items : Array Value} {k : Nat} {Q : Option Value → Shared → Prop} (hx : s.heap.get? a = some (PySem.W.listOf items k)) (hA : A.handled = none)
    (h : ∀ h' tk, (∀ b o, s.heap.get? b = some o → h'.get? b = some o) → Q none { s with heap := h', toks := tk }) :
    wpAny (model prog w) A (getAttr? (.ref a) "keys") Q E s := by
  obtain ⟨hp, g, d, tk, os⟩ := s
  have hT : ∀ tk', (⟨hp, g, d, tk', os⟩ : Shared).TypeIs (.ref a) "list" := fun _ => ⟨_, hx, rfl⟩
  have f1 := sub_AttributeError
  have f3 := F.slot_list_getattribute.lookup
  have f4 := F.slot_list_getattribute.bind (.ref a)
  have f5 := am_list_getattr_none
  unfold getAttr? getAttrBy? getAttrBy
  repeat (any_goals (first | assumption | exact hT _ | ((with_reducible show wpAny _ _ (call (Value.builtin "list.__getattribute__") _ _) _ _ _); refine call_meets F.slot_list_getattribute (hT _) am_entry_list_getattribute (F.args_list_getattribute_2 _ _) (meets_getattribute_miss_list a items k #[] "keys" _ lk_list_keys (by decide)) ⟨hx, hA, fun h' tk' e hx' => ?_⟩) | wp_step))
  obtain ⟨t', u', he⟩ := hx'.there
  show wpAny _ _ (getattributeRaised _ _ _ _ _ _ _) _ _ _
  unfold getattributeRaised
  repeat (any_goals (first | assumption | wp_step))
  exact h _ _ hx'.keeps
theorem entry_upd : entryFor table "dict.update.loop" = some Builtin.«dict.update.loop» := entryFor_of_tree (by kernel_rfl)
theorem plain_upd : plainId "dict.update.loop" = true := by decide +kernel
theorem update_loop {R : Result → Shared → Prop} {I : Addr} {fp : List Addr} {n : Nat} {P : Nat → Value → Prop} {St : Nat → Heap → Prop} (W : Walks Pr w A.in1 I fp [I] n P St) (D : Addr) (hDf : D ∉ fp) (ps : List (Int × Int)) (hps : ps.length = n) (hnd : (ps.map (·.1)).Nodup) (hz : n ≤ 1000) (Tu : Addr → Obj → Prop) (hTu : ∀ T o, Tu T o → T ≠ D ∧ T ≠ I)
    (hval : ∀ i v, P i v → ∃ T o p, v = .ref T ∧ Tu T o ∧ ps[i]? = some p ∧ intPair o p) :
    ∀ (k i : Nat) (s : Shared), n - i = k → i ≤ n → St i s.heap → (∀ T o, Tu T o → s.heap.get? T = some o) →
      (∃ kvs, s.heap.DictOf (intKind Pr w) D kvs ∧ Paired KvIs kvs (ps.take i)) →
      (∀ h' tk, (∀ b o, b ≠ D → b ≠ I → s.heap.get? b = some o → h'.get? b = some o) → (∃ kvs, h'.DictOf (intKind Pr w) D kvs ∧ Paired KvIs kvs ps) → R (.ok (.ret .none)) { s with heap := h', toks := tk }) →
      codeAny (model Pr w) A (.builtin "dict.update.loop" ⟨[.ref D, .ref I, rawInt i, .none], []⟩) R s := by
  have hIf : I ∈ fp := W.sub I (List.mem_singleton.mpr rfl)
  have hDI : D ≠ I := fun e => hDf (e ▸ hIf)
  intro k
  induction k with
  | zero =>
    intro i s hk hi hst hT hS hR
    have hin : i = n := by omega
    subst hin
    refine codeAny_builtin entry_upd ?_
    rw [Around.under_plainId plain_upd _]
    show wpAny _ A.in1 (pyNext (.ref I) >>= _) _ _ s
    refine wpAny_bind (W.done s _ _ hst fun h' tk hm => ?_)
    show wpAny _ A.in1 (Builtin.Dict.addKeywords D [] >>= _) _ _ _
    refine wpAny_bind (wpAny_pure (wpAny_pure (hR h' tk (fun b o hb hb2 e => hm b o (by simpa using hb2) e) ?_)))
    obtain ⟨kvs, hd, hp⟩ := hS
    rw [List.take_of_length_le (Nat.le_of_eq hps)] at hp
    exact ⟨kvs, hd.at fun o e => hm D o (by simpa using hDI) e, hp⟩
  | succ k ih =>
    intro i s hk hi hst hT hS hR
    have hlt : i < n := by omega
    refine codeAny_builtin entry_upd ?_
    rw [Around.under_plainId plain_upd _]
    show wpAny _ A.in1 (pyNext (.ref I) >>= _) _ _ s
    refine wpAny_bind (W.item i s _ _ hlt hst fun v h1 tk1 hP hst' hm => ?_)
    obtain ⟨T, o, p, rfl, hTo, hpi, t1, t2, rfl⟩ := hval i v hP
    obtain ⟨kvs, hd, hp⟩ := hS
    have hT1 : ∀ T o, Tu T o → h1.get? T = some o := fun T o h => hm T o (by simpa using (hTu T o h).2) (hT T o h)
    have hd1 : h1.DictOf (intKind Pr w) D kvs := hd.at fun o e => hm D o (by simpa using hDI) e
    have ho := hT1 T _ hTo
    show wpAny _ A.in1 (holding [Value.ref T] _ >>= _) _ _ _
    refine wpAny_bind (wpAny_holding ?_)
    refine wpAny_bind (wpAny_tryCatch ?_)
    unfold Builtin.Dict.pairItems
    refine wpAny_bind (wpAny_typeOf (T := "tuple") ⟨_, ho, rfl⟩ ?_)
    first | refine wpAny_pos (by decide) ?_ | refine wpG_pos (by decide) ?_ | rw [if_pos (by decide)]
    refine wpAny_bind (wpAny_seqItems ho rfl (wpAny_pure ?_))
    show wpAny _ _ (holding _ (dictSet D (.int p.1 t1) (.int p.2 t2))) _ _ _
    have hst3 : stored kvs p.1 (.int p.2 t2) = kvs ++ [(p.1, .int p.2 t2)] := by
      refine stored_absent ?_ _
      have hs : ((ps.take i ++ [p]).map (·.1)).Nodup := by
        have e : ps.take (i + 1) = ps.take i ++ [p] := by rw [List.take_add_one, hpi]; rfl
        rw [← e]; exact hnd.sublist ((List.take_sublist _ _).map _)
      rw [List.map_append] at hs
      unfold valueAt
      rw [List.find?_eq_none.mpr (fun q hq => by
        rw [decide_eq_true_eq]
        intro e
        refine (List.nodup_append.mp hs).2.2 q.1 ?_ p.1 (.head _) e
        rw [← paired_keys hp]
        exact List.mem_map_of_mem (f := fun x : Int × Value => x.1) hq)]
      rfl
    refine wpAny_holding (wpAny_dictSet_pairs (knd := intKind Pr w) (k := p.1) (by simp [intKind, Value.isInt]) hd1 (fun h2 hd2 hs2 => ?_) (Nat.le_trans (by have := hp.length; rw [List.length_take] at this; omega : kvs.length ≤ 1000) (by size_fits)))
    rw [hst3] at hd2
    refine wpAny_pure ⟨plainId_quiet plain_upd _, ?_⟩
    refine ih (i + 1) _ (by omega) hlt (W.frame _ _ _ hst' fun b hb o e => ?_) (fun T' o' h => ?_) ⟨_, hd2, ?_⟩ fun h' tk hk' hS' => ?_
    · rw [hs2.2 b (fun h : b = D => hDf (by rw [← h]; exact hb))]; exact e
    · show h2.get? T' = some o'
      rw [hs2.2 T' (hTu T' o' h).1]; exact hT1 T' o' h
    · rw [List.take_add_one, hpi]
      exact paired_app hp (.cons ⟨rfl, _, rfl⟩ .nil)
    · refine hR h' tk (fun b o hb hb2 e => hk' b o hb hb2 ?_) hS'
      show h2.get? b = some o
      rw [hs2.2 b hb]; exact hm b o (by simpa using hb2) e

theorem dict_of_list {h₀ : Heap} {L : Addr} {m : Str → Option Value} {news : List (Addr × Obj)} {l : Addr} {tl : List (Addr × Obj)} {ps : List (Int × Int)} {k : Nat} {Q : Value → Shared → Prop} (FF : Fr h₀ L s.heap m) (N : News h₀ L s.heap news) (hm : (l, PySem.W.listOf (refs tl).toArray k) ∈ news) (htl : ∀ p ∈ tl, p ∈ news)
    (hp : Pairs2 tl ps) (hnd : (ps.map (·.1)).Nodup) (hz : ps.length ≤ 1000) (hA : A.handled = none) (hbig : h₀.NoLimit)
    (h : ∀ d h' tk o kvs, Fr h₀ L h' m → News h₀ L h' ((d, o) :: news) → (∀ q ∈ news, q.1 < d) → (d == sysModules) = false → o.IsDictOf (intKind Pr w) kvs → Paired KvIs kvs ps → Q (.ref d) { s with heap := h', toks := tk }) :
    wpAny (model Pr w) A (call (.type "dict") [.ref l]) Q E s := by
  have hl0 := (N _ hm).1
  refine callType_codes (Q₁ := fun obj s₁ => obj = .ref s.heap.objs.size ∧ s₁ = { s with heap := s.heap.push { cls := .type "dict", data := .dict #[] } }) PySem.F.kt_called_dict (PySem.F.kt_typeCall_dict_1 _) PySem.F.entry_dict_init (kt_code_dict_new _ ⟨rfl, rfl⟩) ?_
  rintro obj s₁ ⟨rfl, rfl⟩
  have hnew : (s.heap.push { cls := .type "dict", data := .dict #[] }).DictOf (intKind Pr w) s.heap.objs.size [] := Heap.DictOf.new s.heap
  have hl : (s.heap.push { cls := .type "dict", data := .dict #[] }).get? l = some (PySem.W.listOf (refs tl).toArray k) := Heap.get?_push_of_some _ hl0
  refine ⟨hnew.typeIs, PySem.F.args_dict_init_2 _ _, ?_⟩
  unfold Builtin.«dict.__init__»
  refine wpAny_bind ?_
  unfold Builtin.Dict.selfAndRest
  refine wpAny_bind (wpAny_notOrdered_dict hnew.typeIs ?_)
  show wpAny _ _ (pure (s.heap.objs.size, [Value.ref l])) _ _ _
  refine wpAny_pure ?_
  show wpAny _ _ (Builtin.Dict.updateFrom "dict.__init__" s.heap.objs.size (.ref l) [] .none) _ _ _
  unfold Builtin.Dict.updateFrom
  refine wpAny_bind (wpAny_typeOf (T := "list") ⟨_, hl, rfl⟩ ?_)
  first | refine wpAny_pos (by decide) ?_ | refine wpG_pos (by decide) ?_ | rw [if_pos (by decide)]
  refine wpAny_bind (keys_miss hl hA fun h1 tk1 k1 => ?_)
  rw [if_pos (by rfl)]
  have hl1 : h1.IsList l (refs tl).toArray := ⟨_, k1 _ _ hl, rfl, k, rfl⟩
  refine wpAny_bind (wpAny_rule ?_)
  refine wpAny_bind (wpAny_pyIter_list hl1 ?_)
  refine wpAny_pure ⟨plainId_quiet plain_upd _, ?_⟩
  have hlh : l < h1.objs.size := Heap.lt_size (k1 _ _ hl)
  have up : ∀ b o, s.heap.get? b = some o → h1.get? b = some o := fun b o e => k1 _ _ (Heap.get?_push_of_some _ e)
  have hD1 : s.heap.objs.size < h1.objs.size := by
    obtain ⟨o, _, _, e, _⟩ := hnew
    exact Heap.lt_size (k1 _ _ e)
  have hlD : l ≠ s.heap.objs.size := Nat.ne_of_lt (Heap.lt_size hl0)
  have htls : ∀ p ∈ tl, s.heap.get? p.1 = some p.2 := fun p hp => (N _ (htl p hp)).1
  refine update_loop (A := A.in1) (n := (refs tl).toArray.size) (Walks.list (A := A.in1.in1) hA h1.objs.size l (Nat.ne_of_lt hlh) (refs tl).toArray) s.heap.objs.size ?_ ps (by rw [List.size_toArray, List.length_map, hp.length]) hnd (by rw [List.size_toArray, List.length_map, hp.length]; exact hz) (fun T o => (T, o) ∈ tl) (fun T o hTo => ⟨Nat.ne_of_lt (Heap.lt_size (htls _ hTo)), Nat.ne_of_lt (Heap.lt_size (up _ _ (htls _ hTo)))⟩) (fun i v hv => ?_) _ 0 _ rfl (Nat.zero_le _) ?_ ?_ ?_ ?_
  · simp only [List.mem_cons, List.not_mem_nil, or_false, not_or]
    exact ⟨Nat.ne_of_lt hD1, fun e => hlD e.symm⟩
  · obtain ⟨p, hpi, rfl⟩ := refs_at hv
    obtain ⟨q, hq, hi⟩ := paired_at hp hpi
    exact ⟨_, _, _, rfl, List.mem_of_getElem? hpi, hq, hi⟩
  · exact ⟨⟨_, Heap.get?_push_size _ rfl, rfl, rfl⟩, hl1.push _⟩
  · exact fun T o hTo => Heap.get?_push_of_some _ (up _ _ (htls _ hTo))
  · exact ⟨[], (hnew.keep k1).push _, .nil⟩
  · rintro h' tk hk ⟨kvs, hd, hpd⟩
    obtain ⟨o, ho, hdo⟩ := Heap.dictOf_iff.mp hd
    have kp : ∀ b o, s.heap.get? b = some o → h'.get? b = some o := fun b o e => hk b o (Nat.ne_of_lt (Heap.lt_size e)) (Nat.ne_of_lt (Heap.lt_size (up _ _ e))) (Heap.get?_push_of_some _ (up _ _ e))
    obtain ⟨F', N'⟩ := news_one FF N kp (Heap.get?_none_of_le (Nat.le_refl _)) ho
    refine ⟨rfl, h _ h' tk o kvs F' N' (fun q hq => Heap.lt_size (N q hq).1) ?_ hdo hpd⟩
    exact FF.notModules (modules_low hbig)
end
end
section
theorem offDrawU : True := by w_top off; trivial
/-- the pot's two objects -/
inductive PotO (n : Int) (P C : Addr) (oP oC : Obj) : Prop
  | mk : P ≠ C → ∀ a b t1 t2 k cs ns kc, oP = PySem.W.listOf #[.ref C, .int a t1, .int b t2] k → oC = PySem.W.listOf (List.toArray cs) kc → IntsAre cs ns → ns.length ≤ 63 → 0 ≤ b → b ≤ n → PotO n P C oP oC
theorem PotO.ne {n : Int} {P C : Addr} {oP oC : Obj} (x : PotO n P C oP oC) : P ≠ C := by cases x; assumption
theorem PotO.mono {n k : Int} {P C : Addr} {oP oC : Obj} (x : PotO n P C oP oC) (h : n ≤ k) : PotO k P C oP oC := by
  obtain ⟨a, b, c, d, e, f, g, i, j, e1, e2, r1, r2, r3, r4⟩ := x
  exact ⟨a, b, c, d, e, f, g, i, j, e1, e2, r1, r2, r3, Int.le_trans r4 h⟩
theorem potAt_of {n : Int} {P C : Addr} {h : Heap} (x : PotAt n h P C) : ∃ oP oC, h.get? P = some oP ∧ h.get? C = some oC ∧ PotO n P C oP oC := by
  obtain ⟨a, b, c, d, e, f, g, i, j, h1, h2, r1, r2, r3, r4⟩ := x
  exact ⟨_, _, h1, h2, a, b, c, d, e, f, g, i, j, rfl, rfl, r1, r2, r3, r4⟩
theorem of_potO {n : Int} {P C : Addr} {oP oC : Obj} {h : Heap} (h1 : h.get? P = some oP) (h2 : h.get? C = some oC) (x : PotO n P C oP oC) : PotAt n h P C := by
  obtain ⟨a, b, c, d, e, f, g, i, j, rfl, rfl, r1, r2, r3, r4⟩ := x
  exact ⟨a, b, c, d, e, f, g, i, j, h1, h2, r1, r2, r3, r4⟩
theorem news_rot {h₀ h : Heap} {L : Addr} {r p c : Addr × Obj} {rest : List (Addr × Obj)} (N : News h₀ L h (r :: p :: c :: rest)) : News h₀ L h (p :: c :: r :: rest) := fun x hx => N x (by
  simp only [List.mem_cons] at hx ⊢
  rcases hx with h | h | h | h
  · exact .inr (.inl h)
  · exact .inr (.inr (.inl h))
  · exact .inl h
  · exact .inr (.inr (.inr h)))
theorem off_one {a b : Addr} {o : Obj} (h : b ≠ a) : ∀ p ∈ [(b, o)], p.1 ≠ a := fun p hp => by rw [List.mem_singleton.mp hp]; exact h
theorem paired_rev {α β : Type} {F : α → β → Prop} {l : List α} {r : List β} (h : Paired F l r) : Paired F l.reverse r.reverse := by
  induction h with
  | nil => exact .nil
  | cons f _ ih => rw [List.reverse_cons, List.reverse_cons]; exact ih.snoc f
theorem paired_at' {α β : Type} {F : α → β → Prop} : ∀ {l : List α} {r : List β} {i : Nat} {b : β}, Paired F l r → r[i]? = some b → ∃ a, l[i]? = some a ∧ F a b
  | _, _, i, b, .nil, h => by simp at h
  | _, _, 0, b, .cons f _, h => by cases h; exact ⟨_, rfl, f⟩
  | _, _, i + 1, b, .cons _ t, h => paired_at' (i := i) t h
theorem paired_get {α β : Type} {F : α → β → Prop} : ∀ {l : List α} {r : List β}, l.length = r.length → (∀ (i : Nat) a b, l[i]? = some a → r[i]? = some b → F a b) → Paired F l r
  | [], [], _, _ => .nil
  | [], _ :: _, h, _ => by simp at h
  | _ :: _, [], h, _ => by simp at h
  | a :: l, b :: r, h, f => .cons (f 0 a b rfl rfl) (paired_get (by simpa using h) fun i a b x y => f (i + 1) a b x y)
theorem sub_two0 {prog : Program} {w : World} {A : Around} {E : Value → Shared → Prop} {s : Shared} {value slice : Expr} {T : Addr} {x y : Value} {t : Tok} {Q : Value → Shared → Prop} (hT : s.heap.IsList T #[x, y]) (h : Q x s)
    (hs : subscripted slice false (.ref T) (.int 0 t) = operate [.ref T, .int 0 t] (getItem (.ref T) (.int 0 t)) := by with_unfolding_all rfl) (hg : ∀ r, letTemporaryGo value (.ref T) r = pure () := by intro _; with_unfolding_all rfl) :
    wpAny (model prog w) A (subscriptTail value slice (.ref T) (.int 0 t)) Q E s := item_listL (l := [x, y]) hT (by decide) (by decide) rfl h hs hg
theorem sub_two1 {prog : Program} {w : World} {A : Around} {E : Value → Shared → Prop} {s : Shared} {value slice : Expr} {T : Addr} {x y : Value} {t : Tok} {Q : Value → Shared → Prop} (hT : s.heap.IsList T #[x, y]) (h : Q y s)
    (hs : subscripted slice false (.ref T) (.int 1 t) = operate [.ref T, .int 1 t] (getItem (.ref T) (.int 1 t)) := by with_unfolding_all rfl) (hg : ∀ r, letTemporaryGo value (.ref T) r = pure () := by intro _; with_unfolding_all rfl) :
    wpAny (model prog w) A (subscriptTail value slice (.ref T) (.int 1 t)) Q E s := item_listL (l := [x, y]) hT (by decide) (by decide) rfl h hs hg
theorem range8 {n : Int} (h0 : 0 ≤ n) (h1 : n < 8) : Builtin.Range.small 0 n 1 = true ∧ Builtin.Range.rangeSize 0 n 1 = (n.toNat : Int) := by
  have : n = 0 ∨ n = 1 ∨ n = 2 ∨ n = 3 ∨ n = 4 ∨ n = 5 ∨ n = 6 ∨ n = 7 := by omega
  rcases this with rfl | rfl | rfl | rfl | rfl | rfl | rfl | rfl <;> decide
theorem append_list {prog : Program} {w : World} {A : Around} {E : Value → Shared → Prop} {s : Shared} {h₀ : Heap} {L : Addr} {m : Str → Option Value} {D : Addr} {xs : List Value} {x : Value} {n : Nat} {Q : Value → Shared → Prop} {pre post : List (Addr × Obj)} (F : Fr h₀ L s.heap m) (N : News h₀ L s.heap (pre ++ (D, PySem.W.listOf xs.toArray n) :: post))
    (hz : xs.length ≤ 1000) (h1 : ∀ p ∈ pre, p.1 ≠ D) (h2 : ∀ p ∈ post, p.1 ≠ D)
    (h : ∀ h', Fr h₀ L h' m → News h₀ L h' (pre ++ (D, PySem.W.listOf (xs ++ [x]).toArray (n + 1)) :: post) → Q .none { s with heap := h' }) :
    wpAny (model prog w) A (call (.builtin "list.append") [.ref D, x]) Q E s := by
  have e : xs.toArray.push x = (xs ++ [x]).toArray := by simp
  refine append_K (its := xs.toArray) F N (upd_at (o' := PySem.W.listOf (xs.toArray.push x) (n + 1)) h2 h1) ?_ ?_
  · rw [e]; exact fun h' => h h'
  · have : (1000 : Nat) ≤ sizeLine := by size_fits
    rw [List.size_toArray]; omega
section
variable {w : World} {A₀ : Around} {s : Shared} {base h₀ : Heap} {outer : List Env} {L : Addr} {m : Str → Option Value} {rest : List (Addr × Obj)}
  {loose : List Str} {mean : ExcName → Option Value} {mg mb : Str → Option Value} {dp un : Nat} {gd : Option (List Code)} {cn : Str} {cs : Scope} {a : Addr} {ccd : Value} {cl : List (Str × Addr)} {Q E : Value → Shared → Prop}
theorem draw_use {P C : Addr} {oP oC : Obj} (lim n : Int) {tl : Tok} (B : Below A₀ base outer h₀) (F : Fr h₀ L s.heap m) (X : (KK w).In h₀) (T : Top VW loose mean mg mb h₀) (N : News h₀ L s.heap ((P, oP) :: (C, oC) :: rest)) (hk : cs.kind = .function)
    (hp : PotO n P C oP oC) (hl : 0 < lim ∧ lim ≤ 65536) (hn : n ≤ 1000) (hP : ∀ p ∈ rest, p.1 ≠ P) (hC : ∀ p ∈ rest, p.1 ≠ C)
    (hd : dp + 1 < recursionLimit) (hu : un + 8 < cLine)
    (hret : ∀ r t oP' oC' h' tk', 0 ≤ r → r < lim → PotO (n + 1) P C oP' oC' → Fr h₀ L h' m → News h₀ L h' ((P, oP') :: (C, oC') :: rest) → Q (.int r t) { s with heap := h', toks := tk' }) :
    wpAny (model Pr w) (ktrTop dp un gd cn cs L a ccd cl outer) (call (.ref 274) [.ref P, .int lim tl]) Q E s := by
  have hPn := (N _ (.head _)).2
  have hCn := (N _ (.tail _ (.head _))).2
  refine ct_draw w P C lim n tl hl hn _ _ _ _ _ _ _ _ _ _ _ _ _ _ _ _ _ _ _ _ _ B F X T hk (fun b hb => ?_) (of_potO (N _ (.head _)).1 (N _ (.tail _ (.head _))).1 hp) hd hu ?_
  · rcases List.mem_cons.mp hb with rfl | hb
    · exact ⟨hPn.2, hPn.1⟩
    · rw [List.mem_singleton.mp hb]; exact ⟨hCn.2, hCn.1⟩
  · rintro v h' tk' hX ⟨hp', r, t, rfl, h0, h1⟩
    obtain ⟨oP', oC', e1, e2, hp''⟩ := potAt_of hp'
    have off : ∀ b o, s.heap.get? b = some o → b ≠ P → b ≠ C → h'.get? b = some o := fun b o e n1 n2 => hX b o e (by simp [n1, n2])
    refine hret r t oP' oC' h' tk' h0 h1 hp'' ⟨F.ns.at' fun o e => off _ o e hPn.1.symm hCn.1.symm, fun b o e => off b o (F.keep b o e) (fun q => ?_) (fun q => ?_), F.above⟩ fun p hp => ?_
    · have := hPn.2; rw [← q, e] at this; cases this
    · have := hCn.2; rw [← q, e] at this; cases this
    · rcases List.mem_cons.mp hp with rfl | hp
      · exact ⟨e1, hPn⟩
      · rcases List.mem_cons.mp hp with rfl | hp
        · exact ⟨e2, hCn⟩
        · have q := N p (.tail _ (.tail _ hp))
          exact ⟨off _ _ q.1 (hP p hp) (hC p hp), q.2⟩
end
end
section
set_option maxHeartbeats 800000
theorem offPot : True := by w_top off; trivial
inductive PotP (h : Heap) (v : Value) (h' : Heap) : Prop
  | mk : ∀ P C, v = .ref P → h.get? P = none → h.get? C = none → PotAt 0 h' P C → PotP h v h'
theorem ct_pot (w : World) (sc : Addr) (vs : List Value) (ns : List Int) (hi : IntsAre vs ns) (hlen : ns.length ≤ 63) :
    Ct w 267 [.ref sc] 1 8 [] (fun h => h.IsList sc vs.toArray) PotP := by
  (unfold Ct; dsimp only [Pr, KK, VW]; k_fill)
  intro loose mean mg mb dp un gd cn cs a ccd cl outer A₀ base h₀ L m s Q E B F X T hk ht hP hd hu hret
  have N : News h₀ L s.heap [] := News.nil
  refine wpAny_call ?_
  k_dflt (refine' own_call (binds := [(Str.ofString "script", Value.ref sc)]) ?k1x35 ?k2x35 ?k3x35 ?k4x35 ?k5x35 ?kAx35 ?kFx35 ?kKx35 ?k6x35 ?k7x35 ?k8x35 ?k9x35 ?kBx35 ?_ ?c2x35 ?c3x35 ?c4x35 ?c5x35; (case kAx35 => exact rfl); (case kFx35 => exact rfl); (case kKx35 => assumption); (case k1x35 => k_asm); (case k2x35 => k_asm); (case k3x35 => k_asm); (case k4x35 => k_asm); (case k5x35 => k_asm); (case k6x35 => k_is); (case k7x35 => k_is); (case k8x35 => (first | exact room0 (by assumption) | exact room2 (by assumption) (by decide) | ktr_room)); (case k9x35 => exact BindsTo.of_eq rfl); (case c5x35 => decide); (case kBx35 => exact locs rfl); (case c2x35 => exact rfl); (case c3x35 => exact rfl); (case c4x35 => exact rfl); k_whole; intro _ _ _ _ _ _ _ _ _ _; (try dsimp only); (try k_fold))
  rename_i g1 L1 h1 hX hXr F1 N1 B1 X1 T1
  have hP1 : g1.IsList sc vs.toArray := hP.at fun o e => hX _ _ e List.not_mem_nil
  have hvl := hi.length
  k_steps
  rename_i g9 hI8 hL8 D9 h9 tk9 o9 P9 h10 F9 N9 l9
  refine hret _ _ _ (ext_of hX F9) ⟨P9, D9, rfl, fresh_of hX N9 (.head _) List.not_mem_nil, fresh_of hX N9 (.tail _ (.head _)) List.not_mem_nil, Nat.ne_of_gt l9.1, _, _, _, _, _, _, _, _, (N9 _ (.head _)).1, (N9 _ (.tail _ (.head _))).1, hI8, ?_, Int.le_refl _, Int.le_refl _⟩
  rw [List.length_map, List.length_map, List.length_take]
  omega
end
section
set_option maxHeartbeats 8000000
theorem offMapping : True := by w_top off; trivial
local macro_rules | `(tactic| k_all) => `(tactic| assumption)
local macro_rules | `(tactic| walk_at "subscriptTail Name Slice ref ref") => `(tactic| (refine' krv_lit ?F ?N ?l ?k rfl ?_ ?s ?t ?z; (case F => k_asm); (case N => k_asm); (case l => exact listOf_is (by k_asm) (by k_mem)); (case k => exact IsPart.int _ _); (case s => with_unfolding_all rfl); (case t => intro _; with_unfolding_all rfl); (case z => assumption); intro D' h' F' N' l1))
local macro_rules | `(tactic| walk_at "newTuple") => `(tactic| refine wpAny_newTuple ?_)
local macro_rules | `(tactic| walk_at "subscriptTail") => `(tactic| first | (refine sub_two0 (by assumption) ?_) | (refine sub_two1 (by assumption) ?_))
/-- what a drawn mapping is -/
def Drawn7 (ps : List (Int × Int)) : Prop := ps.length ≤ 7 ∧ ∀ p ∈ ps, 0 ≤ p.1 ∧ p.1 < 65536 ∧ 0 ≤ p.2 ∧ p.2 < 65536

inductive MapP (w : World) (h : Heap) (v : Value) (h' : Heap) : Prop
  | mk : ∀ d ps o kvs, v = .ref d → h.get? d = none → h'.get? d = some o → (d == sysModules) = false → o.IsDictOf (intKind Pr w) kvs → Paired KvIs kvs ps → Drawn7 ps → MapP w h v h'
inductive MapJ (P C R : Addr) (r1 r4 : Int) (t4 : Tok) (i : Nat) (m : Str → Option Value) (news : List (Addr × Obj)) : Prop
  | mk : ∀ oP oC tl ps k gl tg, news = (P, oP) :: (C, oC) :: (R, PySem.W.listOf (refs tl).toArray k) :: tl → PotO (5 + 3 * i) P C oP oC → Pairs2L tl ps → ps.length = i → (∀ p ∈ ps, 0 ≤ p.1 ∧ p.1 ≤ gl ∧ 0 ≤ p.2 ∧ p.2 < 65536) → (ps.map (·.1)).Nodup → 0 ≤ gl → gl ≤ 42000 + 710 * i → (∀ p ∈ tl, p.1 ≠ P ∧ p.1 ≠ C ∧ p.1 ≠ R) → m (Str.ofString "pot") = some (Value.ref P) → m (Str.ofString "rows") = some (Value.ref R) → m (Str.ofString "is_shifted") = some (Value.bool (decide (0 < r1))) → m (Str.ofString "glyph") = some (Value.int gl tg) → m (Str.ofString "shift") = some (Value.int r4 t4) → MapJ P C R r1 r4 t4 i m news
inductive MapS (P C : Addr) (tl : List (Addr × Obj)) (ps : List (Int × Int)) (g1 : Heap) (L1 : Addr) (s : Shared) (v : Value) (s' : Shared) : Prop
  | mk : ∀ S kS tl' ps' led h4 tk4 m4, v = .ref S → s' = { s with heap := h4, toks := tk4 } → Fr g1 L1 h4 m4 → News g1 L1 h4 led → (S, PySem.W.listOf (refs tl').toArray kS) ∈ led → (∀ p ∈ tl', p ∈ tl) → Pairs2L tl' ps' → ps'.Perm ps → (∀ p ∈ tl, p ∈ led) → (∃ oz, (P, oz) ∈ led) → (∃ cz, (C, cz) ∈ led) → MapS P C tl ps g1 L1 s v s'
theorem ct_mapping (w : World) (P C : Addr) : Ct w 286 [.ref P] 2 16 [P, C] (fun h => PotAt 0 h P C)
    (MapP w) := by
  (unfold Ct; dsimp only [Pr, KK, VW]; k_fill)
  intro loose mean mg mb dp un gd cn cs a ccd cl outer A₀ base h₀ L m s Q E B F X T hk ht hP hd hu hret
  obtain ⟨oP0, oC0, hp1, hp2, hpot0⟩ := potAt_of hP
  have hPC : P ≠ C := hpot0.ne
  have hCP : C ≠ P := hPC.symm
  have N : News h₀ L s.heap [(P, oP0), (C, oC0)] := by
    intro p hp
    rcases List.mem_cons.mp hp with rfl | hp
    · exact ⟨hp1, (ht P (.head _)).2, (ht P (.head _)).1⟩
    · rw [List.mem_singleton.mp hp]; exact ⟨hp2, (ht C (.tail _ (.head _))).2, (ht C (.tail _ (.head _))).1⟩
  refine wpAny_call ?_
  k_dflt (refine' own_call (binds := [(Str.ofString "pot", Value.ref P)]) ?k1x37 ?k2x37 ?k3x37 ?k4x37 ?k5x37 ?kAx37 ?kFx37 ?kKx37 ?k6x37 ?k7x37 ?k8x37 ?k9x37 ?kBx37 ?_ ?c2x37 ?c3x37 ?c4x37 ?c5x37; (case kAx37 => exact rfl); (case kFx37 => exact rfl); (case kKx37 => assumption); (case k1x37 => k_asm); (case k2x37 => k_asm); (case k3x37 => k_asm); (case k4x37 => k_asm); (case k5x37 => k_asm); (case k6x37 => k_is); (case k7x37 => k_is); (case k8x37 => (first | exact room0 (by assumption) | exact room2 (by assumption) (by decide) | ktr_room)); (case k9x37 => exact BindsTo.of_eq rfl); (case c5x37 => decide); (case kBx37 => exact locs rfl); (case c2x37 => exact rfl); (case c3x37 => exact rfl); (case c4x37 => exact rfl); k_whole; intro _ _ _ _ _ _ _ _ _ _; (try dsimp only); (try k_fold))
  rename_i g1 L1 h1 hX hXr F1 N1 B1 X1 T1
  refine post_var fun Q1 E1 hQ1 => ?_
  replace hret := fun v h' tk' a b => hQ1 (Flow.ret v) _ (hret v h' tk' a b)
  clear hQ1
  walk_at "glyph walk"
  rename_i R hR lR h2 F2 N2
  have hRP : R ≠ P := Nat.ne_of_gt lR.1
  have hRC : R ≠ C := Nat.ne_of_gt lR.2
  have hPR : P ≠ R := hRP.symm
  have hCR : C ≠ R := hRC.symm
  (refine' draw_use 3 0 ?k1x39 ?k2x39 ?k3x39 ?k4x39 (news_rot N2) ?kKx39 hpot0 ⟨?l1x39, ?l2x39⟩ ?hnx39 ?hPx39 ?hCx39 ?kdx39 ?kux39 ?_; (case k1x39 => k_asm); (case k2x39 => k_asm); (case k3x39 => k_asm); (case k4x39 => k_asm); (case kKx39 => first | exact rfl | assumption); (case l1x39 => first | decide | omega); (case l2x39 => first | decide | omega); (case hnx39 => first | decide | omega); (case kdx39 => (first | exact room0 (by assumption) | exact room2 (by assumption) (by decide) | ktr_room)); (case kux39 => (first | exact units2 (by assumption) (by decide) | ktr_units)))
  · exact off_one hRP
  · exact off_one hRC
  intro r1 t1 o1 c1 q1 u1 b1 b1' p1 F3 N3
  walk_at "glyph walk"
  rename_i _ F3 N3
  (refine' draw_use 3 1 ?k1x40 ?k2x40 ?k3x40 ?k4x40 N3 ?kKx40 p1 ⟨?l1x40, ?l2x40⟩ ?hnx40 ?hPx40 ?hCx40 ?kdx40 ?kux40 ?_; (case k1x40 => k_asm); (case k2x40 => k_asm); (case k3x40 => k_asm); (case k4x40 => k_asm); (case kKx40 => first | exact rfl | assumption); (case l1x40 => first | decide | omega); (case l2x40 => first | decide | omega); (case hnx40 => first | decide | omega); (case kdx40 => (first | exact room0 (by assumption) | exact room2 (by assumption) (by decide) | ktr_room)); (case kux40 => (first | exact units2 (by assumption) (by decide) | ktr_units)))
  · exact off_one hRP
  · exact off_one hRC
  intro r2 t2 o2 c2 q2 u2 b2 b2' p2 F4 N4
  walk_at "glyph walk"
  (refine' draw_use 21000 2 ?k1x41 ?k2x41 ?k3x41 ?k4x41 N4 ?kKx41 p2 ⟨?l1x41, ?l2x41⟩ ?hnx41 ?hPx41 ?hCx41 ?kdx41 ?kux41 ?_; (case k1x41 => k_asm); (case k2x41 => k_asm); (case k3x41 => k_asm); (case k4x41 => k_asm); (case kKx41 => first | exact rfl | assumption); (case l1x41 => first | decide | omega); (case l2x41 => first | decide | omega); (case hnx41 => first | decide | omega); (case kdx41 => (first | exact room0 (by assumption) | exact room2 (by assumption) (by decide) | ktr_room)); (case kux41 => (first | exact units2 (by assumption) (by decide) | ktr_units)))
  · exact off_one hRP
  · exact off_one hRC
  intro r3 t3 o3 c3 q3 u3 b3 b3' p3 F5 N5
  walk_at "glyph walk"
  rename_i _ F5 N5
  (refine' draw_use 65536 3 ?k1x42 ?k2x42 ?k3x42 ?k4x42 N5 ?kKx42 p3 ⟨?l1x42, ?l2x42⟩ ?hnx42 ?hPx42 ?hCx42 ?kdx42 ?kux42 ?_; (case k1x42 => k_asm); (case k2x42 => k_asm); (case k3x42 => k_asm); (case k4x42 => k_asm); (case kKx42 => first | exact rfl | assumption); (case l1x42 => first | decide | omega); (case l2x42 => first | decide | omega); (case hnx42 => first | decide | omega); (case kdx42 => (first | exact room0 (by assumption) | exact room2 (by assumption) (by decide) | ktr_room)); (case kux42 => (first | exact units2 (by assumption) (by decide) | ktr_units)))
  · exact off_one hRP
  · exact off_one hRC
  intro r4 t4 o4 c4 q4 u4 b4 b4' p4 F6 N6
  walk_at "glyph walk"
  rename_i _ F6 N6
  refine for_iter g1 (by with_unfolding_all rfl) (by with_unfolding_all rfl) ?_ (by intro _; with_unfolding_all rfl)
  walk_at "glyph walk"
  (refine' draw_use 8 4 ?k1x43 ?k2x43 ?k3x43 ?k4x43 N6 ?kKx43 p4 ⟨?l1x43, ?l2x43⟩ ?hnx43 ?hPx43 ?hCx43 ?kdx43 ?kux43 ?_; (case k1x43 => k_asm); (case k2x43 => k_asm); (case k3x43 => k_asm); (case k4x43 => k_asm); (case kKx43 => first | exact rfl | assumption); (case l1x43 => first | decide | omega); (case l2x43 => first | decide | omega); (case hnx43 => first | decide | omega); (case kdx43 => (first | exact room0 (by assumption) | exact room2 (by assumption) (by decide) | ktr_room)); (case kux43 => (first | exact units2 (by assumption) (by decide) | ktr_units)))
  · exact off_one hRP
  · exact off_one hRC
  intro r5 t5 o5 c5 q5 u5 b5 b5' p5 F7 N7
  walk_at "glyph walk"
  rename_i h8 tk8 t8 u8 v8 hr8 F8 N8 k8
  refine ⟨[], r5.toNat, _, _, _, MapJ P C R r1 r4 t4,
    rfl, iter_range r5.toNat hr8 (range8 b5 b5').1 (range8 b5 b5').2, List.not_mem_nil, F8, N8, (by simp), ⟨o5, c5, [], [], 0, r2 * r3, _, rfl, p5, .nil, rfl, (fun p hp => nomatch hp), List.nodup_nil, ?_, ?_, (fun p hp => nomatch hp), by with_unfolding_all rfl, by with_unfolding_all rfl, by with_unfolding_all rfl, by with_unfolding_all rfl, by with_unfolding_all rfl⟩, ?_, ?_⟩
  · exact Int.mul_nonneg b2 b3
  · have h1 : r2 * r3 ≤ 2 * r3 := Int.mul_le_mul_of_nonneg_right (by omega) b3
    omega
  · intro i x' m₁ news₁ own h tk hin hPx hJ hsep F N
    refine post_varQ fun Q2 hQ2 => ?_
    obtain ⟨oP, oC, tl, ps, k, gl, tg, rfl, hpot, hp, hpl, hall, hnd, hg0, hg1, hoff, hm1, hm2, hm3, hm4, hm5⟩ := hJ
    have hi7 : i < 7 := by omega
    replace F := fr_know F (a := Str.ofString "shift") (v := .int r4 t4) (by (repeat rw [if_neg (by decide)]); exact hm5)
    replace F := fr_know F (a := Str.ofString "glyph") (v := .int gl tg) (by (repeat rw [if_neg (by decide)]); exact hm4)
    replace F := fr_know F (a := Str.ofString "is_shifted") (v := .bool (decide (0 < r1))) (by (repeat rw [if_neg (by decide)]); exact hm3)
    replace F := fr_know F (a := Str.ofString "rows") (v := .ref R) (by (repeat rw [if_neg (by decide)]); exact hm2)
    replace F := fr_know F (a := Str.ofString "pot") (v := .ref P) (by (repeat rw [if_neg (by decide)]); exact hm1)
    have N0 : News g1 L1 h ((P, oP) :: (C, oC) :: (R, PySem.W.listOf (refs tl).toArray k) :: (tl ++ own)) := N
    clear N
    have hrP : ∀ p ∈ tl ++ own, p.1 ≠ P := fun p hp => by
      rcases List.mem_append.mp hp with h | h
      · exact (hoff p h).1
      · exact hsep p h P (.head _)
    have hrC : ∀ p ∈ tl ++ own, p.1 ≠ C := fun p hp => by
      rcases List.mem_append.mp hp with h | h
      · exact (hoff p h).2.1
      · exact hsep p h C (.tail _ (.head _))
    have hrR : ∀ p ∈ tl ++ own, p.1 ≠ R := fun p hp => by
      rcases List.mem_append.mp hp with h | h
      · exact (hoff p h).2.2
      · exact hsep p h R (.tail _ (.tail _ (.head _)))
    have hR2P : ∀ p ∈ (R, PySem.W.listOf (refs tl).toArray k) :: (tl ++ own), p.1 ≠ P := fun p hp => by
      rcases List.mem_cons.mp hp with rfl | hp
      · exact hRP
      · exact hrP p hp
    have hR2C : ∀ p ∈ (R, PySem.W.listOf (refs tl).toArray k) :: (tl ++ own), p.1 ≠ C := fun p hp => by
      rcases List.mem_cons.mp hp with rfl | hp
      · exact hRC
      · exact hrC p hp
    generalize hrest : tl ++ own = rest at N0 hrP hrC hrR hR2P hR2C
    walk_at "glyph walk"
    (refine' draw_use 4 (5 + 3 * i) ?k1x44 ?k2x44 ?k3x44 ?k4x44 N0 ?kKx44 hpot ⟨?l1x44, ?l2x44⟩ ?hnx44 ?hPx44 ?hCx44 ?kdx44 ?kux44 ?_; (case k1x44 => k_asm); (case k2x44 => k_asm); (case k3x44 => k_asm); (case k4x44 => k_asm); (case kKx44 => first | exact rfl | assumption); (case l1x44 => first | decide | omega); (case l2x44 => first | decide | omega); (case hnx44 => first | decide | omega); (case kdx44 => (first | exact room0 (by assumption) | exact room2 (by assumption) (by decide) | ktr_room)); (case kux44 => (first | exact units2 (by assumption) (by decide) | ktr_units)))
    · exact hR2P
    · exact hR2C
    intro ra ta oa ca qa ua ba ba' pa Fa Na
    walk_at "glyph walk"
    (refine' draw_use 700 (5 + 3 * i + 1) ?k1x45 ?k2x45 ?k3x45 ?k4x45 Na ?kKx45 pa ⟨?l1x45, ?l2x45⟩ ?hnx45 ?hPx45 ?hCx45 ?kdx45 ?kux45 ?_; (case k1x45 => k_asm); (case k2x45 => k_asm); (case k3x45 => k_asm); (case k4x45 => k_asm); (case kKx45 => first | exact rfl | assumption); (case l1x45 => first | decide | omega); (case l2x45 => first | decide | omega); (case hnx45 => first | decide | omega); (case kdx45 => (first | exact room0 (by assumption) | exact room2 (by assumption) (by decide) | ktr_room)); (case kux45 => (first | exact units2 (by assumption) (by decide) | ktr_units)))
    · exact hR2P
    · exact hR2C
    intro rb tb ob cb qb ub bb bb' pb Fb Nb
    have hx01 : ra.fdiv 3 = 0 ∨ ra.fdiv 3 = 1 := by
      rw [Int.fdiv_eq_ediv_of_nonneg _ (by decide)]
      omega
    have hgl : gl + 1 ≤ gl + 1 + ra.fdiv 3 * rb ∧ gl + 1 + ra.fdiv 3 * rb ≤ gl + 1 + 700 := by
      rcases hx01 with e | e <;> rw [e] <;> omega
    generalize hgl2 : gl + 1 + ra.fdiv 3 * rb = gl2 at hgl
    have fin : ∀ (D2 : Addr) (h5 : Heap) (m5 : Str → Option Value) (v : Int) (tg' tv : Tok) (oX cX : Obj) (n' : Int) (kX : Nat) (tk5 : Nat), Fr g1 L1 h5 m5 → News g1 L1 h5 ([(D2, lpairObj (.int gl2 tg') (.int v tv)), (P, oX), (C, cX)] ++ (R, PySem.W.listOf (refs tl ++ [Value.ref D2]).toArray kX) :: rest) →
        (P < D2 ∧ C < D2 ∧ R < D2 ∧ AllLt D2 rest) → PotO n' P C oX cX → n' ≤ 5 + 3 * ((i + 1 : Nat) : Int) → 0 ≤ v ∧ v < 65536 →
        (m5 (Str.ofString "pot") = some (Value.ref P) ∧ m5 (Str.ofString "rows") = some (Value.ref R) ∧ m5 (Str.ofString "is_shifted") = some (Value.bool (decide (0 < r1))) ∧ (∃ tg, m5 (Str.ofString "glyph") = some (Value.int gl2 tg)) ∧ m5 (Str.ofString "shift") = some (Value.int r4 t4)) →
        TurnEnd g1 L1 (MapJ P C R r1 r4 t4 (i + 1))
          own { s with heap := h8, toks := tk8 } { s with heap := h5, toks := tk5 } := by
      intro D2 h5 m5 v tg' tv oX cX n' kX tk5 F5 N5 l5 hpX hn' hv hms
      obtain ⟨hq1, hq2, hq3, ⟨tgq, hq4⟩, hq5⟩ := hms
      subst hrest
      have e : refs (tl ++ [(D2, lpairObj (.int gl2 tg') (.int v tv))]) = refs tl ++ [Value.ref D2] := by simp [refs]
      rw [← e] at N5
      have hpX' : PotO (5 + 3 * ((i + 1 : Nat) : Int)) P C oX cX := hpX.mono hn'
      refine ⟨h5, tk5, m5, (P, oX) :: (C, cX) :: (R, PySem.W.listOf (refs (tl ++ [(D2, lpairObj (.int gl2 tg') (.int v tv))])).toArray kX) :: (tl ++ [(D2, lpairObj (.int gl2 tg') (.int v tv))]), _, rfl, F5, N5, fun p hp => ?_, fun p hp => ?_, ?_, oX, cX, tl ++ [(D2, lpairObj (.int gl2 tg') (.int v tv))], ps ++ [(gl2, v)], kX, gl2, tgq, rfl, hpX', hp.snoc ⟨_, _, rfl⟩, by simp [hpl], ?_, ?_, by omega, by omega, ?_, hq1, hq2, hq3, hq4, hq5⟩
      · simp only [List.mem_cons, List.mem_append, List.not_mem_nil, or_false, List.cons_append, List.nil_append] at hp ⊢
        rcases hp with h | h | h | h | h <;> simp [h]
      · simp only [List.mem_cons, List.mem_append, List.not_mem_nil, or_false, List.cons_append, List.nil_append]
        exact .inr (.inr (.inr (.inr (.inr hp))))
      · intro p hp b hb
        simp only [List.map_cons, List.map_append, List.map_nil, List.mem_cons, List.mem_append, List.not_mem_nil, or_false] at hb
        rcases hb with rfl | rfl | rfl | hb | rfl
        · exact hrP p (List.mem_append_right _ hp)
        · exact hrC p (List.mem_append_right _ hp)
        · exact hrR p (List.mem_append_right _ hp)
        · exact hsep p hp b (.tail _ (.tail _ (.tail _ hb)))
        · exact Nat.ne_of_lt (allLt_mem l5.2.2.2 p (List.mem_append_right _ hp))
      · intro p hp
        rcases List.mem_append.mp hp with hp | hp
        · have := hall p hp; omega
        · rw [List.mem_singleton.mp hp]; exact ⟨by show 0 ≤ gl2; omega, Int.le_refl _, hv⟩
      · rw [List.map_append]
        refine List.nodup_append.mpr ⟨hnd, by simp, fun a ha b hb => ?_⟩
        obtain ⟨p, hp, rfl⟩ := List.mem_map.mp ha
        simp only [List.map_cons, List.map_nil, List.mem_singleton] at hb
        rw [hb]
        have := hall p hp
        omega
      · intro p hp
        rcases List.mem_append.mp hp with hp | hp
        · exact hoff p hp
        · rw [List.mem_singleton.mp hp]; exact ⟨Nat.ne_of_gt l5.1, Nat.ne_of_gt l5.2.1, Nat.ne_of_gt l5.2.2.1⟩
    have hpre : ∀ (D2 : Addr) (x y z : Obj), R < D2 → ∀ p ∈ [(D2, x), (P, y), (C, z)], p.1 ≠ R := fun D2 x y z h p hp => by
      simp only [List.mem_cons, List.not_mem_nil, or_false] at hp
      rcases hp with rfl | rfl | rfl
      · exact Nat.ne_of_gt h
      · exact hPR
      · exact hCR
    have hz : (refs tl).length ≤ 1000 := by rw [List.length_map, hp.length]; omega
    walk_at "glyph walk"
    · rename_i hsh D2 _ l4 h4 F4 N4
      have ep : (refs tl).toArray.push (Value.ref D2) = (refs tl ++ [Value.ref D2]).toArray := by simp
      rw [ep, hgl2] at N4
      obtain ⟨tq, hq⟩ := fr_has F4 (fun M => ∃ t, M (Str.ofString "glyph") = some (Value.int (gl + 1 + ra.fdiv 3 * rb) t)) ⟨_, by with_unfolding_all rfl⟩
      refine hQ2 .next _ (fin D2 h4 _ _ _ _ _ _ _ _ _ F4 N4 l4 pb (by omega) ?_ ⟨by with_unfolding_all rfl, by with_unfolding_all rfl, by with_unfolding_all rfl, ⟨tq, by rw [← hgl2]; exact hq⟩, by with_unfolding_all rfl⟩)
      rw [Int.fmod_eq_emod_of_nonneg _ (by decide)]
      omega
    · rename_i h4 F4 N4 hsh
      (refine' draw_use 65536 (5 + 3 * i + 1 + 1) ?k1x46 ?k2x46 ?k3x46 ?k4x46 N4 ?kKx46 pb ⟨?l1x46, ?l2x46⟩ ?hnx46 ?hPx46 ?hCx46 ?kdx46 ?kux46 ?_; (case k1x46 => k_asm); (case k2x46 => k_asm); (case k3x46 => k_asm); (case k4x46 => k_asm); (case kKx46 => first | exact rfl | assumption); (case l1x46 => first | decide | omega); (case l2x46 => first | decide | omega); (case hnx46 => first | decide | omega); (case kdx46 => (first | exact room0 (by assumption) | exact room2 (by assumption) (by decide) | ktr_room)); (case kux46 => (first | exact units2 (by assumption) (by decide) | ktr_units)))
      · exact hR2P
      · exact hR2C
      intro rc tc oc cc qc uc bc bc' pc Fc Nc
      walk_at "glyph walk"
      rename_i D2 _ l4 h4 F4 N4
      have ep : (refs tl).toArray.push (Value.ref D2) = (refs tl ++ [Value.ref D2]).toArray := by simp
      rw [ep, hgl2] at N4
      obtain ⟨tq, hq⟩ := fr_has F4 (fun M => ∃ t, M (Str.ofString "glyph") = some (Value.int (gl + 1 + ra.fdiv 3 * rb) t)) ⟨_, by with_unfolding_all rfl⟩
      exact hQ2 .next _ (fin D2 h4 _ _ _ _ _ _ _ _ _ F4 N4 l4 pc (by omega) ⟨bc, bc'⟩ ⟨by with_unfolding_all rfl, by with_unfolding_all rfl, by with_unfolding_all rfl, ⟨tq, by rw [← hgl2]; exact hq⟩, by with_unfolding_all rfl⟩)
  · rintro m' news' h tk ⟨oP, oC, tl, ps, k, gl, tg, rfl, hpot, hp, hpl, hall, hnd, hg0, hg1, hoff, hm1, hm2, hm3, hm4, hm5⟩ F N
    replace F := fr_know F (a := Str.ofString "rows") (v := .ref R) hm2
    replace F := fr_know F (a := Str.ofString "pot") (v := .ref P) (by (repeat rw [if_neg (by decide)]); exact hm1)
    walk_at "glyph walk"
    refine comp_objs (h₀ := g1) (L := L1) (cl := []) (fun v o => ∃ T a b ta tb t1 t2, v = .ref T ∧ h.get? T = some (lpairObj (.int a ta) (.int b tb)) ∧ o = pairObj (.int a t1) (.int b t2)) (by with_unfolding_all rfl) (by decide) rfl (by decide) rfl ?_ (by intro _; with_unfolding_all rfl)
    have hzs : (refs tl).toArray.size ≤ sizeLine := Nat.le_trans (by rw [List.size_toArray, List.length_map, hp.length]; omega : _ ≤ 1000) (by size_fits)
    refine wpAny_join (MapS P C tl ps g1 L1 s) (fun Q' hq => ?_) ?_
    · walk_at "glyph walk"
      (refine' draw_use 2 (5 + 3 * r5.toNat) ?k1x47 ?k2x47 ?k3x47 ?k4x47 N ?kKx47 hpot ⟨?l1x47, ?l2x47⟩ ?hnx47 ?hPx47 ?hCx47 ?kdx47 ?kux47 ?_; (case k1x47 => k_asm); (case k2x47 => k_asm); (case k3x47 => k_asm); (case k4x47 => k_asm); (case kKx47 => first | exact rfl | assumption); (case l1x47 => first | decide | omega); (case l2x47 => first | decide | omega); (case hnx47 => first | decide | omega); (case kdx47 => (first | exact room0 (by assumption) | exact room2 (by assumption) (by decide) | ktr_room)); (case kux47 => (first | exact units2 (by assumption) (by decide) | ktr_units)))
      · intro p hp
        rcases List.mem_cons.mp hp with rfl | hp
        · exact hRP
        · exact (hoff p hp).1
      · intro p hp
        rcases List.mem_cons.mp hp with rfl | hp
        · exact hRC
        · exact (hoff p hp).2.1
      intro rz tz oz cz qz uz bz bz' pz Fz Nz
      walk_at "glyph walk"
      · rename_i D4 h4 F4 N4 l4
        have er : (refs tl).toArray.toList.reverse.toArray = (refs tl.reverse).toArray := by simp [refs]
        rw [er] at N4
        exact hq _ _ ⟨D4, 0, tl.reverse, ps.reverse, _, _, _, _, rfl, rfl, F4, N4, .head _, fun p hp => List.mem_reverse.mp hp, paired_rev hp, List.reverse_perm ps, fun p hp => .tail _ (.tail _ (.tail _ (.tail _ hp))), ⟨_, .tail _ (.head _)⟩, ⟨_, .tail _ (.tail _ (.head _))⟩⟩
      · exact hq _ _ ⟨R, k, tl, ps, _, _, _, _, rfl, rfl, Fz, Nz, .tail _ (.tail _ (.head _)), fun p hp => hp, hp, List.Perm.refl _, fun p hp => .tail _ (.tail _ (.tail _ hp)), ⟨_, .head _⟩, ⟨_, .tail _ (.head _)⟩⟩
    rintro _ _ ⟨S, kS, tl', ps', led, h4, tk4, m4, rfl, rfl, F4, N4, hSm, hsub, hp', hperm, hsub2, ⟨oz, hPz⟩, ⟨cz, hCz⟩⟩
    have hpl' : tl'.length ≤ 7 := by rw [hp'.length, hperm.length_eq]; omega
    refine ⟨[_], (refs tl').toArray.size, _, _, _, rfl, iter_list (listOf_is N4 hSm), ?_, ?_, F4, N4, ?_, ?_, ?_⟩
    · intro q; exact (N4 _ hSm).2.1 (List.mem_singleton.mp q).symm
    · refine Nat.le_trans (?_ : _ ≤ 1000) (by size_fits)
      rw [List.size_toArray, List.length_map]; omega
    · intro b hb; rw [List.mem_singleton.mp hb]; exact ⟨_, (N4 _ hSm).1⟩
    · intro C' j x' s₃ m₃ E' hC' hP' hn' hm' hk'
      obtain ⟨⟨T3, o3⟩, hq, rfl⟩ := refs_at hP'
      obtain ⟨p3, hp3, ta3, tb3, ho3⟩ := paired_at hp' hq
      simp only at ho3
      subst ho3
      have hT3 : s₃.heap.IsList T3 #[.int p3.1 ta3, .int p3.2 tb3] := ⟨lpairObj (.int p3.1 ta3) (.int p3.2 tb3), hk' _ _ (N4 _ (hsub2 _ (hsub _ (List.mem_of_getElem? hq)))).1, rfl, 0, rfl⟩
      have hTh := (N _ (.tail _ (.tail _ (.tail _ (hsub _ (List.mem_of_getElem? hq)))))).1
      walk_at "glyph walk"
      · exact ⟨_, _, rfl, Heap.get?_none_of_le (Nat.le_refl _), Heap.get?_push_size _ rfl, T3, p3.1, p3.2, ta3, tb3, _, _, rfl, hTh, rfl⟩
      · exact ⟨_, _, rfl, fun b o e => Heap.get?_push_of_some _ e⟩
    · intro vs' tl2 hpr hlen2 hP2 D5 h5 tk5 k5 F5 N5 hD5 htl5
      walk_at "glyph walk"
      have hq2 : Pairs2 tl2 ps' := by
        refine paired_get (by rw [← hpr.length, hlen2, List.size_toArray, List.length_map, hp'.length]) fun i q p hq hpi => ?_
        obtain ⟨v, hv, T, a, b, ta, tb, u1, u2, rfl, hTa, e2⟩ := paired_at' hpr hq
        obtain ⟨⟨T', o'⟩, hq', e3⟩ := refs_at (hP2 _ _ hv)
        obtain ⟨p', hp3, ta3, tb3, ho3⟩ := paired_at hp' hq'
        rw [hpi] at hp3
        cases hp3
        cases e3
        have hTh := (N _ (.tail _ (.tail _ (.tail _ (hsub _ (List.mem_of_getElem? hq')))))).1
        simp only at ho3
        subst ho3
        rw [hTa] at hTh
        have e4 := congrArg Obj.data (Option.some.inj hTh)
        simp [PySem.W.listOf] at e4
        obtain ⟨⟨e5, _⟩, e6, _⟩ := e4
        exact ⟨u1, u2, by rw [e2, e5, e6]⟩
      have hnd' : (ps'.map (·.1)).Nodup := (hperm.map _).nodup_iff.mpr hnd
      refine dict_of_list F5 N5 (.head _) (fun p hp => .tail _ (List.mem_append_left _ hp)) hq2 hnd' (by rw [hperm.length_eq]; omega) rfl T1.nolimit fun d h6 tk6 o6 kvs F6 N6 l6 lo6 hd6 hkv6 => ?_
      walk_at "glyph walk"
      have hdP : d ∉ [P, C] := by
        intro hm
        have eP := l6 (P, oz) (.tail _ (List.mem_append_right _ hPz))
        have eC := l6 (C, cz) (.tail _ (List.mem_append_right _ hCz))
        simp only [List.mem_cons, List.not_mem_nil, or_false] at hm
        rcases hm with e | e
        · rw [e] at eP; exact Nat.lt_irrefl _ eP
        · rw [e] at eC; exact Nat.lt_irrefl _ eC
      refine hret _ _ _ (ext_of hX F6) ⟨d, ps', o6, kvs, rfl, fresh_of hX N6 (.head _) hdP, (N6 _ (.head _)).1, lo6, hd6, hkv6, by rw [hperm.length_eq]; omega, fun p hp => ?_⟩
      have := hall p (hperm.mem_iff.mp hp)
      omega
end
section
theorem offGR : True := by w_top off; trivial
open Sem (wp)
section
variable {α β : Type} {M : Model} {A : Around} {E : Value → Shared → Prop} {s : Shared} {env : Env}
/-- a first part that asks no stack -/
theorem wpG_bindAny {m : Sem α} {f : α → Sem β} {Q : β → Shared → Prop} (h : wpAny M A m (fun a s' => wpG M A (f a) Q E s') E s) : wpG M A (m >>= f) Q E s := wpG_bind (wpG_any h)
theorem wpG_standAt {pos : Pos} {Q : Unit → Shared → Prop} (h : Q () s) : wpG M A (standAt pos) Q E s := wpG_any (wpAny_standAt h)
theorem wpG_execs_cons {st rest} {Q : Flow → Shared → Prop}
    (h : wpG M A (exec st env) (fun f s' => match f with | .next => wpG M A (execs rest env) Q E s' | f => Q f s') E s) : wpG M A (execs (st :: rest) env) Q E s := by
  rw [execs_cons]
  refine wpG_bind (wpG_mono h (fun f s' h' => ?_) fun _ _ e => e)
  cases f <;> first | exact h' | exact wpG_pure h'
theorem wpG_If {test body orelse pos} {Q : Flow → Shared → Prop}
    (h : wpAny M A (isTrue test env (eval test env)) (fun b s₂ => if b then wpG M A (execs body env) Q E s₂ else wpG M A (execs orelse env) Q E s₂) E s) :
    wpG M A (exec (.If test body orelse pos) env) Q E s := by
  rw [exec_If]
  refine wpG_bindAny (wpAny_standAt (wpG_bindAny (wpAny_mono h (fun b s₂ h₂ => ?_) fun _ _ e => e)))
  cases b <;> exact h₂
theorem wpG_Assign_Name {x pos' value pos} {Q : Flow → Shared → Prop}
    (h : wpG M A (eval value env) (fun v s₁ => wpAny M A (storeName env x v) (fun _ => Q .next) E s₁) E s)
    (hs : swapsWith value (some (.Name x pos')) pos.line env = pure false := by rfl) :
    wpG M A (exec (.Assign [.Name x pos'] value pos) env) Q E s := by
  rw [exec_Assign_Name env x pos' value pos hs]
  refine wpG_bindAny (wpAny_standAt (wpG_bind (wpG_mono h (fun v s₁ h₁ => wpG_bindAny (wpAny_standAt (wpG_bindAny (wpAny_bindName (wpAny_mono h₁ (fun _ s₂ h₂ => wpG_pure h₂) fun _ _ e => e))))) fun _ _ e => e)))
theorem wpG_runOwn {c : Code} {h : Option Value} {Q : Flow → Shared → Prop}
    (hc : codeG M (A.mark h) c (fun r s' => match r with | .ok f => Q f s' | .error e => cameBackBy M A env E e s') s) (hnb : h ≠ some byPass := by intro x; cases x) :
    wpG M A (runOwn c env h) Q E s := by
  unfold runOwn
  refine wpG_onRaise (wpG_mono (wpG_run hc hnb) (fun _ _ q => q) fun e s' q => wpG_any q)
theorem wpG_For {target iter body orelse pos} {Q : Flow → Shared → Prop}
    (h : wpAny M A (eval iter env) (fun x s₁ => wpAny M A (pyIter x) (fun it s₂ =>
      codeG M A (.forLoop target it body orelse env) (fun r s' => match r with | .ok f => Q f s' | .error e => cameBackBy M A env E e s') s₂) E s₁) E s)
    (hs : ∀ x, foldedSetIterable iter env x = pure x := by intro _; rfl) :
    wpG M A (exec (.For target iter body orelse pos) env) Q E s := by
  rw [exec_For]
  exact wpG_bindAny (wpAny_standAt (wpG_bindAny (wpAny_mono h (fun x s₁ h₁ => wpG_bindAny (wpAny_of_eq (hs x) (wpG_bindAny (wpAny_standAt (wpG_bindAny (wpAny_holding
    (wpAny_mono h₁ (fun it s₂ h₂ => wpG_runOwn h₂) fun _ _ h' => h'))))))) fun _ _ h' => h')))
end
section
variable {prog : Program} {w : World} {A : Around} {E : Value → Shared → Prop} {s : Shared} {env : Env}
theorem wpG_Expr {e pos} {Q : Flow → Shared → Prop} (h : wpG (model prog w) A (eval e env) (fun _ => Q .next) E s)
    (hi : interactive env = false := by rfl) (hs : swapsWith e none pos.line env = pure false := by rfl) :
    wpG (model prog w) A (exec (.Expr e pos) env) Q E s := by
  rw [exec_Expr env e pos hi hs]
  exact wpG_bindAny (wpAny_standAt (wpG_bind (wpG_mono h (fun v s' h' => wpG_any (wpAny_dropValue h')) fun _ _ x => x)))
theorem codeG_func {body env} {R : Result → Shared → Prop}
    (h : wpG (model prog w) (A.deeper env) (execs body env) (fun f s' => R (.ok (.ret (match f with | .ret v => v | _ => .none))) s')
      (fun e s' => wpAny (model prog w) (A.deeper env) (leaving env e) (fun _ s'' => R (.error e) s'') (fun e' s'' => R (.error e') s'') s') s) :
    codeG (model prog w) A (.func body env) R s := by
  refine codeG_of_tree rfl ?_
  show wpG _ (A.deeper env) (do point; match ← (execs body env).onRaise (leaving env) with | .ret v => ret v | _ => ret .none) _ _ s
  refine wpG_bindAny (wpAny_point (wpG_bind (wpG_onRaise (wpG_mono h (fun f s' h' => ?_) fun _ _ h' => wpG_any h'))))
  cases f <;> exact wpG_pure h'
theorem codeG_call_function {R : Result → Shared → Prop} {a : Addr} {args : Args} {o : Obj} {fd : FuncData} {body : List Stmt} (hroom : A.depth < recursionLimit)
    (ho : s.heap.get? a = some o)
    (hd' : o.data = .func fd) (hco : fd.scope.isCoroutine = false) (hgen : fd.scope.isGenerator = false) (hbody : fd.body = .stmts body) (hcd : s.heap.CodeRec fd.code fd.qualname)
    (h : wpAny (model prog w) A.in1 (bindArgs fd args) (fun binds s₁ =>
      wpAny (model prog w) A.in1 (newFunctionEnv fd.scope fd.globals fd.closure binds (fd.qualname ++ ".<locals>.") (some a) fd.code none fd.builtins)
        (fun env s₂ => s₂.heap.NoLimit ∧ codeG (model prog w) A (.func body env) R s₂) (fun e s' => R (.error e) s') s₁) (fun e s' => R (.error e) s') s) :
    codeG (model prog w) A (.call (.ref a) args) R s := by
  refine codeG_of_tree rfl ?_
  show wpG _ A.in1 (callAny (.ref a) args) _ _ s
  simp only [callAny]
  refine wpG_bindAny (wpAny_load ho ?_)
  obtain ⟨c, oc, vs, tq, hc, hoc, hdc, hq⟩ := hcd
  simp only [hd', callFunction, hco, hgen, hbody, hc]
  rw [hc] at h
  refine wpG_bindAny (m := field (.ref c) 1) (wpAny_field hoc hdc hq (wpG_bindAny (wpAny_pure ?_)))
  exact wpG_bindAny (wpAny_mono h (fun binds s₁ h₁ => wpG_bindAny (wpAny_mono h₁ (fun env s₂ h₂ => wpG_any (wpAny_bind (wpAny_enterFrame h₂.1 hroom
    (wpAny_pure (And.intro rfl h₂.2))))) fun _ _ h' => h')) fun _ _ h' => h')
theorem codeG_call_def {R : Result → Shared → Prop} {a : Addr} {o : Obj} {fd : FuncData} {body : List Stmt} {args : Args} {binds : List (Str × Value)}
    (hroom : A.depth < recursionLimit) (ho : s.heap.get? a = some o) (hdata : o.data = .func fd) (hlim : s.heap.NoLimit) (hcd : s.heap.CodeRec fd.code fd.qualname)
    (hbody : fd.body = .stmts body) (hbind : BindsTo s fd args binds)
    (hcell : ∀ x ∈ fd.scope.names, x.2 ≠ .cell) (hloc : ∀ x ∈ binds, fd.scope.names.lookup x.1 = some .local)
    (h : ∀ h₀, h₀.Ns s.heap.objs.size (fun x => binds.reverse.lookup x) → (∀ b o, s.heap.get? b = some o → h₀.get? b = some o) →
      wpG (model prog w) (A.deeper (callEnv fd s.heap.objs.size a)) (execs body (callEnv fd s.heap.objs.size a)) (fun f s' => R (.ok (.ret (match f with | .ret v => v | _ => .none))) s')
        (fun e s' => wpAny (model prog w) (A.deeper (callEnv fd s.heap.objs.size a)) (leaving (callEnv fd s.heap.objs.size a) e) (fun _ s'' => R (.error e) s'') (fun e' s'' => R (.error e') s'') s')
        { s with heap := h₀, toks := s.toks + binds.length })
    (hco : fd.scope.isCoroutine = false := by rfl) (hgen : fd.scope.isGenerator = false := by rfl) (hk : fd.scope.kind = .function := by rfl) :
    codeG (model prog w) A (.call (.ref a) args) R s := by
  refine codeG_call_function hroom ho hdata hco hgen hbody hcd (hbind _ _ _ _ ?_)
  refine wpAny_newFunctionEnv hcell hloc (fun h₀ hns₀ hsb₀ => ⟨hlim.fresh _ hsb₀, codeG_func (h h₀ hns₀ fun b o e => ?_)⟩) hk
  exact hsb₀.extBut b o (Nat.ne_of_lt (Heap.lt_size e)) (Heap.get?_push_of_some _ e)
end
end
section
theorem offPostG : True := by w_top off; trivial
theorem post_varG {α : Type} {M : Model} {A : Around} {t : Sem α} {Q : α → Shared → Prop} {E : Value → Shared → Prop} {s : Shared}
    (h : ∀ (Q' : α → Shared → Prop), (∀ v s', Q v s' → Q' v s') → wpG M A t Q' E s) : wpG M A t Q E s :=
  h Q fun _ _ x => x
theorem post_varGE {α : Type} {M : Model} {A : Around} {t : Sem α} {Q : α → Shared → Prop} {E : Value → Shared → Prop} {s : Shared}
    (h : ∀ (Q' : α → Shared → Prop) (E' : Value → Shared → Prop), (∀ v s', Q v s' → Q' v s') → wpG M A t Q' E' s) : wpG M A t Q E s :=
  h Q E fun _ _ x => x
end
section
open PySem PySem.W PySem.Calls PyProof.Rows Builtin Builtin.ObjectAttr Builtin.Getset_descriptor
set_option maxHeartbeats 4000000
theorem offGC : True := by w_top off; trivial
section
variable {prog : Program} {w : World} {A : Around} {E : Value → Shared → Prop} {s : Shared} {env : Env}
theorem codeG_call_builtin_at {R : Result → Shared → Prop} {id : String} {args : Args} {b : Builtin} (hnb : isBad (.builtin id args) = false) (hq : (Code.builtin id args).quiet = true) (hb : entryFor table id = some b)
    (h : wpAny (model prog w) A.in1 (checkBuiltinCall id args) (fun _ s₁ => wpG (model prog w) (A.under (.builtin id args)) (b args)
      (fun fin s' => match fin with | .done f => R (.ok f) s' | .again c' => c'.quiet = true ∧ codeG (model prog w) A c' R s') (fun e s' => R (.error e) s') s₁)
      (fun e s' => R (.error e) s') s) : codeG (model prog w) A (.call (.builtin id) args) R s := by
  refine codeG_of_tree rfl ?_
  show wpG _ A.in1 (do checkBuiltinCall id args; again (.builtin id args)) _ _ s
  refine wpG_bindAny (wpAny_mono h (fun _ s₁ h₁ => wpG_pure (And.intro hq (codeG_of_tree hnb ?_))) fun _ _ h' => h')
  show wpG _ _ (match entryFor table id with | some b => b args | none => unsupported ((withoutEnding? id "#data").getD id)) _ _ s₁
  rw [hb]; exact h₁
theorem codeG_call_builtin {R : Result → Shared → Prop} {id : String} {args : Args} {b : Builtin} (hnb : isBad (.builtin id args) = false) (hq : plainId id = true) (hb : entryFor table id = some b)
    (h : wpAny (model prog w) A.in1 (checkBuiltinCall id args) (fun _ s₁ => wpG (model prog w) A.in1 (b args)
      (fun fin s' => match fin with | .done f => R (.ok f) s' | .again c' => c'.quiet = true ∧ codeG (model prog w) A c' R s') (fun e s' => R (.error e) s') s₁)
      (fun e s' => R (.error e) s') s) : codeG (model prog w) A (.call (.builtin id) args) R s :=
  codeG_call_builtin_at hnb (plainId_quiet hq args) hb (by rw [Around.under_plainId hq args]; exact h)

/-- a call with written arguments -/
theorem callWithG_of {f : Value} {first : List Value} {pos : Pos} {Q : Value → Shared → Prop} {P : Heap → Prop} {args : List (Bool × Sem Value)} {keywords : List (Option Str × Sem Value)} (hplain : (args.any (·.1) || keywords.any (·.1.isNone)) = false)
    (hk : ∀ h, P h → ∃ k, (k = Keeper.frame ∨ k = Keeper.machine ∨ k = Keeper.boundFrame) ∧ Looks (model prog w) h (keeperOf f) k)
    (h : wpAny (model prog w) A (evalArgs f true args keywords) (fun a s₁ => P s₁.heap ∧ wpG (model prog w) A (call f (first ++ a.pos) a.kw) Q E s₁) E s) : wpG (model prog w) A (callWith pos f first args keywords) Q E s := by
  unfold callWith
  refine wpG_bindAny (wpAny_holding (wpAny_mono h (fun a s₁ h₁ => wpG_bindAny (wpAny_standAt ?_)) fun _ _ x => x))
  obtain ⟨k, hk', L⟩ := hk _ h₁.1
  simp only [hplain]
  refine wpG_bindAny (L.here ?_)
  have tail : ∀ {t : Sem Value}, wpG (model prog w) A t Q E s₁ → wpG (model prog w) A (t >>= fun r => holding [r] point >>= fun _ => pure r) Q E s₁ :=
    fun ht => wpG_bind (wpG_mono ht (fun r s₂ hr => wpG_any (wpAny_bind (wpAny_holding (wpAny_point (wpAny_pure hr))))) fun _ _ x => x)
  have marked (mk : Value) : wpG (model prog w) A (callMarked mk f (first ++ a.pos) a.kw) Q E s₁ := by
    unfold callMarked
    exact fun Γ p hΓ c b => by rw [Sem.wp_keep]; exact h₁.2 Γ p hΓ c b
  rcases hk' with rfl | rfl | rfl <;> dsimp only <;> first | exact tail h₁.2 | (split <;> first | exact tail h₁.2 | exact tail (marked _))
theorem callWithG_K {K : Frag} {f : Value} {first : List Value} {pos : Pos} {Q : Value → Shared → Prop} {e : Expr} {rest : List Expr} (hk : keepIn K f = true) (h : wpAny (model prog w) A (spliced (backTo pos (starEach (e :: rest) env))) (fun vs s₁ => K.In s₁.heap ∧ wpG (model prog w) A (call f (first ++ vs)) Q E s₁) E s)
    (he : starEach (e :: rest) env = (false, eval e env) :: starEach rest env := by rfl) (hplain : (backTo pos (starEach rest env)).any (·.1) = false := by rfl) :
    wpG (model prog w) A (callWith pos f first (backTo pos (starEach (e :: rest) env)) []) Q E s := by
  rw [he] at h ⊢
  exact callWithG_of (by show ((false || (backTo pos (starEach rest env)).any (·.1)) || false) = false; rw [hplain]; rfl) (keeps_K hk) (evalArgs_plain h)
theorem callWithG_K0 {K : Frag} {f : Value} {first : List Value} {pos : Pos} {Q : Value → Shared → Prop} (X : K.In s.heap) (hk : keepIn K f = true) (h : wpG (model prog w) A (call f (first ++ [])) Q E s) : wpG (model prog w) A (callWith pos f first (backTo pos (starEach [] env)) []) Q E s :=
  callWithG_of rfl (keeps_K hk) (evalArgs_nil3 ⟨X, h⟩)
/-- of a builtin -/
theorem callWithG_B {id : String} {first : List Value} {pos : Pos} {Q : Value → Shared → Prop} {e : Expr} {rest : List Expr} (h : wpAny (model prog w) A (spliced (backTo pos (starEach (e :: rest) env))) (fun vs s₁ => wpG (model prog w) A (call (.builtin id) (first ++ vs)) Q E s₁) E s)
    (he : starEach (e :: rest) env = (false, eval e env) :: starEach rest env := by rfl) (hplain : (backTo pos (starEach rest env)).any (·.1) = false := by rfl) :
    wpG (model prog w) A (callWith pos (.builtin id) first (backTo pos (starEach (e :: rest) env)) []) Q E s := by
  rw [he] at h ⊢
  exact callWithG_of (P := fun _ => True) (by show ((false || (backTo pos (starEach rest env)).any (·.1)) || false) = false; rw [hplain]; rfl) (fun h _ => ⟨.machine, .inr (.inl rfl), Looks.of_pure rfl⟩) (evalArgs_plain (wpAny_mono h (fun _ _ q => ⟨trivial, q⟩) fun _ _ e => e))
theorem callWithG_T0 {T : String} {pos : Pos} {Q : Value → Shared → Prop} (h : wpG (model prog w) A (call (.type T) []) Q E s) : wpG (model prog w) A (callWith pos (.type T) [] (backTo pos (starEach [] env)) []) Q E s :=
  callWithG_of (P := fun _ => True) rfl (fun h _ => ⟨.machine, .inr (.inl rfl), Looks.of_pure rfl⟩) (evalArgs_nil3 ⟨trivial, h⟩)
theorem CallG_Name {x : Str} {p pos : Pos} {args : List Expr} {Q : Value → Shared → Prop}
    (h : wpAny (model prog w) A (eval (.Name x p) env) (fun f s₁ => wpG (model prog w) A (callWith pos f [] (backTo pos (starEach args env)) []) Q E s₁) E s) :
    wpG (model prog w) A (eval (.Call (.Name x p) args [] pos) env) Q E s := wpG_bindAny h
theorem MethodCallG {o : Expr} {name : Str} {apos pos : Pos} {args : List Expr} {pl : Sem Bool} {Q : Value → Shared → Prop}
    (h : wpAny (model prog w) A (eval o env) (fun ov s₁ => wpAny (model prog w) A (getMethod ov name pl) (fun fx s₂ => wpG (model prog w) A (callWith pos fx.1 fx.2 (backTo pos (starEach args env)) []) Q E s₂) E s₁) E s)
    (he : eval (.Call (.Attribute o name apos) args [] pos) env = (do
      let ov ← eval o env
      standAt apos.atName
      let (f, first) ← holding [ov] (getMethod ov name pl)
      callWith pos f first (backTo pos (starEach args env)) []) := by rfl) :
    wpG (model prog w) A (eval (.Call (.Attribute o name apos) args [] pos) env) Q E s := by
  rw [he]
  refine wpG_bindAny (wpAny_mono h (fun ov s₁ h₁ => wpG_bindAny (wpAny_standAt (wpG_bindAny (wpAny_holding (wpAny_mono h₁ (fun fx s₂ h₂ => ?_) fun _ _ x => x))))) fun _ _ x => x)
  exact h₂
end
end
section
open PySem PySem.W PySem.Calls PyProof.Rows Builtin Builtin.ObjectAttr Builtin.Getset_descriptor
set_option maxHeartbeats 4000000
theorem offGM : True := by w_top off; trivial
section
variable {prog : Program} {w : World} {A : Around} {E : Value → Shared → Prop} {s : Shared} {env : Env}
theorem codeG_builtin {R : Result → Shared → Prop} {id : String} {args : Args} {b : Builtin} (hnb : isBad (.builtin id args) = false) (hb : entryFor table id = some b)
    (h : wpG (model prog w) (A.under (.builtin id args)) (b args)
      (fun fin s' => match fin with | .done f => R (.ok f) s' | .again c' => c'.quiet = true ∧ codeG (model prog w) A c' R s') (fun e s' => R (.error e) s') s) :
    codeG (model prog w) A (.builtin id args) R s := by
  refine codeG_of_tree hnb ?_
  show wpG _ _ (match entryFor table id with | some b => b args | none => unsupported ((withoutEnding? id "#data").getD id)) _ _ s
  rw [hb]; exact h
theorem callSpecialG {self f g : Value} {first : List Value} {name : Str} {args : List Value} {Q : Option Value → Shared → Prop} (h1 : Looks (model prog w) s.heap (specialOf self name) (some f)) (h2 : Looks (model prog w) s.heap (bindSpecial f self) (g, first))
    (h : wpG (model prog w) A (call g (first ++ args) []) (fun v s' => Q (some v) s') E s) : wpG (model prog w) A (callSpecial? self name args []) Q E s := by
  unfold callSpecial?
  refine wpG_bindAny (h1.here (wpG_holding (wpG_bindAny (h2.here (wpG_bind (wpG_mono h (fun v s' q => wpG_pure q) fun _ _ e => e))))))

variable {K : Frag} {C : Addr} {R : Result → Shared → Prop} {h : Heap} {g : Array GenState} {d : Drawn} {t : Nat} {os : OsState}
theorem make_coreG {rest : List Value} {init : Value} (Y : Makes (model prog w) h C) (hi : Looks (model prog w) h (typeLookup (.ref C) "__init__") (some init))
    (hb : ∀ self, Looks (model prog w) h (bindSpecial init self) (init, [self])) (hne : (some init != some (Value.builtin "object.__init__")) = true)
    (hq : codeG (model prog w) (A.under (.builtin "type.__call__" ⟨.ref C :: rest, []⟩)) (.call init ⟨.ref (h.objs.size + 1) :: rest, []⟩) (InitBack (h.objs.size + 1) R) ⟨(h.push emptyDict).push (instObj C h.objs.size), g, d, t, os⟩) :
    codeG (model prog w) A (.call (.ref C) ⟨rest, []⟩) R ⟨h, g, d, t, os⟩ := by
  have Y' := Y
  obtain ⟨⟨oc, od, cd, sl, hC, e1, e2, e4⟩, made, base, self, top, call, typ⟩ := Y
  refine codeG_of_tree rfl (wpG_any ?_)
  show wpAny _ _ (callAny (.ref C) _) _ _ _
  refine nd_load hC ?_
  show wpAny _ _ (callAny.viaDunder (.ref C) _) _ _ _
  unfold callAny.viaDunder
  refine wpAny_bind (call.at ?_)
  dsimp only
  rw [tc_bind]
  refine wpAny_bind (wpAny_pure (wpAny_bind (wpAny_pure ?_)))
  refine wpAny_pure (a := Fin.again (.call (.builtin "type.__call__") ⟨.ref C :: rest, []⟩)) (And.intro rfl ?_)
  refine codeG_call_builtin_at (by simp [isBad, badIds]; decide) (Code.quiet_builtin _ (by decide +kernel)) entry_typeCall (check_slot tc_kind tc_split typ (tc_args _ _ _) ?_)
  unfold Builtin.«type.__call__»
  have hm : Looks (model prog w) h (mroOf (.ref C)) cd.mro := ((Looks.ld (part := none) hC).andThen .now).andThen .now
  show wpG _ _ (mroOf (.ref C) >>= _) _ _ _
  refine wpG_bindAny (hm.here ?_)
  simp only [e4, Bool.false_eq_true, if_false]
  refine wpG_bindAny (made.here ?_)
  refine wpG_bindAny (wpAny_pure ?_)
  refine wpG_bindAny (wpAny_holding (wpAny_call (new_K Y' hi (.inl hne) ?_)))
  have k : ∀ b o, h.get? b = some o → ((h.push emptyDict).push (instObj C h.objs.size)).get? b = some o := fun b o e => Heap.get?_push_of_some _ (Heap.get?_push_of_some _ e)
  have hx : ((h.push emptyDict).push (instObj C h.objs.size)).get? (h.objs.size + 1) = some (instObj C h.objs.size) := by heap_get
  have t1 : Looks (model prog w) ((h.push emptyDict).push (instObj C h.objs.size)) (typeOf (.ref (h.objs.size + 1))) (.ref C) := (Looks.ld hx).andThen .now
  have s1 := self.keeps k
  have i1 := hi.keeps k
  have b1 := (hb (.ref (h.objs.size + 1))).keeps k
  refine wpG_bindAny ((t1.andThen s1 : Looks (model prog w) _ (isInstance (.ref (h.objs.size + 1)) (.ref C)) true).here ?_)
  first | refine wpAny_neg (by decide) ?_ | refine wpG_neg (by decide) ?_ | simp only [Bool.not_true, Bool.false_eq_true, if_false]
  refine wpG_bind (wpG_holding (callSpecialG (t1.andThen i1) b1 (wpG_call (codeG_mono hq fun r s' z => ?_))))
  rcases r with e | (v | _ | _ | _) <;> first | exact z | exact z.elim | skip
  obtain ⟨rfl, z⟩ := z
  exact wpG_pure z
end
end
section
theorem offGE : True := by w_top off; trivial
section
variable {prog : Program} {w : World} {A₀ A : Around} {E : Value → Shared → Prop} {s : Shared} {base h₀ : Heap} {outer : List Env} {L C : Addr} {m : Str → Option Value} {env : Env} {news : List (Addr × Obj)} {K : Frag}
  {p : Program} {loose : List Str} {mean : ExcName → Option Value} {mg mb : Str → Option Value}
  {R : Result → Shared → Prop} {name qual : Str} {params : Arguments} {body : List Stmt} {scope : Scope} {dV kV doc pm cdv ct oc : Value} {an od : Option Addr} {osl : Array (Option Value)} {f : Addr} {args : Args} {binds : List (Str × Value)}

theorem call_clsG {pos : List Value} {fI : Addr} {Q : Value → Shared → Prop} (F : Fr h₀ L s.heap m) (X₀ : K.In h₀) (N : News h₀ L s.heap news) (hm : makesIn K C = true) (hi : findIn K (.ref C) "__init__" = some (some (.ref fI))) (hf : isFn K (.ref fI) = true)
    (h : ∀ x dx h', Fr h₀ L h' m → News h₀ L h' ((x, instObj C dx) :: (dx, dictOf [] 0) :: news) → (∀ p ∈ news, p.1 < dx) → dx < x →
      codeG (model prog w) (A.under (.builtin "type.__call__" ⟨.ref C :: pos, []⟩)) (.call (.ref fI) ⟨.ref x :: pos, []⟩) (InitBack x fun r s' => match r with | .ok (.ret v) => Q v s' | .ok _ => False | .error e => E e s') { s with heap := h' }) :
    wpG (model prog w) A (call (.ref C) pos []) Q E s := by
  refine wpG_call ?_
  have X := X₀.keeps F.keep
  obtain ⟨hh, g, d, t, os⟩ := s
  refine make_coreG (makes_of X hm) (looks_findIn X hi) (fun self => bind_fn X self (beq_iff_eq.mp hf)) rfl (h _ hh.objs.size _ ((F.push _).push _) ?_ (fun p hp => Heap.lt_size (N p hp).1) (Nat.lt_succ_self _))
  have := (N.push F emptyDict).push (F.push _) (instObj C hh.objs.size)
  rwa [Heap.size_push] at this

theorem own_callG (B : Below A₀ base outer h₀) (F : Fr h₀ L s.heap m) (X₀ : K.In h₀) (N : News h₀ L s.heap news) (T : Top p loose mean mg mb h₀) (hA : A.frames = some (env :: outer)) (hf : env.frame = some L) (hke : env.scope.kind = .function)
    (ho : K.lookup f = some ⟨oc, od, .func (fnOf name qual params body scope dV kV doc pm an cdv ct), osl⟩) (hcd : codeIn K cdv qual = true) (hroom : A.depth < recursionLimit)
    (hbind : BindsTo s (fnOf name qual params body scope dV kV doc pm an cdv ct) args binds) (hloc : ∀ y ∈ binds, scope.names.lookup y.1 = some .local)
    (h : ∀ g L' h₁, Ext (news.map (·.1)) s.heap g → (∀ b o, g.get? b = some o → s.heap.get? b = some o) → Fr g L' h₁ (fun y => binds.reverse.lookup y) → News g L' h₁ news → Below A base (env :: outer) g → K.In g → Top p loose mean mg mb g →
      wpG (model prog w) (A.deeper (envOf qual scope L' f cdv)) (execs body (envOf qual scope L' f cdv))
        (fun fl s' => R (.ok (.ret (match fl with | .ret v => v | _ => .none))) s')
        (fun e s' => wpAny (model prog w) (A.deeper (envOf qual scope L' f cdv)) (leaving (envOf qual scope L' f cdv) e) (fun _ s'' => R (.error e) s'') (fun e' s'' => R (.error e') s'') s')
        { s with heap := h₁, toks := s.toks + binds.length })
    (hco : scope.isCoroutine = false) (hgen : scope.isGenerator = false) (hk : scope.kind = .function)
    (hcell : ∀ x ∈ scope.names, x.2 ≠ .cell) : codeG (model prog w) A (.call (.ref f) args) R s := by
  obtain ⟨FG, BG, st, _⟩ := groundX (R := R) B F N hA hf hke
  refine codeG_call_def (fd := fnOf name qual params body scope dV kV doc pm an cdv ct) (body := body) (binds := binds) hroom ((X₀.keeps F.keep) _ _ ho) rfl (T.nolimit.keeps F.keep) (codeRec_of (X₀.keeps F.keep) hcd) rfl hbind hcell hloc (fun h₁ hns hk₁ => ?_) hco hgen hk
  exact h _ s.heap.objs.size h₁ (fun b o e n => hideAll_get _ e n) (fun b o e => of_hideAll _ e) ⟨hns, fun b o e => hk₁ b o (of_hideAll _ e), Nat.le_of_eq (hideAll_size _ _)⟩
    (fun p hp => ⟨hk₁ _ _ (N p hp).1, Nat.ne_of_lt (Heap.lt_size (N p hp).1), hideAll_none _ (List.mem_map_of_mem hp)⟩) BG (X₀.keeps st) (T.keeps st)
end
/-- a contract on clean stacks; Err: what it may raise -/
def CtG (w : World) (f : Addr) (args : List Value) (dd uu : Nat) (touch : List Addr) (Pre : Heap → Prop) (Post : Heap → Value → Heap → Prop) (Err : Heap → Value → Heap → Prop := fun _ _ _ => False) : Prop :=
  ∀ (loose : List Str) (mean : ExcName → Option Value) (mg mb : Str → Option Value) (dp un : Nat) (gd : Option (List Code)) (cn : Str) (cs : Scope) (a : Addr) (ccd : Value) (cl : List (Str × Addr)) (outer : List Env) (A₀ : Around) (base h₀ : Heap) (L : Addr) (m : Str → Option Value) (s : Shared) (Q E : Value → Shared → Prop),
    Below A₀ base outer h₀ → Fr h₀ L s.heap m → (KK w).In h₀ → Top VW loose mean mg mb h₀ → cs.kind = .function → (∀ b ∈ touch, h₀.get? b = none ∧ b ≠ L) → Pre s.heap → dp + dd < recursionLimit → un + uu < cLine →
    (∀ v h' tk', Ext touch s.heap h' → Post s.heap v h' → Q v { s with heap := h', toks := tk' }) →
    (∀ v h' tk', Ext touch s.heap h' → Err s.heap v h' → E v { s with heap := h', toks := tk' }) →
    wpG (model Pr w) (ktrTop dp un gd cn cs L a ccd cl outer) (call (.ref f) args) Q E s
end
section
set_option maxHeartbeats 4000000
theorem offGT : True := by w_top off; trivial
section
variable {prog : Program} {w : World} {A : Around} {E : Value → Shared → Prop} {s : Shared}
theorem callTypeG {T newId initId : String} {Bi : Builtin} {args : List Value} {Q Q₁ : Value → Shared → Prop} (ft : TypeCalled T newId initId) (hnb : isBad (.builtin initId ⟨[], []⟩) = false)
    (hct : checkTypeCall T ⟨args, []⟩ = pure ()) (entryI : entryFor table initId = some Bi)
    (hnew : codeAny (model prog w) A.in1 (.call (.builtin newId) ⟨.type T :: args, []⟩) (wants Q₁ E) s)
    (hnext : ∀ obj s₁, Q₁ obj s₁ → s₁.TypeIs obj T ∧ argsOk initId ⟨obj :: args, []⟩ ∧
      wpG (model prog w) A.in1.in1 (Bi ⟨obj :: args, []⟩)
        (fun fin s' => match fin with | .done f => wants (fun r s₂ => r = .none ∧ Q obj s₂) E (.ok f) s' | .again c' => c'.quiet = true ∧ codeG (model prog w) A.in1 c' (wants (fun r s₂ => r = .none ∧ Q obj s₂) E) s')
        (fun e s' => wants (fun r s₂ => r = .none ∧ Q obj s₂) E (.error e) s') s₁) :
    wpG (model prog w) A (call (.type T) args) Q E s := by
  obtain ⟨c, tl, hmro⟩ := ft.mro
  refine wpG_call (codeG_of_tree rfl (wpG_any ?_))
  show wpAny _ _ (callAny (.type T) _) _ _ _
  refine wpAny_pure ⟨Code.quiet_builtin _ (by decide +kernel), codeG_builtin (by simp [isBad, badIds]; decide) F.entry_type_call ?_⟩
  rw [Around.under_plain (weight_type_call_type T args []) rfl]
  unfold Builtin.«type.__call__»
  simp only [ft.notType, ft.canCreate, Bool.false_eq_true, if_false]
  rw [hct, hmro, ft.made]
  refine wpG_bindAny (wpAny_pure (wpG_bindAny (wpAny_pure ?_)))
  first | refine wpAny_neg (by simp) ?_ | refine wpG_neg (by simp) ?_ | rw [if_neg (by simp)]
  refine wpG_bindAny (wpAny_pure (wpG_bindAny (wpAny_pure ?_)))
  refine wpG_bindAny (wpAny_holding (wpAny_call (codeAny_mono hnew fun r s₁ hr => ?_)))
  cases r with
  | error e => exact hr
  | ok fl =>
    cases fl with
    | ret obj =>
      obtain ⟨hT, hok, hsi⟩ := hnext _ _ hr
      refine wpG_bindAny (wpAny_isInstance hT ft.sub ?_)
      first | refine wpAny_neg (by decide) ?_ | refine wpG_neg (by decide) ?_ | simp only [Bool.not_true, Bool.false_eq_true, if_false]
      refine wpG_bind (wpG_holding ?_)
      unfold callSpecial?
      refine wpG_bindAny (wpAny_specialOf hT ft.init.lookup (wpG_holding ?_))
      rw [ft.init.bind obj]
      refine wpG_bindAny (wpAny_pure (wpG_bind (wpG_call ?_)))
      refine codeG_mono (codeG_call_builtin hnb ft.init.plain entryI (ft.init.check _ _ _ _ _ _ _ _ hT hok hsi)) fun r₂ s₂ hr₂ => ?_
      cases r₂ with
      | error e => exact hr₂
      | ok f₂ =>
        cases f₂ with
        | ret v =>
          obtain ⟨rfl, hq⟩ := hr₂
          exact wpG_pure (wpG_pure hq)
        | next => exact hr₂
        | brk => exact hr₂
        | cont => exact hr₂
    | next => exact hr
    | brk => exact hr
    | cont => exact hr
end
end
section
set_option maxHeartbeats 4000000
theorem offBA : True := by w_top off; trivial
abbrev baObj (b : Array UInt8) : Obj := { cls := .type "bytearray", data := .bytearray b 0 }
theorem ba_mro : mroOf (.type "bytearray") = pure [.type "bytearray", .type "object"] := by rw [mroOf_type]; kernel_rfl
theorem ba_lookup_new : typeLookup (.type "bytearray") "__new__" = pure (some (.builtin "bytearray.__new__")) := by rw [typeLookup_type, builtinLookup_eq_fast]; kernel_rfl
theorem ba_slot_init : Slot "bytearray" "__init__" "bytearray.__init__" :=
  .of (owner := "bytearray") (n := "__init__") (by rw [typeLookup_type, builtinLookup_eq_fast]; kernel_rfl) (by decide +kernel) (by decide +kernel) (by decide +kernel)
    (by first | exact .inl (by decide +kernel) | exact .inr (by decide +kernel)) (by rw [isSubtype_type]; kernel_rfl)
theorem ba_slot_extend : Slot "bytearray" "extend" "bytearray.extend" :=
  .of (owner := "bytearray") (n := "extend") (by rw [typeLookup_type, builtinLookup_eq_fast]; kernel_rfl) (by decide +kernel) (by decide +kernel) (by decide +kernel)
    (by first | exact .inl (by decide +kernel) | exact .inr (by decide +kernel)) (by rw [isSubtype_type]; kernel_rfl)
theorem ba_called : TypeCalled "bytearray" "bytearray.__new__" "bytearray.__init__" :=
  ⟨by decide +kernel, by decide +kernel, ⟨_, _, ba_mro⟩, madeBy_type ba_mro ba_lookup_new (by decide +kernel), by decide +kernel, by rw [isSubtype_type]; kernel_rfl, ba_slot_init⟩
theorem ba_typeCall : checkTypeCall "bytearray" ⟨[], []⟩ = pure () := by kernel_rfl
theorem ba_newCall : checkBuiltinCall "bytearray.__new__" ⟨[.type "bytearray"], []⟩ = pure () := by kernel_rfl
theorem ba_entry_new : entryFor table "bytearray.__new__" = some Builtin.«list.__new__» := entryFor_alias (id' := "list.__new__") (by rw [fastTable_eq_tree]; kernel_rfl) rfl (by rw [PySem.W.Fast.canonicalY_eq]; kernel_rfl) (by rw [fastTable_eq_tree]; kernel_rfl)
theorem ba_entry_init : entryFor table "bytearray.__init__" = some Builtin.«bytearray.__init__» := entryFor_of_tree (by kernel_rfl)
theorem ba_entry_extend : entryFor table "bytearray.extend" = some Builtin.«bytearray.extend» := entryFor_of_tree (by kernel_rfl)
theorem ba_plain_new : plainId "bytearray.__new__" = true := by decide +kernel
theorem ba_sub : isSubtype (.type "bytearray") (.type "bytearray") = pure true := by rw [isSubtype_type]; kernel_rfl
theorem ba_args_init (a : Value) : argsOk "bytearray.__init__" ⟨[a], []⟩ := by unfold argsOk; rw [PySem.W.Fast.signatureY_eq]; kernel_rfl
theorem ba_args_extend (a b : Value) : argsOk "bytearray.extend" ⟨[a, b], []⟩ := by unfold argsOk; rw [PySem.W.Fast.signatureY_eq]; kernel_rfl
section
variable {prog : Program} {w : World} {A : Around} {E : Value → Shared → Prop} {s : Shared}
set_option maxHeartbeats 4000000 in
theorem ba_owner : ("bytearray.__new__".splitOn ".__new__").headD "" = "bytearray" := by simp +decide [String.splitOn, String.splitOnAux]
theorem ba_code_new {Q₁ : Value → Shared → Prop} (h : Q₁ (.ref s.heap.objs.size) { s with heap := s.heap.push (baObj #[]) }) :
    codeAny (model prog w) A (.call (.builtin "bytearray.__new__") ⟨[.type "bytearray"], []⟩) (wants Q₁ E) s := by
  refine codeAny_of_tree ?_
  show wpAny _ A.in1 (do checkBuiltinCall "bytearray.__new__" ⟨[.type "bytearray"], []⟩; again (.builtin "bytearray.__new__" ⟨[.type "bytearray"], []⟩)) _ _ s
  refine wpAny_bind (wpAny_of_eq ba_newCall (wpAny_pure ⟨plainId_quiet ba_plain_new _, codeAny_builtin_stack ba_entry_new rfl fun p st => ?_⟩))
  rw [Around.under_plainId ba_plain_new _]
  have hsub := ba_sub
  have hmro := ba_mro
  have hown := ba_owner
  obtain ⟨hp, g, d, tk, os⟩ := s
  simp only [hown]
  wp_walk
  exact h
theorem ba_lookup_rel : typeLookup (.type "bytearray") "__release_buffer__" = pure (some (.builtin "bytearray.__release_buffer__")) := by rw [typeLookup_type, builtinLookup_eq_fast]; kernel_rfl
theorem ba_ends : ("bytearray.__release_buffer__").endsWith ("." ++ "__release_buffer__") = true := by decide +kernel
theorem ba_drop : ("bytearray.__release_buffer__").dropRight (("__release_buffer__" : String).length + 1) = "bytearray" := by decide +kernel
theorem ba_own {a : Addr} {Q : Bool → Shared → Prop} (hT : s.TypeIs (.ref a) "bytearray") (h : Q false s) : wpAny (model prog w) A (Builtin.Bytes.ownRelease (.ref a)) Q E s := by
  unfold Builtin.Bytes.ownRelease Builtin.Bytes.slotIsOwn
  refine wpAny_bind (wpAny_bind (wpAny_specialOf hT ba_lookup_rel ?_))
  simp only [ba_ends, ba_drop, Bool.not_true, Bool.false_eq_true, if_false]
  exact wpAny_isInstance hT ba_sub (wpAny_pure h)
theorem ba_bind : Builtin.Bytes.bindOptional "bytearray.__init__" "bytearray" ["source", "encoding", "errors"] [] [] = pure [none, none, none] := rfl
theorem ba_codec (i f k : String) : Builtin.Bytes.checkCodecArg i f k none = pure () := rfl
/-- nobody holds it -/
theorem ba_free {a : Addr} {b : Array UInt8} {Q : Bool → Shared → Prop} (ho : s.heap.get? a = some (baObj b)) (h : Q false s) :
    wpG (model prog w) A (Builtin.Bytes.exported (.ref a) <||> do return (← Builtin.Bytes.exportsOf (.ref a)) > 0) Q E s := by
  unfold orM
  refine wpG_bind (wpG_exported ?_)
  show wpG _ _ (Builtin.Bytes.exportsOf (.ref a) >>= _) _ _ _
  unfold Builtin.Bytes.exportsOf
  refine wpG_bindAny (wpAny_bind (wpAny_load ho (wpAny_pure (wpG_pure ?_))))
  exact h
theorem ba_write {a : Addr} {b : Array UInt8} {f : Array UInt8 → Array UInt8} {Q : Unit → Shared → Prop} (ho : s.heap.get? a = some (baObj b)) (hz : (f b).size ≤ 1000) (h : ∀ h', h'.get? a = some (baObj (f b)) → Heap.SameBut a s.heap h' → Q () { s with heap := h' }) :
    wpAny (model prog w) A (Builtin.Bytes.write (.ref a) f) Q E s := by
  unfold Builtin.Bytes.write updateBytearray
  refine wpAny_bind (wpAny_load ho ?_)
  have hfin : (s.heap.update a (Obj.mapBytearray f)).get? a = some (baObj (f b)) := by
    rw [Heap.get?_update_self _ ho rfl]
    rfl
  refine wpAny_bind (wpAny_update ho ?_)
  refine wpAny_lookBehind hfin ?_ (h _ hfin (Heap.SameBut.update ..))
  have : (1000 : Nat) ≤ sizeLine := by size_fits
  unfold Data.pastItsLine
  simp
  omega
theorem wpG_ff {M : Model} {α : Type} {a b : Sem α} {Q : α → Shared → Prop} (h : wpG M A b Q E s) : wpG M A (if false = true then a else b) Q E s := by
  rw [if_neg Bool.false_ne_true]; exact h
theorem wpAny_is {M : Model} {α : Type} {t : Sem α} {a : α} {Q : α → Shared → Prop} (e : t = pure a) (h : Q a s) : wpAny M A t Q E s := by
  rw [e]; exact wpAny_pure h
theorem ba_init {a : Addr} {b : Array UInt8} {Q : PySem.Fin → Shared → Prop} (ho : s.heap.get? a = some (baObj b)) (h : ∀ h', h'.get? a = some (baObj #[]) → Heap.SameBut a s.heap h' → Q (.done (.ret .none)) { s with heap := h' }) :
    wpG (model prog w) A (Builtin.«bytearray.__init__» ⟨[.ref a], []⟩) Q E s := by
  have hT : s.TypeIs (.ref a) "bytearray" := ⟨_, ho, rfl⟩
  unfold Builtin.«bytearray.__init__»
  refine wpG_bindAny (ba_own hT (wpG_ff (wpG_bindAny (wpAny_is ba_bind ?_))))
  refine wpG_bindAny (wpAny_is (ba_codec _ _ _) (wpG_bindAny (wpAny_is (ba_codec _ _ _) (wpG_bind (ba_free ho (wpG_ff ?_))))))
  refine wpG_bindAny (ba_write ho (by simp) fun h' e hs => wpG_bindAny (wpAny_pure (wpG_pure (h h' e hs))))
theorem ba_lookup_buf : typeLookup (.type "bytes") "__buffer__" = pure (some (.builtin "bytes.__buffer__")) := by rw [typeLookup_type, builtinLookup_eq_fast]; kernel_rfl
theorem bs_rel : typeLookup (.type "bytes") "__release_buffer__" = pure none := by rw [typeLookup_type, builtinLookup_eq_fast]; kernel_rfl
theorem bs_ends : ("bytes.__buffer__").endsWith ("." ++ "__buffer__") = true := by decide +kernel
theorem bs_drop : ("bytes.__buffer__").dropRight (("__buffer__" : String).length + 1) = "bytes" := by decide +kernel
theorem bs_sub : isSubtype (.type "bytes") (.type "bytes") = pure true := by rw [isSubtype_type]; kernel_rfl
theorem ba_take {id : String} {b : Array UInt8} {t : Tok} {Q : Option (Array UInt8 × Option Value) → Shared → Prop} (hT : s.TypeIs (.bytes b t) "bytes") (h : Q (some (b, none)) s) : wpAny (model prog w) A (Builtin.Bytes.takeBufferQuiet? id (.bytes b t) 0) Q E s := by
  unfold Builtin.Bytes.takeBufferQuiet? Builtin.Bytes.takeBuffer?
  refine wpAny_bind (wpAny_attempt ?_)
  refine wpAny_bind (wpAny_specialOf hT ba_lookup_buf ?_)
  dsimp only
  unfold Builtin.Bytes.slotIsOwn
  refine wpAny_bind (wpAny_bind (wpAny_specialOf hT ba_lookup_buf ?_))
  simp only [bs_ends, bs_drop, Bool.not_true, Bool.false_eq_true, if_false]
  refine wpAny_isInstance hT bs_sub ?_
  simp only [Bool.not_true, Bool.false_eq_true, if_false]
  refine wpAny_bind (wpAny_specialOf hT ba_lookup_buf ?_)
  unfold Builtin.Bytes.buffer?
  refine wpAny_bind (wpAny_bind (wpAny_specialOf hT ba_lookup_buf ?_))
  unfold Builtin.Bytes.slotIsOwn
  refine wpAny_bind (wpAny_bind (wpAny_specialOf hT ba_lookup_buf ?_))
  simp only [bs_ends, bs_drop, Bool.not_true, Bool.false_eq_true, if_false]
  refine wpAny_isInstance hT bs_sub ?_
  simp only [Bool.not_true, Bool.false_eq_true, if_false]
  refine wpAny_bind (wpAny_specialOf hT ba_lookup_buf ?_)
  unfold Builtin.Bytes.ownRelease Builtin.Bytes.slotIsOwn
  refine wpAny_bind (wpAny_bind (wpAny_bind (wpAny_specialOf hT bs_rel ?_)))
  refine wpAny_pure (wpAny_pure ?_)
  simp only [Bool.not_true, Bool.false_eq_true, if_false]
  exact wpAny_bind (wpAny_pure (wpAny_pure (wpAny_pure (wpAny_pure h))))
theorem ba_extend {a : Addr} {b more : Array UInt8} {t : Tok} {Q : PySem.Fin → Shared → Prop} (ho : s.heap.get? a = some (baObj b)) (hTm : s.TypeIs (.bytes more t) "bytes") (hz : (b ++ more).size ≤ 1000) (h : ∀ h', h'.get? a = some (baObj (b ++ more)) → Heap.SameBut a s.heap h' → Q (.done (.ret .none)) { s with heap := h' }) :
    wpG (model prog w) A (Builtin.«bytearray.extend» ⟨[.ref a, .bytes more t], []⟩) Q E s := by
  have hT : s.TypeIs (.ref a) "bytearray" := ⟨_, ho, rfl⟩
  unfold Builtin.«bytearray.extend»
  show wpG _ _ (pure (Value.ref a, Value.bytes more t) >>= _) _ _ _
  refine wpG_bindAny (wpAny_pure ?_)
  dsimp only
  refine wpG_bindAny (wpAny_specialOf hTm ba_lookup_buf ?_)
  simp only [Option.isSome_some, if_true]
  refine wpG_bindAny (wpAny_rule ?_)
  unfold Builtin.Bytes.payload Builtin.Bytes.payload?
  refine wpG_bindAny (wpAny_bind (wpAny_bind (wpAny_load ho (wpAny_pure (wpAny_pure ?_)))))
  refine wpG_bindAny (ba_take hTm ?_)
  dsimp only
  simp only [Option.isNone_none, if_true]
  show wpG _ _ (do
    if !more.isEmpty then
      Builtin.Bytes.checkResize (.ref a)
    Builtin.Bytes.write (.ref a) (· ++ more)
    ret .none) _ _ _
  unfold Builtin.Bytes.checkResize
  have fin : wpG (model prog w) A (do Builtin.Bytes.write (.ref a) (· ++ more); ret .none) Q E s := wpG_bindAny (ba_write ho hz fun h' e hs => wpG_pure (h h' e hs))
  cases hm : more.isEmpty with
  | true =>
    simp only [Bool.not_true, Bool.false_eq_true, if_false]
    exact fin
  | false =>
    simp only [Bool.not_false, if_true]
    refine wpG_bind (wpG_bind (ba_free ho ?_))
    simp only [Bool.false_eq_true, if_false]
    exact wpG_pure fin
theorem ba_plain : PlainAttrs "bytearray" :=
  ⟨⟨"bytearray.__getattribute__", by rw [typeLookup_type, builtinLookup_eq_fast]; kernel_rfl, by decide +kernel⟩, by rw [typeLookup_type, builtinLookup_eq_fast]; kernel_rfl⟩
theorem ba_type_extend : typeOf (.builtin "bytearray.extend") = pure (.type "method_descriptor") := by show builtinType _ = _; rw [builtinType_eq_fast]; kernel_rfl
theorem ba_method {M : Model} {a : Addr} {b : Array UInt8} {pl : Sem Bool} {Q : Value × List Value → Shared → Prop} (ho : s.heap.get? a = some (baObj b)) (h : Q (.builtin "bytearray.extend", [.ref a]) s) :
    wpAny M A (getMethod (.ref a) "extend" pl) Q E s :=
  getMethod_builtin (T := "bytearray") ⟨_, ho, rfl⟩ ba_plain ba_slot_extend ba_type_extend (fun a' e => by cases e; exact ⟨_, ho, rfl⟩) h

variable {h₀ : Heap} {L : Addr} {m : Str → Option Value} {news pre post : List (Addr × Obj)}
/-- bytearray() -/
theorem ba_make {Q : Value → Shared → Prop} (F : Fr h₀ L s.heap m) (N : News h₀ L s.heap news)
    (h : ∀ B h', Fr h₀ L h' m → News h₀ L h' ((B, baObj #[]) :: news) → (∀ p ∈ news, p.1 < B) → Q (.ref B) { s with heap := h' }) :
    wpG (model prog w) A (call (.type "bytearray") []) Q E s := by
  refine callTypeG (Q₁ := fun obj s₁ => obj = .ref s.heap.objs.size ∧ s₁ = { s with heap := s.heap.push (baObj #[]) }) ba_called rfl ba_typeCall ba_entry_init (ba_code_new ⟨rfl, rfl⟩) ?_
  rintro obj s₁ ⟨rfl, rfl⟩
  have e0 : (s.heap.push (baObj #[])).get? s.heap.objs.size = some (baObj #[]) := Heap.get?_push_size _ rfl
  refine ⟨⟨_, e0, rfl⟩, ba_args_init _, ba_init e0 fun h' e' hs => ⟨rfl, ?_⟩⟩
  have N1 := News.push F N (baObj #[])
  have z := N1 _ (.head _)
  refine h _ h' ((F.push _).change hs z.2.1 z.2.2) (N1.setHead N.apart hs e') fun p hp => Heap.lt_size (N p hp).1
theorem ba_call {a : Addr} {b more : Array UInt8} {t : Tok} {Q : Value → Shared → Prop} (F : Fr h₀ L s.heap m) (N : News h₀ L s.heap (pre ++ (a, baObj b) :: post)) (hz : (b ++ more).size ≤ 1000) (h1 : ∀ p ∈ pre, p.1 ≠ a) (h2 : ∀ p ∈ post, p.1 ≠ a)
    (h : ∀ h', Fr h₀ L h' m → News h₀ L h' (pre ++ (a, baObj (b ++ more)) :: post) → Q .none { s with heap := h' }) :
    wpG (model prog w) A (call (.builtin "bytearray.extend") [.ref a, .bytes more t]) Q E s := by
  have z := N (a, baObj b) (by simp)
  refine wpG_call (codeG_call_builtin rfl ba_slot_extend.plain ba_entry_extend (ba_slot_extend.check _ _ _ _ _ _ _ _ (show s.TypeIs (.ref a) "bytearray" from ⟨_, z.1, rfl⟩) (ba_args_extend _ _) (ba_extend z.1 (typeIs_bytes _ _ _) hz fun h' e hs => ?_)))
  exact h h' (F.change hs z.2.1 z.2.2) (news_set N h1 h2 hs e)
end
end
section
set_option maxHeartbeats 4000000
theorem offOut : True := by w_top off; trivial
section
variable {prog : Program} {w : World} {A : Around} {E : Value → Shared → Prop} {s : Shared} {env : Env}
theorem wpG_Assign_Attribute {o attr pos' value pos} {Q : Flow → Shared → Prop}
    (h : wpG (model prog w) A (eval value env) (fun v s₁ => wpAny (model prog w) A (eval o env) (fun ov s₂ => wpAny (model prog w) A (setAttr ov attr v) (fun _ => Q .next) E s₂) E s₁) E s)
    (hs : swapsWith value (some (.Attribute o attr pos')) pos.line env = pure false := by rfl) :
    wpG (model prog w) A (exec (.Assign [.Attribute o attr pos'] value pos) env) Q E s := by
  rw [plainObj_exec_Assign_Attribute o attr pos' value pos hs]
  refine wpG_bindAny (wpAny_standAt (wpG_bind (wpG_mono h (fun v s₁ h₁ => ?_) fun _ _ e => e)))
  have hA : wpAny (model prog w) A (assign (.Attribute o attr pos') env v) (fun _ => Q .next) E s₁ := by
    intro Γ p hΓ
    simp only [assign_Attribute, Sem.wp_bind', Sem.wp_holding, Sem.wp_cmd_standAt, Sem.wp_release, Sem.wp_pure']
    exact Sem.wp_mono _ Γ _ (fun ov _ s₂ h₂ => h₂ Γ _ hΓ) (fun _ _ _ h' => h') _ _ (h₁ Γ p hΓ)
  exact wpG_bindAny (wpAny_mono hA (fun _ _ q => wpG_pure q) fun _ _ e => e)
theorem wpG_execs_nil {M : Model} {Q : Flow → Shared → Prop} (h : Q .next s) : wpG M A (execs [] env) Q E s := wpG_any (wpAny_execs_nil h)
end
/-- an object that a called def made -/
theorem new_back {h₀ h g h' : Heap} {L Li b : Addr} {m : Str → Option Value} {o : Obj} {news rest : List (Addr × Obj)} (F : Fr h₀ L h m) (hX : Ext (news.map (·.1)) h g) (Ni : News g Li h' rest) (hm : (b, o) ∈ rest) (hb : ∀ p ∈ news, p.1 ≠ b) : h.get? b = none ∧ b ≠ L ∧ h₀.get? b = none := by
  have hn : h.get? b = none := by
    cases e : h.get? b with
    | none => rfl
    | some o' =>
      have := hX b o' e (fun hm => by obtain ⟨p, hp, q⟩ := List.mem_map.mp hm; exact hb p hp q)
      rw [(Ni _ hm).2.2] at this; cases this
  refine ⟨hn, fun q => ?_, ?_⟩
  · obtain ⟨oL, _, _, ho, _⟩ := F.ns
    rw [← q, hn] at ho; cases ho
  · cases z : h₀.get? b with
    | none => rfl
    | some o' => have := F.keep b o' z; rw [hn] at this; cases this
theorem out_led {h₀ h6 g h' : Heap} {L Li x dx Bb : Addr} {ox od oB ox0 od0 : Obj} {news : List (Addr × Obj)} (N3 : News g Li h' ((Bb, oB) :: (x, ox) :: (dx, od) :: news)) (N6 : News h₀ L h6 ((x, ox0) :: (dx, od0) :: news)) (hB : Bb ≠ L ∧ h₀.get? Bb = none) :
    News h₀ L h' ((x, ox) :: (dx, od) :: (Bb, oB) :: news) := fun p hp => by
  rcases List.mem_cons.mp hp with rfl | hp
  · exact ⟨(N3 _ (.tail _ (.head _))).1, (N6 _ (.head _)).2⟩
  · rcases List.mem_cons.mp hp with rfl | hp
    · exact ⟨(N3 _ (.tail _ (.tail _ (.head _)))).1, (N6 (dx, od0) (.tail _ (.head _))).2⟩
    · rcases List.mem_cons.mp hp with rfl | hp
      · exact ⟨(N3 _ (.head _)).1, hB⟩
      · exact ⟨(N3 _ (.tail _ (.tail _ (.tail _ hp)))).1, (N6 _ (.tail _ (.tail _ hp))).2⟩
end
section
set_option maxHeartbeats 4000000
section
variable {w : World} {A₀ : Around} {s : Shared} {base h₀ : Heap} {outer : List Env} {L : Addr} {m : Str → Option Value} {news : List (Addr × Obj)}
  {loose : List Str} {mean : ExcName → Option Value} {mg mb : Str → Option Value} {dp un : Nat} {gd : Option (List Code)} {cn : Str} {cs : Scope} {a : Addr} {ccd : Value} {cl : List (Str × Addr)} {Q E : Value → Shared → Prop}
local macro_rules | `(tactic| k_all) => `(tactic| assumption)
theorem out_make (B : Below A₀ base outer h₀) (F : Fr h₀ L s.heap m) (X : (KK w).In h₀) (T : Top VW loose mean mg mb h₀) (N : News h₀ L s.heap news) (hk : cs.kind = .function) (hd : dp + 1 < recursionLimit) (hu : un + 16 < cLine)
    (hret : ∀ x dx Bb tk h' tk', Fr h₀ L h' m → News h₀ L h' ((x, instObj 153 dx) :: (dx, oneField w (Str.ofString "made") tk (.ref Bb)) :: (Bb, baObj #[]) :: news) → (∀ p ∈ news, p.1 < dx ∧ p.1 < Bb) → dx < x → x < Bb → Q (.ref x) { s with heap := h', toks := tk' }) :
    wpG (model Pr w) (ktrTop dp un gd cn cs L a ccd cl outer) (call (.ref 153) []) Q E s := by
  revert B F X T N hret
  dsimp only [Pr, KK, VW]
  k_fill
  intro B F X T N hret
  refine' call_clsG ?k1 ?k2 ?k3 ?k4 ?k5 ?k6 ?_
  case k1 => k_asm
  case k2 => k_asm
  case k3 => k_asm
  case k4 => k_is
  case k5 => k_is
  case k6 => k_is
  k_whole
  intro x dx h6 F6 N6 l6 l7
  k_dflt (refine' own_callG (binds := [(Str.ofString "self", Value.ref x)]) ?k1x48 ?k2x48 ?k3x48 ?k4x48 ?k5x48 ?kAx48 ?kFx48 ?kKx48 ?k6x48 ?k7x48 ?k8x48 ?k9x48 ?kBx48 ?_ ?c2x48 ?c3x48 ?c4x48 ?c5x48; (case kAx48 => exact rfl); (case kFx48 => exact rfl); (case kKx48 => first | exact rfl | assumption); (case k1x48 => k_asm); (case k2x48 => k_asm); (case k3x48 => k_asm); (case k4x48 => k_asm); (case k5x48 => k_asm); (case k6x48 => k_is); (case k7x48 => k_is); (case k8x48 => (first | exact room0 (by assumption) | exact room2 (by assumption) (by decide) | ktr_room)); (case k9x48 => exact BindsTo.of_eq rfl); (case c5x48 => decide); (case kBx48 => exact locs rfl); (case c2x48 => exact rfl); (case c3x48 => exact rfl); (case c4x48 => exact rfl); k_whole; intro _ _ _ _ _ _ _ _ _ _; (try dsimp only))
  rename_i g1 L1 h1 hX hXr F1 N1 B1 X1 T1
  have hdx : ∀ p ∈ news, p.1 ≠ dx := fun p hp => Nat.ne_of_lt (l6 p hp)
  have hxn : ∀ p ∈ news, p.1 ≠ x := fun p hp => Nat.ne_of_lt (Nat.lt_trans (l6 p hp) l7)
  have hxd : x ≠ dx := Nat.ne_of_gt l7
  have hdx' : dx ≠ x := Nat.ne_of_lt l7
  refine wpG_execs_cons (wpG_Assign_Attribute (CallG_Name ?_) (by with_unfolding_all rfl))
  walk_at "glyph walk"
  rename_i F1
  refine callWithG_T0 (ba_make F1 N1 fun Bb h2 F2 N2 l2 => ?_)
  have hB1 := l2 _ (.head _)
  have hB2 := l2 _ (.tail _ (.head _))
  have hBx : Bb ≠ x := Nat.ne_of_gt hB1
  have hBd : Bb ≠ dx := Nat.ne_of_gt hB2
  walk_at "glyph walk"
  rename_i F3 N3
  refine wpG_execs_nil ⟨rfl, ?_⟩
  have F8 := fr_back F6 N6 hX F3
  have hBn := new_back F6 hX N3 (.head _) (fun p hp => Nat.ne_of_lt (l2 p (by
    rcases List.mem_cons.mp hp with rfl | hp
    · exact .head _
    · rcases List.mem_cons.mp hp with rfl | hp
      · exact .tail _ (.head _)
      · exact .tail _ (.tail _ hp))))
  exact hret x dx Bb _ _ _ F8 (out_led N3 N6 hBn.2) (fun p hp => ⟨l6 p hp, l2 p (.tail _ (.tail _ hp))⟩) l7 hB1
end
end
section
set_option maxHeartbeats 4000000
theorem offU16 : True := by w_top off; trivial
/-- an OctetsOut -/
def OutAt (w : World) (h : Heap) (x dx Bb : Addr) (tk : Tok) (b : Array UInt8) : Prop := h.get? x = some (instObj 153 dx) ∧ h.get? dx = some (oneField w (Str.ofString "made") tk (.ref Bb)) ∧ h.get? Bb = some (baObj b) ∧ dx < x ∧ x < Bb
abbrev outLed (w : World) (x dx Bb : Addr) (tk : Tok) (b : Array UInt8) (rest : List (Addr × Obj)) : List (Addr × Obj) := (x, instObj 153 dx) :: (dx, oneField w (Str.ofString "made") tk (.ref Bb)) :: (Bb, baObj b) :: rest

theorem ct_u16 (w : World) (x dx Bb : Addr) (tk : Tok) (b : Array UInt8) (n : Int) (t : Tok) (hn : 0 ≤ n ∧ n < 65536) (hz : b.size + 2 ≤ 1000) :
    CtG w 96 [.ref x, .int n t] 2 24 [x, dx, Bb] (fun h => OutAt w h x dx Bb tk b) (fun _ v h' => v = .none ∧ OutAt w h' x dx Bb tk (b ++ toB (oct2 n))) := by
  unfold CtG
  dsimp only [Pr, KK, VW]
  k_fill
  intro loose mean mg mb dp un gd cn cs a ccd cl outer A₀ base h₀ L m s Q E B F X T hk ht hP hd hu hret herr
  obtain ⟨hx, hdx, hB, hdl, hbl⟩ := hP
  have N : News h₀ L s.heap (outLed w x dx Bb tk b []) := by
    intro p hp
    simp only [outLed, List.mem_cons, List.not_mem_nil, or_false] at hp
    rcases hp with rfl | rfl | rfl
    · exact ⟨hx, (ht x (by simp)).2, (ht x (by simp)).1⟩
    · exact ⟨hdx, (ht dx (by simp)).2, (ht dx (by simp)).1⟩
    · exact ⟨hB, (ht Bb (by simp)).2, (ht Bb (by simp)).1⟩
  dsimp only [outLed] at N
  have hxd : x ≠ dx := Nat.ne_of_gt hdl
  have hdx' : dx ≠ x := Nat.ne_of_lt hdl
  have hBx : Bb ≠ x := Nat.ne_of_gt hbl
  have hBd : Bb ≠ dx := Nat.ne_of_gt (Nat.lt_trans hdl hbl)
  refine wpG_call ?_
  k_dflt (refine' own_callG (binds := [(Str.ofString "self", Value.ref x), (Str.ofString "number", Value.int n t)]) ?k1x50 ?k2x50 ?k3x50 ?k4x50 ?k5x50 ?kAx50 ?kFx50 ?kKx50 ?k6x50 ?k7x50 ?k8x50 ?k9x50 ?kBx50 ?_ ?c2x50 ?c3x50 ?c4x50 ?c5x50; (case kAx50 => exact rfl); (case kFx50 => exact rfl); (case kKx50 => first | exact rfl | assumption); (case k1x50 => k_asm); (case k2x50 => k_asm); (case k3x50 => k_asm); (case k4x50 => k_asm); (case k5x50 => k_asm); (case k6x50 => k_is); (case k7x50 => k_is); (case k8x50 => (first | exact room0 (by assumption) | exact room2 (by assumption) (by decide) | ktr_room)); (case k9x50 => exact BindsTo.of_eq rfl); (case c5x50 => decide); (case kBx50 => exact locs rfl); (case c2x50 => exact rfl); (case c3x50 => exact rfl); (case c4x50 => exact rfl); k_whole; intro _ _ _ _ _ _ _ _ _ _; (try dsimp only))
  rename_i g1 L1 h1 hX hXr F1 N1 B1 X1 T1
  refine wpG_execs_cons (wpG_Expr (MethodCallG ?_) (by with_unfolding_all rfl) (by with_unfolding_all rfl))
  walk_at "glyph walkS"
  refine ba_method (N1 _ (.tail _ (.tail _ (.head _)))).1 ?_
  refine callWithG_B ?_
  walk_at "glyph walk"
  (refine' ct_use (ct_numOct w n t _) ?k1x49 ?k2x49 ?k3x49 ?k4x49 ?k5x49 ?kKx49 ?kPx49 ?kdx49 ?kux49 ?_; (case k1x49 => k_asm); (case k2x49 => k_asm); (case k3x49 => k_asm); (case k4x49 => k_asm); (case k5x49 => k_asm); (case kKx49 => first | exact rfl | assumption); (case kdx49 => (first | exact room0 (by assumption) | exact room2 (by assumption) (by decide) | ktr_room)); (case kux49 => (first | exact units2 (by assumption) (by decide) | ktr_units)); (try (case kPx49 => trivial)))
  intro v h' tk' kp F2 N2 hv
  obtain ⟨t2, rfl⟩ := hv
  walk_at "glyph walk"
  refine ba_call (pre := [(x, _), (dx, _)]) (post := []) F2 N2 ?_ ?_ (fun p hp => nomatch hp) fun h3 F3 N3 => ?_
  · have : (toB (oct2 n)).size = 2 := by rw [toB_size]; rfl
    rw [Array.size_append, this]; exact hz
  · intro p hp
    simp only [List.mem_cons, List.not_mem_nil, or_false] at hp
    rcases hp with rfl | rfl
    · exact hBx.symm
    · exact hBd.symm
  refine wpG_execs_nil ?_
  refine hret _ _ _ (ext_of hX F3) ⟨rfl, (N3 _ (.head _)).1, (N3 _ (.tail _ (.head _))).1, (N3 _ (.tail _ (.tail _ (.head _)))).1, hdl, hbl⟩
end
section
set_option maxHeartbeats 4000000
theorem offAddO : True := by w_top off; trivial
theorem ct_add (w : World) (x dx Bb : Addr) (tk : Tok) (b more : Array UInt8) (t : Tok) (hz : b.size + more.size ≤ 1000) :
    CtG w 136 [.ref x, .bytes more t] 2 24 [x, dx, Bb] (fun h => OutAt w h x dx Bb tk b) (fun _ v h' => v = .none ∧ OutAt w h' x dx Bb tk (b ++ more)) := by
  unfold CtG
  dsimp only [Pr, KK, VW]
  k_fill
  intro loose mean mg mb dp un gd cn cs a ccd cl outer A₀ base h₀ L m s Q E B F X T hk ht hP hd hu hret herr
  obtain ⟨hx, hdx, hB, hdl, hbl⟩ := hP
  have N : News h₀ L s.heap (outLed w x dx Bb tk b []) := by
    intro p hp
    simp only [outLed, List.mem_cons, List.not_mem_nil, or_false] at hp
    rcases hp with rfl | rfl | rfl
    · exact ⟨hx, (ht x (by simp)).2, (ht x (by simp)).1⟩
    · exact ⟨hdx, (ht dx (by simp)).2, (ht dx (by simp)).1⟩
    · exact ⟨hB, (ht Bb (by simp)).2, (ht Bb (by simp)).1⟩
  dsimp only [outLed] at N
  have hxd : x ≠ dx := Nat.ne_of_gt hdl
  have hdx' : dx ≠ x := Nat.ne_of_lt hdl
  have hBx : Bb ≠ x := Nat.ne_of_gt hbl
  have hBd : Bb ≠ dx := Nat.ne_of_gt (Nat.lt_trans hdl hbl)
  refine wpG_call ?_
  k_dflt (refine' own_callG (binds := [(Str.ofString "self", Value.ref x), (Str.ofString "octets", Value.bytes more t)]) ?k1x51 ?k2x51 ?k3x51 ?k4x51 ?k5x51 ?kAx51 ?kFx51 ?kKx51 ?k6x51 ?k7x51 ?k8x51 ?k9x51 ?kBx51 ?_ ?c2x51 ?c3x51 ?c4x51 ?c5x51; (case kAx51 => exact rfl); (case kFx51 => exact rfl); (case kKx51 => first | exact rfl | assumption); (case k1x51 => k_asm); (case k2x51 => k_asm); (case k3x51 => k_asm); (case k4x51 => k_asm); (case k5x51 => k_asm); (case k6x51 => k_is); (case k7x51 => k_is); (case k8x51 => (first | exact room0 (by assumption) | exact room2 (by assumption) (by decide) | ktr_room)); (case k9x51 => exact BindsTo.of_eq rfl); (case c5x51 => decide); (case kBx51 => exact locs rfl); (case c2x51 => exact rfl); (case c3x51 => exact rfl); (case c4x51 => exact rfl); k_whole; intro _ _ _ _ _ _ _ _ _ _; (try dsimp only))
  rename_i g1 L1 h1 hX hXr F1 N1 B1 X1 T1
  refine wpG_execs_cons (wpG_Expr (MethodCallG ?_) (by with_unfolding_all rfl) (by with_unfolding_all rfl))
  walk_at "glyph walkS"
  refine ba_method (N1 _ (.tail _ (.tail _ (.head _)))).1 ?_
  refine callWithG_B ?_
  walk_at "glyph walk"
  refine ba_call (pre := [(x, _), (dx, _)]) (post := []) F1 N1 (by rw [Array.size_append]; exact hz) ?_ (fun p hp => nomatch hp) fun h3 F3 N3 => ?_
  · intro p hp
    simp only [List.mem_cons, List.not_mem_nil, or_false] at hp
    rcases hp with rfl | rfl
    · exact hBx.symm
    · exact hBd.symm
  refine wpG_execs_nil ?_
  refine hret _ _ _ (ext_of hX F3) ⟨rfl, (N3 _ (.head _)).1, (N3 _ (.tail _ (.head _))).1, (N3 _ (.tail _ (.tail _ (.head _)))).1, hdl, hbl⟩
end
section
set_option maxHeartbeats 4000000
theorem offJoin : True := by w_top off; trivial
section
variable {prog : Program} {w : World} {A : Around} {E : Value → Shared → Prop} {s : Shared}
theorem forIn_turns {M : Model} {β : Type} (f : Nat → β → Sem (ForInStep β)) (I : Nat → β → Shared → Prop) (n : Nat) {Q : β → Shared → Prop}
    (step : ∀ i b s, i < n → I i b s → wpAny M A (f i b) (fun r s' => ∃ b', r = .yield b' ∧ I (i + 1) b' s') E s) (fin : ∀ b s, I n b s → Q b s) :
    ∀ (k i : Nat) (b : β) (s : Shared), i + k = n → I i b s → wpAny M A (forIn (List.range' i k) b f) Q E s
  | 0, i, b, s, hk, h => by
    have : i = n := by omega
    subst this
    exact wpAny_pure (fin b s h)
  | k + 1, i, b, s, hk, h => by
    rw [List.range'_succ, List.forIn_cons]
    refine wpAny_bind (wpAny_mono (step i b s (by omega) h) (fun r s' q => ?_) fun _ _ e => e)
    obtain ⟨b', rfl, hb'⟩ := q
    exact forIn_turns f I n step fin k (i + 1) b' s' (by omega) hb'
theorem fold_size : ∀ (l : List (Array UInt8)) (acc : Array UInt8), (∀ b ∈ l, b.size ≤ 4) → (l.foldl (· ++ ·) acc).size ≤ acc.size + 4 * l.length
  | [], acc, _ => by simp
  | b :: r, acc, h => by
    have h1 := fold_size r (acc ++ b) (fun b' hm => h b' (.tail _ hm))
    have h2 := h b (.head _)
    rw [Array.size_append] at h1
    simp only [List.foldl_cons, List.length_cons]
    omega
theorem joinLetGo_none {M : Model} : ∀ (l : List Value) (keep : List Value) {Q : Unit → Shared → Prop}, Q () s → wpAny M A (Builtin.Bytes.joinLetGo (l.map fun y => (y, none)) keep) Q E s
  | [], _, _, h => wpAny_pure h
  | x :: r, keep, _, h => by
    rw [List.map_cons]
    unfold Builtin.Bytes.joinLetGo
    exact wpAny_bind (wpAny_letGo (joinLetGo_none r keep h))
theorem joined_nil (l : List (Array UInt8)) : Builtin.Bytes.joined #[] l = l.foldl (· ++ ·) #[] := by
  unfold Builtin.Bytes.joined
  have key : ∀ (l : List (Array UInt8)) (k : Nat) (acc : Array UInt8), ((l.zipIdx k).foldl (fun out (x : Array UInt8 × Nat) => (if x.2 > 0 then out ++ #[] else out) ++ x.1) acc) = l.foldl (· ++ ·) acc := by
    intro l
    induction l with
    | nil => intro k acc; rfl
    | cons b r ih =>
      intro k acc
      rw [List.zipIdx_cons, List.foldl_cons, List.foldl_cons, ih]
      congr 1
      split <;> simp
  exact key l 0 #[]
theorem bs_slot_join : Slot "bytes" "join" "bytes.join" :=
  .of (owner := "bytes") (n := "join") (by rw [typeLookup_type, builtinLookup_eq_fast]; kernel_rfl) (by decide +kernel) (by decide +kernel) (by decide +kernel)
    (by first | exact .inl (by decide +kernel) | exact .inr (by decide +kernel)) (by rw [isSubtype_type]; kernel_rfl)
theorem bs_entry_join : entryFor table "bytes.join" = some Builtin.«bytes.join» := entryFor_of_tree (by kernel_rfl)
theorem bs_args_join (a b : Value) : argsOk "bytes.join" ⟨[a, b], []⟩ := by unfold argsOk; rw [PySem.W.Fast.signatureY_eq]; kernel_rfl
theorem bs_join {l : Addr} {ys : List Value} {k : Nat} {t : Tok} {Q : PySem.Fin → Shared → Prop} (hl : s.heap.get? l = some (PySem.W.listOf ys.toArray k)) (bs : List (Array UInt8)) (hy : Paired (fun y b => ∃ t, y = .bytes b t) ys bs) (hz : ys.length ≤ 64) (hb : ∀ b ∈ bs, b.size ≤ 4)
    (h : ∀ t tk, Q (.done (.ret (.bytes (bs.foldl (· ++ ·) #[]) t))) { s with toks := tk }) :
    wpAny (model prog w) A (Builtin.«bytes.join» ⟨[.bytes #[] t, .ref l], []⟩) Q E s := by
  unfold Builtin.«bytes.join» Builtin.Bytes.joinM
  show wpAny _ _ (pure (Value.bytes #[] t, Value.ref l) >>= _) _ _ _
  refine wpAny_bind (wpAny_pure ?_)
  dsimp only
  first | refine wpAny_pos (by decide) ?_ | refine wpG_pos (by decide) ?_ | rw [if_pos (by decide)]
  unfold Builtin.Bytes.joinItems
  refine wpAny_bind (wpAny_bind (wpAny_typeOf (T := "list") ⟨_, hl, rfl⟩ ?_))
  first | refine wpAny_pos (by decide) ?_ | refine wpG_pos (by decide) ?_ | rw [if_pos (by decide)]
  refine wpAny_pure (wpAny_bind (wpAny_seqItems hl rfl ?_))
  dsimp only
  first | refine wpAny_pos (by decide) ?_ | refine wpG_pos (by decide) ?_ | rw [if_pos (by decide)]
  have hbytes : ∀ y ∈ ys, ∃ b t, y = .bytes b t := fun y hm => by
    obtain ⟨i, hi⟩ := List.mem_iff_getElem?.mp hm
    obtain ⟨b, _, t, rfl⟩ := paired_at hy hi
    exact ⟨b, t, rfl⟩
  rcases ys with _ | ⟨y1, _ | ⟨y2, yr⟩⟩
  rotate_left
  · obtain ⟨b, bs', rfl, ⟨tb, rfl⟩, hr⟩ : ∃ b bs', bs = b :: bs' ∧ (∃ t, y1 = .bytes b t) ∧ bs' = [] := by
      cases hy with
      | cons f r => cases r; exact ⟨_, _, rfl, f, rfl⟩
    subst hr
    refine wpAny_bind (m := typeOf (Value.bytes b tb)) (wpAny_typeOf (T := "bytes") (typeIs_bytes _ _ _) ?_)
    first | refine wpAny_pos (by decide) ?_ | refine wpG_pos (by decide) ?_ | rw [if_pos (by decide)]
    refine wpAny_bind (wpAny_rule (wpAny_pure ?_))
    have := h tb s.toks
    rw [show ([b].foldl (· ++ ·) #[] : Array UInt8) = b by simp] at this
    exact this
  · refine wpAny_bind ?_
    generalize hzs : (y1 :: y2 :: yr) = zs at *
    rw [Std.Legacy.Range.forIn_eq_forIn_range']
    refine forIn_turns _ (fun i st s' => (∃ tk, s' = { s with toks := tk }) ∧ st.1.toList = bs.take i ∧ st.2 = (zs.take i).map fun y => (y, none)) zs.length ?_ ?_ _ 0 _ _ (by simp [Std.Legacy.Range.size]) ⟨⟨s.toks, rfl⟩, rfl, rfl⟩
    · rintro i ⟨parts, taken⟩ s' hin ⟨⟨tk, rfl⟩, hp, ht⟩
      simp only at hp ht
      obtain ⟨z, hz1⟩ : ∃ z, zs[i]? = some z := ⟨_, List.getElem?_eq_getElem hin⟩
      obtain ⟨b, hbi, tb, rfl⟩ := paired_at hy hz1
      refine wpAny_bind (wpAny_seqItems hl rfl ?_)
      dsimp only
      have hany : (taken.any fun x => x.1.onHeap) = false := by
        rw [ht, List.any_map, List.any_eq_false]
        intro y hm
        obtain ⟨b', t', rfl⟩ := hbytes y (List.mem_of_mem_take hm)
        simp [Value.onHeap]
      first | refine wpAny_neg (by rw [hany]; decide) ?_ | refine wpG_neg (by rw [hany]; decide) ?_ | rw [if_neg (by rw [hany]; decide)]
      rw [show zs.toArray.getD i Value.none = .bytes b tb by simp [hz1]]
      refine wpAny_bind (wpAny_holding (ba_take (typeIs_bytes _ _ _) ?_))
      dsimp only
      refine wpAny_bind (wpAny_seqItems hl rfl ?_)
      dsimp only
      first | refine wpAny_neg (by simp) ?_ | refine wpG_neg (by simp) ?_ | rw [if_neg (by simp)]
      refine wpAny_pure ⟨_, rfl, ⟨tk, rfl⟩, ?_, ?_⟩
      · simp only [Array.toList_push, hp]
        rw [List.take_add_one, hbi]; rfl
      · simp only [ht]
        rw [List.take_add_one, hz1, List.map_append]; rfl
    · rintro ⟨parts, taken⟩ s' ⟨⟨tk, rfl⟩, hp, ht⟩
      simp only at hp ht
      rw [List.take_of_length_le (by rw [hy.length]; exact Nat.le_refl _)] at hp
      show wpAny _ _ (pure #[] >>= _) _ _ _
      refine wpAny_bind (wpAny_pure ?_)
      have hsum : parts.foldl (· + ·.size) ((#[] : Array UInt8).size * (parts.size - 1)) ≤ 4 * bs.length := by
        rw [← Array.foldl_toList, hp]
        have key : ∀ (l : List (Array UInt8)) (n : Nat), (∀ b ∈ l, b.size ≤ 4) → l.foldl (· + ·.size) n ≤ n + 4 * l.length := by
          intro l
          induction l with
          | nil => intro n _; simp
          | cons b r ih =>
            intro n hb
            have h1 := ih (n + b.size) (fun b' hm => hb b' (.tail _ hm))
            have h2 := hb b (.head _)
            simp only [List.foldl_cons, List.length_cons]
            omega
        have := key bs ((#[] : Array UInt8).size * (parts.size - 1)) hb
        simpa using this
      have hbl : bs.length ≤ 64 := by rw [← hy.length]; exact hz
      have hst : (1000 : Nat) ≤ sizeLine := by size_fits
      rw [if_neg (by
        unfold Builtin.Bytes.tooLong
        rw [decide_eq_true_eq]
        dsimp only
        omega)]
      rw [hp, joined_nil]
      have hfs : (bs.foldl (· ++ ·) (#[] : Array UInt8)).size ≤ 1000 := by
        have := fold_size bs #[] hb
        simp only [Array.size_empty] at this
        omega
      refine wpAny_bind (m := mkBytes _) (wpAny_mkBytes ?_ (Nat.le_trans hfs hst))
      refine wpAny_bind (wpAny_holding (wpAny_point ?_))
      simp only [ht]
      exact wpAny_bind (joinLetGo_none _ _ (wpAny_pure (h _ _)))
  · cases hy
    refine wpAny_bind ?_
    rw [Std.Legacy.Range.forIn_eq_forIn_range']
    refine wpAny_pure ?_
    show wpAny _ _ (pure #[] >>= _) _ _ _
    refine wpAny_bind (wpAny_pure ?_)
    first | refine wpAny_neg (by decide) ?_ | refine wpG_neg (by decide) ?_ | rw [if_neg (by decide)]
    refine wpAny_bind (m := mkBytes #[]) (wpAny_mkBytes ?_)
    refine wpAny_bind (wpAny_holding (wpAny_point ?_))
    exact wpAny_bind (wpAny_pure (wpAny_pure (h _ _)))
theorem bs_plain : PlainAttrs "bytes" :=
  ⟨⟨"bytes.__getattribute__", by rw [typeLookup_type, builtinLookup_eq_fast]; kernel_rfl, by decide +kernel⟩, by rw [typeLookup_type, builtinLookup_eq_fast]; kernel_rfl⟩
theorem bs_type_join : typeOf (.builtin "bytes.join") = pure (.type "method_descriptor") := by show builtinType _ = _; rw [builtinType_eq_fast]; kernel_rfl
theorem bs_method {M : Model} {b : Array UInt8} {t : Tok} {pl : Sem Bool} {Q : Value × List Value → Shared → Prop} (h : Q (.builtin "bytes.join", [.bytes b t]) s) :
    wpAny M A (getMethod (.bytes b t) "join" pl) Q E s :=
  getMethod_builtin (T := "bytes") (typeIs_bytes _ _ _) bs_plain bs_slot_join bs_type_join (fun a' e => by cases e) h
theorem bs_call {l : Addr} {ys : List Value} {k : Nat} {t : Tok} {Q : Value → Shared → Prop} (hl : s.heap.get? l = some (PySem.W.listOf ys.toArray k)) (bs : List (Array UInt8)) (hy : Paired (fun y b => ∃ t, y = .bytes b t) ys bs) (hz : ys.length ≤ 64) (hb : ∀ b ∈ bs, b.size ≤ 4)
    (h : ∀ t tk, Q (.bytes (bs.foldl (· ++ ·) #[]) t) { s with toks := tk }) :
    wpAny (model prog w) A (call (.builtin "bytes.join") [.bytes #[] t, .ref l]) Q E s :=
  wpAny_call (codeAny_call_builtin bs_slot_join.plain bs_entry_join (bs_slot_join.check _ _ _ _ _ _ _ _ (typeIs_bytes _ _ _) (bs_args_join _ _) (bs_join hl bs hy hz hb fun t tk => h t tk)))
end
end
section
set_option maxHeartbeats 4000000
theorem offRowsO : True := by w_top off; trivial
theorem fold_toB : ∀ ns : List Int, (ns.map fun n => toB (oct2 n)).foldl (· ++ ·) #[] = toB (ns.flatMap oct2) := by
  have key : ∀ (ns : List Int) (acc : List Int), (ns.map fun n => toB (oct2 n)).foldl (· ++ ·) (toB acc) = toB (acc ++ ns.flatMap oct2) := by
    intro ns
    induction ns with
    | nil => intro acc; simp
    | cons n r ih =>
      intro acc
      rw [List.map_cons, List.foldl_cons, toB_append, ih, List.flatMap_cons, List.append_assoc]
  intro ns
  exact key ns []
theorem ct_rows (w : World) (x dx Bb : Addr) (tk : Tok) (b : Array UInt8) (gt : Addr) (vs : List Value) (ns : List Int) (hi : IntsAre vs ns) (hlen : ns.length ≤ 64) (hn : ∀ n ∈ ns, 0 ≤ n ∧ n < 65536) (hz : b.size + 2 * ns.length ≤ 1000) :
    CtG w 129 [.ref x, .ref gt] 2 24 [x, dx, Bb] (fun h => OutAt w h x dx Bb tk b ∧ h.IsList gt vs.toArray ∧ gt ≠ x ∧ gt ≠ dx ∧ gt ≠ Bb) (fun _ v h' => v = .none ∧ OutAt w h' x dx Bb tk (b ++ toB (ns.flatMap oct2))) := by
  unfold CtG
  dsimp only [Pr, KK, VW]
  k_fill
  intro loose mean mg mb dp un gd cn cs a ccd cl outer A₀ base h₀ L m s Q E B F X T hk ht hP hd hu hret herr
  obtain ⟨⟨hx, hdx, hB, hdl, hbl⟩, hgl, hg1, hg2, hg3⟩ := hP
  have N : News h₀ L s.heap (outLed w x dx Bb tk b []) := by
    intro p hp
    simp only [outLed, List.mem_cons, List.not_mem_nil, or_false] at hp
    rcases hp with rfl | rfl | rfl
    · exact ⟨hx, (ht x (by simp)).2, (ht x (by simp)).1⟩
    · exact ⟨hdx, (ht dx (by simp)).2, (ht dx (by simp)).1⟩
    · exact ⟨hB, (ht Bb (by simp)).2, (ht Bb (by simp)).1⟩
  dsimp only [outLed] at N
  have hxd : x ≠ dx := Nat.ne_of_gt hdl
  have hdx' : dx ≠ x := Nat.ne_of_lt hdl
  have hBx : Bb ≠ x := Nat.ne_of_gt hbl
  have hBd : Bb ≠ dx := Nat.ne_of_gt (Nat.lt_trans hdl hbl)
  refine wpG_call ?_
  k_dflt (refine' own_callG (binds := [(Str.ofString "self", Value.ref x), (Str.ofString "numbers", Value.ref gt)]) ?k1x53 ?k2x53 ?k3x53 ?k4x53 ?k5x53 ?kAx53 ?kFx53 ?kKx53 ?k6x53 ?k7x53 ?k8x53 ?k9x53 ?kBx53 ?_ ?c2x53 ?c3x53 ?c4x53 ?c5x53; (case kAx53 => exact rfl); (case kFx53 => exact rfl); (case kKx53 => first | exact rfl | assumption); (case k1x53 => k_asm); (case k2x53 => k_asm); (case k3x53 => k_asm); (case k4x53 => k_asm); (case k5x53 => k_asm); (case k6x53 => k_is); (case k7x53 => k_is); (case k8x53 => (first | exact room0 (by assumption) | exact room2 (by assumption) (by decide) | ktr_room)); (case k9x53 => exact BindsTo.of_eq rfl); (case c5x53 => decide); (case kBx53 => exact locs rfl); (case c2x53 => exact rfl); (case c3x53 => exact rfl); (case c4x53 => exact rfl); k_whole; intro _ _ _ _ _ _ _ _ _ _; (try dsimp only))
  rename_i g1 L1 h1 hX hXr F1 N1 B1 X1 T1
  refine wpG_execs_cons (wpG_Expr (MethodCallG ?_) (by with_unfolding_all rfl) (by with_unfolding_all rfl))
  have hP1 : g1.IsList gt vs.toArray := hgl.at fun o e => hX _ _ e (by simp [hg1, hg2, hg3])
  walk_at "glyph walkS"
  refine ba_method (N1 _ (.tail _ (.tail _ (.head _)))).1 ?_
  refine callWithG_B ?_
  walk_at "glyph walkS"
  refine bs_method ?_
  walk_at "glyph walk"
  refine comp_vals (h₀ := g1) (L := L1) (cl := []) (fun v y => ∃ n t t', v = .int n t ∧ y = .bytes (toB (oct2 n)) t') (by with_unfolding_all rfl) (by decide) rfl (by decide) rfl ?_ (by intro _; with_unfolding_all rfl)
  walk_at "glyph walk"
  have hvl := hi.length
  have hgd : ∃ o, g1.get? gt = some o := let ⟨o, e, _⟩ := hP1; ⟨o, e⟩
  obtain ⟨og, hog⟩ := hgd
  refine ⟨[gt], vs.toArray.size, _, _, _, rfl, iter_list (hP1.at fun o e => F1.keep _ _ e), ?_, ?_, F1, N1, ?_, ?_, ?_⟩
  · intro q; exact not_frame F1 hog (List.mem_singleton.mp q)
  · refine Nat.le_trans (?_ : _ ≤ 1000) (by size_fits)
    rw [List.size_toArray]; omega
  · intro c hc; rw [List.mem_singleton.mp hc]; exact ⟨og, F1.keep _ _ hog⟩
  · intro C' j x' s₃ m₃ E' hC' hP' hn' hm' hk'
    obtain ⟨n, tn, hnj, rfl⟩ := ints_at hi (by simpa using hP')
    have hnr := hn n (List.mem_of_getElem? hnj)
    walk_at "glyph walk"
    (refine' ct_use (ct_numOct w n tn _) ?k1x52 ?k2x52 ?k3x52 ?k4x52 ?k5x52 ?kKx52 ?kPx52 ?kdx52 ?kux52 ?_; (case k1x52 => k_asm); (case k2x52 => k_asm); (case k3x52 => k_asm); (case k4x52 => k_asm); (case k5x52 => k_asm); (case kKx52 => first | exact rfl | assumption); (case kdx52 => (first | exact room0 (by assumption) | exact room2 (by assumption) (by decide) | ktr_room)); (case kux52 => (first | exact units2 (by assumption) (by decide) | ktr_units)); (try (case kPx52 => trivial)))
    intro v h' tk' kp F2 N2 hv
    obtain ⟨t2, rfl⟩ := hv
    exact ⟨⟨n, tn, t2, rfl, rfl⟩, h', tk', rfl, kp⟩
  · intro vs' ys hpr hlen2 hP2 D5 h5 tk5 k5 F5 N5 hD5
    walk_at "glyph walk"
    have hyb : Paired (fun y b => ∃ t, y = .bytes b t) ys (ns.map fun n => toB (oct2 n)) := by
      refine paired_get (by rw [← hpr.length, hlen2, List.size_toArray, hvl, List.length_map]) fun i y c hy hc => ?_
      obtain ⟨v, hv, n, t1, t2, rfl, rfl⟩ := paired_at' hpr hy
      obtain ⟨n', t3, hn', e⟩ := ints_at hi (by simpa using hP2 i _ hv)
      cases e
      rw [List.getElem?_map, hn'] at hc
      cases hc
      exact ⟨t2, rfl⟩
    have hyl : ys.length = ns.length := by rw [hyb.length, List.length_map]
    refine bs_call (N5 _ (.head _)).1 _ hyb (by rw [hyl]; exact hlen) (fun c hc => ?_) fun t6 tk6 => ?_
    · obtain ⟨n, _, rfl⟩ := List.mem_map.mp hc
      rw [toB_size]; show 2 ≤ 4; decide
    rw [fold_toB]
    walk_at "glyph walk"
    refine ba_call (pre := [(D5, _), (x, _), (dx, _)]) (post := []) F5 N5 ?_ ?_ (fun p hp => nomatch hp) fun h6 F6 N6 => ?_
    · rw [Array.size_append, toB_size, flat_len]; exact hz
    · intro p hp
      simp only [List.mem_cons, List.not_mem_nil, or_false] at hp
      rcases hp with rfl | rfl | rfl
      · intro q
        have := (N1 (Bb, baObj b) (.tail _ (.tail _ (.head _)))).1
        rw [← q] at this
        exact absurd (hD5.symm.trans this) (by simp)
      · exact hBx.symm
      · exact hBd.symm
    refine wpG_execs_nil ?_
    refine hret _ _ _ (ext_of hX F6) ⟨rfl, (N6 _ (.tail _ (.head _))).1, (N6 _ (.tail _ (.tail _ (.head _)))).1, (N6 _ (.tail _ (.tail _ (.tail _ (.head _))))).1, hdl, hbl⟩
end
section
set_option maxHeartbeats 4000000
theorem offBaB : True := by w_top off; trivial
theorem ba_no_bytes : typeLookup (.type "bytearray") "__bytes__" = pure none := by rw [typeLookup_type, builtinLookup_eq_fast]; kernel_rfl
theorem ba_no_index : typeLookup (.type "bytearray") "__index__" = pure none := by rw [typeLookup_type, builtinLookup_eq_fast]; kernel_rfl
theorem ba_buf : typeLookup (.type "bytearray") "__buffer__" = pure (some (.builtin "bytearray.__buffer__")) := by rw [typeLookup_type, builtinLookup_eq_fast]; kernel_rfl
theorem bb_ends : ("bytearray.__buffer__").endsWith ("." ++ "__buffer__") = true := by decide +kernel
theorem bb_drop : ("bytearray.__buffer__").dropRight (("__buffer__" : String).length + 1) = "bytearray" := by decide +kernel
section
variable {prog : Program} {w : World} {A : Around} {E : Value → Shared → Prop} {s : Shared}
theorem ba_buffer {id : String} {full : Bool} {a : Addr} {b : Array UInt8} {Q : Option (Array UInt8) → Shared → Prop} (ho : s.heap.get? a = some (baObj b)) (h : Q (some b) s) : wpAny (model prog w) A (Builtin.Bytes.buffer? id (.ref a) full) Q E s := by
  have hT : s.TypeIs (.ref a) "bytearray" := ⟨_, ho, rfl⟩
  unfold Builtin.Bytes.buffer?
  refine wpAny_bind (wpAny_specialOf hT ba_buf ?_)
  unfold Builtin.Bytes.slotIsOwn
  refine wpAny_bind (wpAny_bind (wpAny_specialOf hT ba_buf ?_))
  simp only [bb_ends, bb_drop, Bool.not_true, Bool.false_eq_true, if_false]
  refine wpAny_isInstance hT ba_sub ?_
  first | refine wpAny_neg (by decide) ?_ | refine wpG_neg (by decide) ?_ | simp only [Bool.not_true, Bool.false_eq_true, if_false]
  refine wpAny_bind (wpAny_specialOf hT ba_buf ?_)
  refine wpAny_bind (ba_own hT ?_)
  first | refine wpAny_neg (by decide) ?_ | refine wpG_neg (by decide) ?_ | simp only [Bool.false_eq_true, if_false]
  unfold Builtin.Bytes.payload Builtin.Bytes.payload?
  exact wpAny_bind (wpAny_bind (wpAny_bind (wpAny_load ho (wpAny_pure (wpAny_pure (wpAny_pure h))))))
theorem bytes_new_ba {a : Addr} {b : Array UInt8} {Q : Value → Shared → Prop} (ho : s.heap.get? a = some (baObj b)) (hz : b.size ≤ 1000) (hQ : ∀ t k, Q (.bytes b t) { s with toks := k }) :
    codeAny (model prog w) A (.call (.builtin "bytes.__new__") ⟨[.type "bytes", .ref a], []⟩) (wants Q E) s := by
  refine codeAny_of_tree ?_
  show wpAny _ A.in1 (do checkBuiltinCall "bytes.__new__" ⟨[.type "bytes", .ref a], []⟩; again (.builtin "bytes.__new__" ⟨[.type "bytes", .ref a], []⟩)) _ _ s
  refine wpAny_bind (wpAny_of_eq (F.bm_newCall _) (wpAny_pure ⟨plainId_quiet F.bm_plain _, codeAny_builtin F.bm_entry ?_⟩))
  rw [Around.under_plainId F.bm_plain _]
  have hT : s.TypeIs (.ref a) "bytearray" := ⟨_, ho, rfl⟩
  unfold Builtin.«bytes.__new__»
  refine wpAny_bind (wpAny_of_eq (a := true) rfl ?_)
  refine bm_if_false rfl ?_
  refine wpAny_bind (wpAny_of_eq F.bm_sub ?_)
  refine bm_if_false rfl ?_
  refine wpAny_bind (wpAny_of_eq (F.bm_bind _) ?_)
  refine wpAny_bind (wpAny_of_eq (a := ()) rfl ?_)
  refine wpAny_bind (wpAny_of_eq (a := ()) rfl ?_)
  refine bm_if_false rfl ?_
  refine wpAny_bind (wpAny_specialOf hT ba_no_bytes ?_)
  refine wpAny_bind (wpAny_bind ?_)
  show wpAny _ _ (load a >>= _) _ _ _
  refine wpAny_bind (wpAny_load ho ?_)
  refine wpAny_pure (wpAny_pure ?_)
  refine bm_if_false rfl ?_
  refine wpAny_bind (wpAny_specialOf hT ba_no_index ?_)
  refine bm_if_true rfl ?_
  first
    | show wpAny _ _ (Builtin.Bytes.buffer? "bytes.__new__" (.ref a) true >>= _) _ _ _
    | (refine wpAny_bind ?_; show wpAny _ _ (Builtin.Bytes.buffer? "bytes.__new__" (.ref a) true >>= _) _ _ _)
  refine wpAny_bind (ba_buffer ho ?_)
  dsimp only
  refine wpAny_bind (wpAny_rule (wpAny_bind (wpAny_mkBytes ?_ (Nat.le_trans hz (by size_fits)))))
  first
    | exact wpAny_pure (hQ _ _)
    | exact bm_if_true (by decide) (wpAny_pure (hQ _ _))
    | exact wpAny_bind (wpAny_pure (wpAny_pure (hQ _ _)))
theorem bytes_ba {a : Addr} {b : Array UInt8} {Q : Value → Shared → Prop} (ho : s.heap.get? a = some (baObj b)) (hz : b.size ≤ 1000) (hQ : ∀ t k, Q (.bytes b t) { s with toks := k }) :
    wpAny (model prog w) A (call (.type "bytes") [.ref a]) Q E s := by
  refine callType_codes (Q₁ := fun obj s₁ => s₁.TypeIs obj "bytes" ∧ Q obj s₁) F.bm_called (F.bm_typeCall _) F.entry_object_init
    (bytes_new_ba ho hz fun t k => ⟨PySem.W.typeIs_bytes _ _ _, hQ t k⟩) fun obj s₁ h₁ => ?_
  exact ⟨h₁.1, F.args_object_init_2 obj _, object_init_meets F.bm_called.init.lookup F.bm_called.made (by decide) prog w A.in1 _ s₁ ⟨h₁.1, rfl, h₁.2⟩⟩
end
/-- octets(): all stacks -/
theorem ct_octets (w : World) (x dx Bb : Addr) (tk : Tok) (b : Array UInt8) (hz : b.size ≤ 1000) :
    Ct w 150 [.ref x] 1 16 [x, dx, Bb] (fun h => OutAt w h x dx Bb tk b) (fun _ v _ => ∃ t, v = .bytes b t) := by
  (unfold Ct; dsimp only [Pr, KK, VW]; k_fill)
  intro loose mean mg mb dp un gd cn cs a ccd cl outer A₀ base h₀ L m s Q E B F X T hk ht hP hd hu hret
  obtain ⟨hx, hdx, hB, hdl, hbl⟩ := hP
  have N : News h₀ L s.heap (outLed w x dx Bb tk b []) := by
    intro p hp
    simp only [outLed, List.mem_cons, List.not_mem_nil, or_false] at hp
    rcases hp with rfl | rfl | rfl
    · exact ⟨hx, (ht x (by simp)).2, (ht x (by simp)).1⟩
    · exact ⟨hdx, (ht dx (by simp)).2, (ht dx (by simp)).1⟩
    · exact ⟨hB, (ht Bb (by simp)).2, (ht Bb (by simp)).1⟩
  dsimp only [outLed] at N
  refine wpAny_call ?_
  k_dflt (refine' own_call (binds := [(Str.ofString "self", Value.ref x)]) ?k1x54 ?k2x54 ?k3x54 ?k4x54 ?k5x54 ?kAx54 ?kFx54 ?kKx54 ?k6x54 ?k7x54 ?k8x54 ?k9x54 ?kBx54 ?_ ?c2x54 ?c3x54 ?c4x54 ?c5x54; (case kAx54 => exact rfl); (case kFx54 => exact rfl); (case kKx54 => assumption); (case k1x54 => k_asm); (case k2x54 => k_asm); (case k3x54 => k_asm); (case k4x54 => k_asm); (case k5x54 => k_asm); (case k6x54 => k_is); (case k7x54 => k_is); (case k8x54 => (first | exact room0 (by assumption) | exact room2 (by assumption) (by decide) | ktr_room)); (case k9x54 => exact BindsTo.of_eq rfl); (case c5x54 => decide); (case kBx54 => exact locs rfl); (case c2x54 => exact rfl); (case c3x54 => exact rfl); (case c4x54 => exact rfl); k_whole; intro _ _ _ _ _ _ _ _ _ _; (try dsimp only); (try k_fold))
  rename_i g1 L1 h1 hX hXr F1 N1 B1 X1 T1
  walk_at "glyph walk"
  refine bytes_ba (N1 _ (.tail _ (.tail _ (.head _)))).1 hz fun t k => ?_
  walk_at "glyph walk"
  exact hret _ _ _ (ext_of hX F1) ⟨t, rfl⟩
end
section
theorem offGL : True := by w_top off; trivial
section
variable {prog : Program} {w : World} {A : Around} {E : Value → Shared → Prop} {s : Shared} {env : Env}
/-- the turns of a for loop, on clean stacks -/
theorem codeG_forLoop {R : Result → Shared → Prop} {target it body orelse env} (I : Nat → Shared → Prop)
    (turn : ∀ n s, I n s → wpAny (model prog w) A (pyNext it) (fun r s₁ => match r with
      | none => wpAny (model prog w) A (execs orelse env) (fun f s₃ => R (.ok f) s₃) (notedBy (model prog w) A env fun e s' => R (.error e) s') s₁
      | some v => wpAny (model prog w) A (letOwnedTupleGo target it v) (fun _ s₁' =>
          wpAny (model prog w) A (assign target env v) (fun _ s₂ => wpG (model prog w) A (execs body env) (fun f s₃ => match f with
            | .next | .cont => ∃ m, m < n ∧ I m s₃
            | .brk => R (.ok .next) s₃
            | .ret v => R (.ok (.ret v)) s₃) (notedBy (model prog w) A env fun e s' => R (.error e) s') s₂) (notedBy (model prog w) A env fun e s' => R (.error e) s') s₁') (notedBy (model prog w) A env fun e s' => R (.error e) s') s₁) (notedBy (model prog w) A env fun e s' => R (.error e) s') s)
    (n : Nat) (h : I n s) : codeG (model prog w) A (.forLoop target it body orelse env) R s := by
  refine codeG_loop rfl rfl I (fun n s hI => ?_) n h
  show wpG _ A ((forTurn target it body orelse env).onRaise (fun x => do noteFrame x env; theTreesLotGoes x)) _ _ s
  refine wpG_onRaise (wpG_mono (E := notedBy (model prog w) A env fun e s' => R (.error e) s') ?_ (fun _ _ q => q) fun _ _ hx => wpG_any (wpAny_bind (wpAny_mono hx (fun _ _ e => wpAny_theTreesLotGoes e) fun _ _ e => e)))
  simp only [forTurn]
  refine wpG_bindAny (wpAny_standAt (wpG_bindAny (wpAny_onRaise (wpAny_mono (turn n s hI) (fun r s₁ h₁ => ?_) fun _ _ h' => wpAny_standAt h'))))
  cases r with
  | none => exact wpG_pure (.inr ⟨rfl, codeG_any (codeAny_block h₁)⟩)
  | some v =>
    refine wpG_bindAny (wpAny_mono h₁ (fun _ s₁' h₁' => ?_) fun _ _ h' => h')
    refine wpG_bindAny (wpAny_mono h₁' (fun _ s₂ h₂ => wpG_bind (wpG_mono h₂ (fun f s₃ h₃ => ?_) fun _ _ h' => h')) fun _ _ h' => h')
    cases f with
    | next => exact wpG_pure (.inl ⟨rfl, h₃⟩)
    | cont => exact wpG_pure (.inl ⟨rfl, h₃⟩)
    | brk => exact wpG_pure h₃
    | ret v => exact wpG_pure h₃
end
end
section
theorem offGF : True := by w_top off; trivial
section
variable {prog : Program} {w : World} {A : Around} {E : Value → Shared → Prop} {s : Shared} {h₀ : Heap} {env : Env}

inductive LoopG (h₀ : Heap) (L : Addr) (s₁ : Shared) (fp : List Addr) (St : Nat → Heap → Prop) (J : Nat → (Str → Option Value) → List (Addr × Obj) → Prop) (n k : Nat) (s' : Shared) : Prop
  | mk : ∀ h'' tk m' news' i, s' = { s₁ with heap := h'', toks := tk } → St i h'' → Fr h₀ L h'' m' → News h₀ L h'' news' → (∀ p ∈ news', p.1 ∉ fp) → J i m' news' → i ≤ n → k = n + 1 - i → LoopG h₀ L s₁ fp St J n k s'
/-- the turns of a for loop -/
theorem for_coreG {I : Addr} {fp src : List Addr} {n : Nat} {P : Nat → Value → Prop} {St : Nat → Heap → Prop} {h₀ h' : Heap} {m : Str → Option Value} {news : List (Addr × Obj)} {J : Nat → (Str → Option Value) → List (Addr × Obj) → Prop} {s₁ : Shared} {tk : Nat} {target : Expr} {body : List Stmt} {Q : Flow → Shared → Prop}
    (W : Walks prog w A I fp [I] n P St) (keep : ∀ b o, s₁.heap.get? b = some o → h'.get? b = some o) (hI : s₁.heap.get? I = none) (hfp : ∀ b ∈ fp, b = I ∨ b ∈ src) (live : ∀ i h, St i h → ∀ b ∈ fp, ∃ o, h.get? b = some o) (st0 : St 0 h') (hL : env.locals ∉ src)
    (F : Fr h₀ env.locals s₁.heap m) (N : News h₀ env.locals s₁.heap news) (off : ∀ p ∈ news, p.1 ∉ src) (h0 : J 0 m news)
    (go : ∀ i v h₁ tk₁ {Q' : Unit → Shared → Prop} {E' : Value → Shared → Prop}, P i v → St (i + 1) h₁ → Q' () { s₁ with heap := h₁, toks := tk₁ } → wpAny (model prog w) A (letOwnedTupleGo target (.ref I) v) Q' E' { s₁ with heap := h₁, toks := tk₁ })
    (step : ∀ i x' m₁ news₁ own h tk, i < n → P i x' → J i m₁ news₁ → OwnOff own (news₁.map (·.1)) → Fr h₀ env.locals h m₁ → News h₀ env.locals h (news₁ ++ own) →
      wpAny (model prog w) A (assign target env x') (fun _ s₂ => wpG (model prog w) A (execs body env)
        (fun f s' => match f with | .ret v => Q (.ret v) s' | .brk => Q .next s' | _ => TurnEnd h₀ env.locals (J (i + 1)) own s₁ s') (fun _ _ => False) s₂) (fun _ _ => False) { s₁ with heap := h, toks := tk })
    (fin : ∀ m' news' h tk, J n m' news' → Fr h₀ env.locals h m' → News h₀ env.locals h news' → Q .next { s₁ with heap := h, toks := tk }) :
    codeG (model prog w) A (.forLoop target (.ref I) body [] env) (fun r s' => match r with | .ok f => Q f s' | .error e => cameBackBy (model prog w) A env E e s') { s₁ with heap := h', toks := tk } := by
  have hIL : I ≠ env.locals := fun e => by
    obtain ⟨o, _, _, ho, _⟩ := F.ns
    rw [e, ho] at hI; cases hI
  have hI₀ : h₀.get? I = none := by
    cases e : h₀.get? I with
    | none => rfl
    | some o => have := F.keep I o e; rw [hI] at this; cases this
  have hLf : env.locals ∉ fp := fun hm => by
    rcases hfp _ hm with e | e
    · exact hIL e.symm
    · exact hL e
  have hIf : I ∈ fp := W.sub I (List.mem_singleton.mpr rfl)
  have offI : ∀ p ∈ news, p.1 ∉ fp := fun p hp hm => by
    rcases hfp _ hm with e | e
    · have := (N p hp).1; rw [e, hI] at this; cases this
    · exact off p hp e
  refine codeG_forLoop
    (LoopG h₀ env.locals s₁ fp St J n) ?_ (n + 1)
    ⟨h', tk, m, news, 0, rfl, st0, F.keeps keep, fun p hp => ⟨keep _ _ (N p hp).1, (N p hp).2⟩, offI, h0, Nat.zero_le _, rfl⟩
  rintro k s' ⟨H, tk', m', news', i, rfl, hst', F', N', hoff, hJ, hi, rfl⟩
  have next : ∀ h₁ : Heap, (∀ b o, b ∉ [I] → H.get? b = some o → h₁.get? b = some o) → Fr h₀ env.locals h₁ m' ∧ News h₀ env.locals h₁ news' := fun h₁ hk₁ =>
    ⟨⟨F'.ns.at' fun o e => hk₁ _ o (fun hm => hIL (List.mem_singleton.mp hm).symm) e, fun b o e => hk₁ b o (fun hm => by rw [List.mem_singleton.mp hm, hI₀] at e; cases e) (F'.keep b o e), F'.above⟩,
      fun p hp => ⟨hk₁ _ _ (fun hm => hoff p hp (by rw [List.mem_singleton.mp hm]; exact hIf)) (N' p hp).1, (N' p hp).2⟩⟩
  by_cases hlt : i < n
  · refine W.item i _ _ _ hlt hst' fun v' h₁ tk₁ hP hst₁ hk₁ => ?_
    obtain ⟨F₁, N₁⟩ := next h₁ hk₁
    have Nown : News h₀ env.locals h₁ (ownOf h₀ fp h₁) := news_ownOf hLf
    have hsep : OwnOff (ownOf h₀ fp h₁) (news'.map (·.1)) := by
      intro p hp b hb e
      obtain ⟨q, hq, rfl⟩ := List.mem_map.mp hb
      exact hoff q hq (e ▸ ownOf_sub p hp)
    refine go i v' h₁ tk₁ hP hst₁ ?_
    refine wpAny_mono (step i v' m' news' (ownOf h₀ fp h₁) h₁ tk₁ hlt hP hJ hsep F₁ (N₁.append Nown)) (fun _ s₂ h₂ => wpG_mono h₂ (fun f s₃ q => ?_) fun _ _ e => e.elim) fun _ _ e => e.elim
    have fin' : TurnEnd h₀ env.locals (J (i + 1)) (ownOf h₀ fp h₁) s₁ s₃ → ∃ mm, mm < n + 1 - i ∧ LoopG h₀ env.locals s₁ fp St J n mm s₃ := by
      rintro ⟨h'', tk'', m'', news'', all, rfl, F'', N'', hn, ho, ha, hj⟩
      have key : ∀ p ∈ news'', p.1 ∉ fp := fun p hp hm => by
        have hp0 := (N'' p (hn p hp)).2.2
        obtain ⟨o, e⟩ := live _ _ hst₁ _ hm
        exact ha _ (mem_ownOf hm hp0 e) p.1 (List.mem_map_of_mem hp) rfl
      refine ⟨n + 1 - (i + 1), by omega, h'', tk'', m'', news'', i + 1, rfl, W.frame _ _ _ hst₁ fun b hb o e => ?_, F'', fun p hp => N'' p (hn p hp), key, hj, hlt, rfl⟩
      cases hz : h₀.get? b with
      | some o₀ =>
        have e' := F₁.keep b o₀ hz
        rw [e] at e'; cases e'
        exact F''.keep b _ hz
      | none => exact (N'' _ (ho _ (mem_ownOf hb hz e))).1
    cases f with
    | ret v => exact q
    | brk => exact q
    | next => exact fin' q
    | cont => exact fin' q
  · have hin : i = n := by omega
    subst hin
    refine W.done _ _ _ hst' fun h₁ tk₁ hk₁ => wpAny_execs_nil ?_
    obtain ⟨F₁, N₁⟩ := next h₁ hk₁
    exact fin m' news' h₁ tk₁ hJ F₁ N₁
/-- a for loop of any target: the turn begins with the assignment -/
inductive ForTG (prog : Program) (w : World) (A : Around) (h₀ : Heap) (env : Env) (target : Expr) (body : List Stmt) (Q : Flow → Shared → Prop) (v : Value) (s₁ : Shared) : Prop
  | mk : ∀ (l : Addr) (items : Array Value) (m : Str → Option Value) (news : List (Addr × Obj)) (J : Nat → (Str → Option Value) → List (Addr × Obj) → Prop), A.handled = none → v = .ref l → s₁.heap.IsList l items → (∀ (i : Nat) x, items[i]? = some x → ∃ T, x = .ref T) → env.locals ≠ l → Fr h₀ env.locals s₁.heap m → News h₀ env.locals s₁.heap news → (∀ p ∈ news, p.1 ≠ l) → J 0 m news → (∀ i x' m₁ news₁ own h tk, i < items.size → items[i]? = some x' → J i m₁ news₁ → OwnOff own (news₁.map (·.1)) → Fr h₀ env.locals h m₁ → News h₀ env.locals h (news₁ ++ own) → wpAny (model prog w) A (assign target env x') (fun _ s₂ => wpG (model prog w) A (execs body env) (fun f s' => match f with | .ret v => Q (.ret v) s' | .brk => Q .next s' | _ => TurnEnd h₀ env.locals (J (i + 1)) own s₁ s') (fun _ _ => False) s₂) (fun _ _ => False) { s₁ with heap := h, toks := tk }) → (∀ m' news' h tk, J items.size m' news' → Fr h₀ env.locals h m' → News h₀ env.locals h news' → Q .next { s₁ with heap := h, toks := tk }) → ForTG prog w A h₀ env target body Q v s₁

theorem for_anyG {elts : List Expr} {kt : Nat} {tpos : Pos} {iter : Expr} {pos : Pos} {body : List Stmt} {Q : Flow → Shared → Prop} (h₀ : Heap)
    (h : wpAny (model prog w) A (eval iter env) (fun v s₁ => ForTG prog w A h₀ env (.Tuple elts kt tpos) body Q v s₁) (fun _ _ => False) s)
    (hs : ∀ x, foldedSetIterable iter env x = pure x := by intro _; rfl) :
    wpG (model prog w) A (exec (.For (.Tuple elts kt tpos) iter body [] pos) env) Q E s := by
  refine wpG_For (wpAny_mono h (fun v s₁ h₁ => ?_) fun _ _ e => e.elim) hs
  obtain ⟨l, items, m, news, J, hh, rfl, hl, hrefs, hL, F, N, off, h0, step, fin⟩ := h₁
  have hlt0 : l < s₁.heap.objs.size := by obtain ⟨o, ho, _⟩ := hl; exact Heap.lt_size ho
  refine wpAny_pyIter_list hl ?_
  obtain ⟨I, eI⟩ : ∃ I, I = s₁.heap.objs.size := ⟨_, rfl⟩
  obtain ⟨h', eh⟩ : ∃ h', h' = s₁.heap.push { cls := .type "list_iterator", data := .fields #[.ref l, .int 0 0] } := ⟨_, rfl⟩
  obtain ⟨tk, etk⟩ : ∃ tk, tk = s₁.toks := ⟨_, rfl⟩
  obtain ⟨n, en⟩ : ∃ n, n = items.size := ⟨_, rfl⟩
  obtain ⟨src, esrc⟩ : ∃ src : List Addr, src = [l] := ⟨_, rfl⟩
  obtain ⟨fp, efp⟩ : ∃ fp : List Addr, fp = [I, l] := ⟨_, rfl⟩
  obtain ⟨St, eSt⟩ : ∃ St : Nat → Heap → Prop, St = fun i h => h.IsListIter I l i ∧ h.IsList l items := ⟨_, rfl⟩
  have keep : ∀ b o, s₁.heap.get? b = some o → h'.get? b = some o := fun b o e => by rw [eh]; exact Heap.get?_push_of_some _ e
  have hI : s₁.heap.get? I = none := by rw [eI]; exact Heap.get?_none_of_le (Nat.le_refl _)
  have hfp : ∀ b ∈ fp, b = I ∨ b ∈ src := fun b hb => by rw [efp] at hb; rw [esrc]; simpa using hb
  have W : Walks prog w A I fp [I] n (fun i v => items[i]? = some v) St := by
    rw [efp, eSt, en]
    exact Walks.list hh _ l (by rw [eI]; exact Nat.ne_of_lt hlt0) items
  have live : ∀ i h, St i h → ∀ b ∈ fp, ∃ o, h.get? b = some o := fun i h st b hb => by
    rw [eSt] at st
    obtain ⟨⟨o1, e1, _⟩, ⟨o2, e2, _⟩⟩ := st
    rw [efp] at hb
    rcases List.mem_cons.mp hb with rfl | hb
    · exact ⟨_, e1⟩
    · rw [List.mem_singleton.mp hb]; exact ⟨_, e2⟩
  have st0 : St 0 h' := by
    rw [eSt, eI, eh]
    exact ⟨⟨_, Heap.get?_push_size _ rfl, rfl, rfl⟩, hl.push _⟩
  have hL : env.locals ∉ src := by rw [esrc]; exact fun q => hL (List.mem_singleton.mp q)
  have off : ∀ p ∈ news, p.1 ∉ src := by rw [esrc]; exact fun p hp q => off p hp (List.mem_singleton.mp q)
  rw [← eI, ← eh]
  rw [← en] at step fin
  show codeG _ _ _ _ { s₁ with heap := h', toks := s₁.toks }
  rw [← etk]
  refine for_coreG W keep hI hfp live st0 hL F N off h0 (fun i v h₁ tk₁ Q' E' hP hst₁ q => ?_) step fin
  obtain ⟨T, rfl⟩ := hrefs i v hP
  have hli : h₁.IsListIter I l (i + 1) := by rw [eSt] at hst₁; exact hst₁.1
  exact wpAny_letOwnedTupleGo_listiter hli q

/-- a for loop of any target: the turn begins with the assignment -/
inductive ForIG (prog : Program) (w : World) (A : Around) (h₀ : Heap) (env : Env) (target : Expr) (body : List Stmt) (Q : Flow → Shared → Prop) (v : Value) (s₁ : Shared) : Prop
  | mk : ∀ (src : List Addr) (n : Nat) (P : Nat → Value → Prop) (m : Str → Option Value) (news : List (Addr × Obj)) (J : Nat → (Str → Option Value) → List (Addr × Obj) → Prop), A.handled = none → Iter prog w v src n P s₁ → env.locals ∉ src → Fr h₀ env.locals s₁.heap m → News h₀ env.locals s₁.heap news → (∀ p ∈ news, p.1 ∉ src) → J 0 m news → (∀ i x' m₁ news₁ own h tk, i < n → P i x' → J i m₁ news₁ → OwnOff own (news₁.map (·.1)) → Fr h₀ env.locals h m₁ → News h₀ env.locals h (news₁ ++ own) → wpAny (model prog w) A (assign target env x') (fun _ s₂ => wpG (model prog w) A (execs body env) (fun f s' => match f with | .ret v => Q (.ret v) s' | .brk => Q .next s' | _ => TurnEnd h₀ env.locals (J (i + 1)) own s₁ s') (fun _ _ => False) s₂) (fun _ _ => False) { s₁ with heap := h, toks := tk }) → (∀ m' news' h tk, J n m' news' → Fr h₀ env.locals h m' → News h₀ env.locals h news' → Q .next { s₁ with heap := h, toks := tk }) → ForIG prog w A h₀ env target body Q v s₁

theorem for_iterG {x : Str} {px : Pos} {iter : Expr} {pos : Pos} {body : List Stmt} {Q : Flow → Shared → Prop} (h₀ : Heap)
    (h : wpAny (model prog w) A (eval iter env) (fun v s₁ => ForIG prog w A h₀ env (.Name x px) body Q v s₁) (fun _ _ => False) s)
    (hs : ∀ x, foldedSetIterable iter env x = pure x := by intro _; rfl) :
    wpG (model prog w) A (exec (.For (.Name x px) iter body [] pos) env) Q E s := by
  refine wpG_For (wpAny_mono h (fun v s₁ h₁ => ?_) fun _ _ e => e.elim) hs
  obtain ⟨src, n, P, m, news, J, hh, it, hL, F, N, off, h0, step, fin⟩ := h₁
  refine it A _ _ hh fun I fp St h' tk keep hsz hI hfp W live st0 => ?_
  exact for_coreG W keep hI hfp live st0 hL F N off h0 (fun i v h₁ tk₁ Q' E' _ _ q => wpAny_pure q) step fin
end
end
section
theorem offOutUse : True := by w_top off; trivial
theorem ctG_pre {w : World} {f : Addr} {args : List Value} {dd uu : Nat} {touch : List Addr} {Pre Pre' : Heap → Prop} {Post Err : Heap → Value → Heap → Prop} (C : CtG w f args dd uu touch Pre Post Err) (h : ∀ x, Pre' x → Pre x) : CtG w f args dd uu touch Pre' Post Err := by
  intro loose mean mg mb dp un gd cn cs a ccd cl outer A₀ base h₀ L m s Q E B F X T hk ht hP hd hu hret herr
  exact C _ _ _ _ _ _ _ _ _ _ _ _ _ _ _ _ _ _ _ _ _ B F X T hk ht (h _ hP) hd hu hret herr
section
variable {w : World} {f : Addr} {args : List Value} {dd uu : Nat} {Ex : Heap → Prop} {A₀ : Around} {s : Shared} {base h₀ : Heap} {outer : List Env} {L x dx Bb : Addr} {tk : Tok} {b b' : Array UInt8} {m : Str → Option Value} {rest : List (Addr × Obj)}
  {loose : List Str} {mean : ExcName → Option Value} {mg mb : Str → Option Value} {dp un : Nat} {gd : Option (List Code)} {cn : Str} {cs : Scope} {a : Addr} {ccd : Value} {cl : List (Str × Addr)} {Q E : Value → Shared → Prop}
/-- a call that writes into an OctetsOut -/
theorem outG_use (C : CtG w f args dd uu [x, dx, Bb] (fun h => OutAt w h x dx Bb tk b ∧ Ex h) (fun _ v h' => v = .none ∧ OutAt w h' x dx Bb tk b')) (B : Below A₀ base outer h₀) (F : Fr h₀ L s.heap m) (X : (KK w).In h₀) (T : Top VW loose mean mg mb h₀)
    (N : News h₀ L s.heap (outLed w x dx Bb tk b rest)) (hoff : ∀ p ∈ rest, p.1 ≠ x ∧ p.1 ≠ dx ∧ p.1 ≠ Bb) (h1 : dx < x) (h2 : x < Bb) (hk : cs.kind = .function) (hE : Ex s.heap) (hd : dp + dd < recursionLimit) (hu : un + uu < cLine)
    (hret : ∀ h' tk', Fr h₀ L h' m → News h₀ L h' (outLed w x dx Bb tk b' rest) → (∀ c o, s.heap.get? c = some o → c ≠ x → c ≠ dx → c ≠ Bb → h'.get? c = some o) → Q .none { s with heap := h', toks := tk' }) :
    wpG (model Pr w) (ktrTop dp un gd cn cs L a ccd cl outer) (call (.ref f) args) Q E s := by
  have n1 := N _ (.head _)
  have n2 := N (dx, oneField w (Str.ofString "made") tk (.ref Bb)) (.tail _ (.head _))
  have n3 := N (Bb, baObj b) (.tail _ (.tail _ (.head _)))
  refine C _ _ _ _ _ _ _ _ _ _ _ _ _ _ _ _ _ _ _ _ _ B F X T hk (fun c hc => ?_) ⟨⟨n1.1, n2.1, n3.1, h1, h2⟩, hE⟩ hd hu ?_ (fun _ _ _ _ e => e.elim)
  · simp only [List.mem_cons, List.not_mem_nil, or_false] at hc
    rcases hc with rfl | rfl | rfl
    · exact ⟨n1.2.2, n1.2.1⟩
    · exact ⟨n2.2.2, n2.2.1⟩
    · exact ⟨n3.2.2, n3.2.1⟩
  · rintro v h' tk' hX ⟨rfl, e1, e2, e3, _, _⟩
    have off : ∀ c o, s.heap.get? c = some o → c ≠ x → c ≠ dx → c ≠ Bb → h'.get? c = some o := fun c o e a1 a2 a3 => hX c o e (by simp [a1, a2, a3])
    have ne : ∀ c o, h₀.get? c = some o → c ≠ x ∧ c ≠ dx ∧ c ≠ Bb := fun c o e => ⟨fun q => (by rw [q, n1.2.2] at e; cases e), fun q => (by rw [q, n2.2.2] at e; cases e), fun q => (by rw [q, n3.2.2] at e; cases e)⟩
    refine hret h' tk' ⟨F.ns.at' fun o e => off _ o e n1.2.1.symm n2.2.1.symm n3.2.1.symm, fun c o e => off c o (F.keep c o e) (ne c o e).1 (ne c o e).2.1 (ne c o e).2.2, F.above⟩ (fun p hp => ?_) off
    simp only [outLed, List.mem_cons] at hp
    rcases hp with rfl | rfl | rfl | hp
    · exact ⟨e1, n1.2⟩
    · exact ⟨e2, n2.2⟩
    · exact ⟨e3, n3.2⟩
    · have q := N p (.tail _ (.tail _ (.tail _ hp)))
      exact ⟨off _ _ q.1 (hoff p hp).1 (hoff p hp).2.1 (hoff p hp).2.2, q.2⟩
end
end
section
theorem offPlain : True := by w_top off; trivial
/-- the widths of spans together -/
def widths (l : List (Int × Int)) : Int := (l.map fun p => p.2 - p.1 + 1).sum
theorem widths_app (a b : List (Int × Int)) : widths (a ++ b) = widths a + widths b := by simp [widths]
theorem widths_step (acc : List (Int × Int)) (g : Int) : widths (spanStep acc g) = widths acc + 1 := by
  rcases List.eq_nil_or_concat acc with rfl | ⟨a, p, rfl⟩
  · simp [spanStep_nil, widths]
  · rw [List.concat_eq_append, spanStep_snoc]
    split
    · rename_i h
      rw [widths_app, widths_app]
      simp [widths]
      omega
    · rw [widths_app]
      simp [widths]
theorem widths_spans (gs : List Int) : widths (spansOf gs) = gs.length := by
  have key : ∀ (l : List Int) (acc : List (Int × Int)), widths (l.foldl spanStep acc) = widths acc + l.length := by
    intro l
    induction l with
    | nil => intro acc; simp
    | cons g r ih =>
      intro acc
      rw [List.foldl_cons, ih, widths_step, List.length_cons]
      omega
  have := key gs []
  simpa [spansOf, widths] using this
theorem spanFold_idx : ∀ (l : List (Int × Int)) (st : List Int × Int), (l.foldl spanFold st).2 = st.2 + widths l
  | [], st => by simp [widths]
  | p :: r, st => by
    rw [List.foldl_cons, spanFold_idx r]
    simp only [spanFold, widths, List.map_cons, List.sum_cons]
    omega
end
section
theorem offOutUse2 : True := by w_top off; trivial
section
variable {w : World} {A₀ : Around} {s : Shared} {base h₀ : Heap} {outer : List Env} {L x dx Bb : Addr} {tk : Tok} {b : Array UInt8} {m : Str → Option Value} {rest : List (Addr × Obj)}
  {loose : List Str} {mean : ExcName → Option Value} {mg mb : Str → Option Value} {dp un : Nat} {gd : Option (List Code)} {cn : Str} {cs : Scope} {a : Addr} {ccd : Value} {cl : List (Str × Addr)} {Q E : Value → Shared → Prop}
/-- the octets of an OctetsOut -/
theorem octets_use (hz : b.size ≤ 1000) (B : Below A₀ base outer h₀) (F : Fr h₀ L s.heap m) (X : (KK w).In h₀) (T : Top VW loose mean mg mb h₀)
    (N : News h₀ L s.heap (outLed w x dx Bb tk b rest)) (h1 : dx < x) (h2 : x < Bb) (hk : cs.kind = .function) (hd : dp + 1 < recursionLimit) (hu : un + 16 < cLine)
    (hret : ∀ t h' tk', Fr h₀ L h' m → (∀ c o, s.heap.get? c = some o → c ≠ x → c ≠ dx → c ≠ Bb → h'.get? c = some o) → Q (.bytes b t) { s with heap := h', toks := tk' }) :
    wpAny (model Pr w) (ktrTop dp un gd cn cs L a ccd cl outer) (call (.ref 150) [.ref x]) Q E s := by
  have n1 := N _ (.head _)
  have n2 := N (dx, oneField w (Str.ofString "made") tk (.ref Bb)) (.tail _ (.head _))
  have n3 := N (Bb, baObj b) (.tail _ (.tail _ (.head _)))
  refine ct_octets w x dx Bb tk b hz _ _ _ _ _ _ _ _ _ _ _ _ _ _ _ _ _ _ _ _ _ B F X T hk (fun c hc => ?_) ⟨n1.1, n2.1, n3.1, h1, h2⟩ hd hu ?_
  · simp only [List.mem_cons, List.not_mem_nil, or_false] at hc
    rcases hc with rfl | rfl | rfl
    · exact ⟨n1.2.2, n1.2.1⟩
    · exact ⟨n2.2.2, n2.2.1⟩
    · exact ⟨n3.2.2, n3.2.1⟩
  · rintro v h' tk' hX ⟨t, rfl⟩
    have off : ∀ c o, s.heap.get? c = some o → c ≠ x → c ≠ dx → c ≠ Bb → h'.get? c = some o := fun c o e a1 a2 a3 => hX c o e (by simp [a1, a2, a3])
    have ne : ∀ c o, h₀.get? c = some o → c ≠ x ∧ c ≠ dx ∧ c ≠ Bb := fun c o e => ⟨fun q => (by rw [q, n1.2.2] at e; cases e), fun q => (by rw [q, n2.2.2] at e; cases e), fun q => (by rw [q, n3.2.2] at e; cases e)⟩
    exact hret t h' tk' ⟨F.ns.at' fun o e => off _ o e n1.2.1.symm n2.2.1.symm n3.2.1.symm, fun c o e => off c o (F.keep c o e) (ne c o e).1 (ne c o e).2.1 (ne c o e).2.2, F.above⟩ off
end
end
section
theorem offPlain2 : True := by w_top off; trivial
theorem spans_mem (gs : List Int) : ∀ p ∈ spansOf gs, p.1 ∈ gs ∧ p.2 ∈ gs ∧ p.1 ≤ p.2 := by
  have key : ∀ (l : List Int) (S : List Int) (acc : List (Int × Int)), (∀ g ∈ l, g ∈ S) → (∀ p ∈ acc, p.1 ∈ S ∧ p.2 ∈ S ∧ p.1 ≤ p.2) → ∀ p ∈ l.foldl spanStep acc, p.1 ∈ S ∧ p.2 ∈ S ∧ p.1 ≤ p.2 := by
    intro l
    induction l with
    | nil => intro S acc _ h; exact h
    | cons g r ih =>
      intro S acc hl h
      rw [List.foldl_cons]
      refine ih S _ (fun x hx => hl x (.tail _ hx)) ?_
      have hg := hl g (.head _)
      rcases List.eq_nil_or_concat acc with rfl | ⟨a, p, rfl⟩
      · intro p hp
        rw [spanStep_nil, List.mem_singleton] at hp
        rw [hp]
        exact ⟨hg, hg, Int.le_refl _⟩
      · rw [List.concat_eq_append] at h ⊢
        rw [spanStep_snoc]
        have hp := h p (List.mem_append_right _ (.head _))
        split
        · rename_i he
          intro q hq
          rcases List.mem_append.mp hq with hq | hq
          · exact h q (List.mem_append_left _ hq)
          · rw [List.mem_singleton.mp hq]
            exact ⟨hp.1, hg, by have := hp.2.2; dsimp only; omega⟩
        · intro q hq
          rcases List.mem_append.mp hq with hq | hq
          · exact h q hq
          · rw [List.mem_singleton.mp hq]
            exact ⟨hg, hg, Int.le_refl _⟩
  exact key gs gs [] (fun _ h => h) (fun p hp => nomatch hp)
theorem widths_nonneg {l : List (Int × Int)} (h : ∀ p ∈ l, p.1 ≤ p.2) : 0 ≤ widths l := by
  induction l with
  | nil => simp [widths]
  | cons p r ih =>
    have h1 := ih fun q hq => h q (.tail _ hq)
    have h2 := h p (.head _)
    simp only [widths, List.map_cons, List.sum_cons] at h1 ⊢
    omega
/-- an index at which a span begins -/
theorem index_range (gs : List Int) (a : List Int) (i : Nat) (h : gs.length ≤ 64) : 0 ≤ (((spansOf gs).take i).foldl spanFold (a, 0)).2 ∧ (((spansOf gs).take i).foldl spanFold (a, 0)).2 < 65536 := by
  rw [spanFold_idx]
  have hs := spans_mem gs
  have h1 : 0 ≤ widths ((spansOf gs).take i) := widths_nonneg fun p hp => (hs p (List.mem_of_mem_take hp)).2.2
  have h2 : 0 ≤ widths ((spansOf gs).drop i) := widths_nonneg fun p hp => (hs p (List.mem_of_mem_drop hp)).2.2
  have h3 : widths ((spansOf gs).take i) + widths ((spansOf gs).drop i) = gs.length := by
    rw [← widths_app, List.take_append_drop, widths_spans]
  dsimp only
  omega
end
section
set_option maxHeartbeats 8000000
theorem offWcov : True := by w_top off; trivial
theorem news_many {h h' h₀ : Heap} {L : Addr} {m : Str → Option Value} {tl news : List (Addr × Obj)} (F : Fr h₀ L h m) (N : News h₀ L h news) (k : ∀ b o, h.get? b = some o → h'.get? b = some o) (ht : ∀ p ∈ tl, h.get? p.1 = none ∧ h'.get? p.1 = some p.2) : News h₀ L h' (news ++ tl) := fun p hp => by
  rcases List.mem_append.mp hp with hp | hp
  · exact N.grown k p hp
  · exact (news_one F N k (ht p hp).1 (ht p hp).2).2 _ (.head _)
/-- the objects of a coverage -/
def CovIs (w : World) (h : Heap) (x dx T : Addr) (tk : Tok) (vs : List Value) : Prop := h.get? x = some (instObj 195 dx) ∧ h.get? dx = some (oneField w (Str.ofString "glyphs") tk (.ref T)) ∧ h.get? T = some (tupObj vs) ∧ T < dx ∧ dx < x
end
section
set_option maxHeartbeats 8000000
/-- one octet out is left as it was but for its octets -/
theorem outLed_sub {w : World} {x dx Bb : Addr} {tk : Tok} {b : Array UInt8} {r r' : List (Addr × Obj)} (h : ∀ p ∈ r', p ∈ r) : ∀ p ∈ outLed w x dx Bb tk b r', p ∈ outLed w x dx Bb tk b r := fun p hp => by
  simp only [outLed, List.mem_cons] at hp ⊢
  rcases hp with hp | hp | hp | hp
  · exact .inl hp
  · exact .inr (.inl hp)
  · exact .inr (.inr (.inl hp))
  · exact .inr (.inr (.inr (h p hp)))
inductive WcJ (w : World) (o9 od9 B9 : Addr) (tk9 : Tok) (tl : List (Addr × Obj)) (gs : List Int) (i : Nat) (m : Str → Option Value) (news : List (Addr × Obj)) : Prop
  | mk : ∀ (ti : Tok) (M : Str → Option Value), m = M → news = outLed w o9 od9 B9 tk9 (toB (((spansOf gs).take i).foldl spanFold (oct2 2 ++ oct2 (spansOf gs).length, 0)).1) tl → M (Str.ofString "out") = some (Value.ref o9) → M (Str.ofString "index") = some (Value.int (((spansOf gs).take i).foldl spanFold (oct2 2 ++ oct2 (spansOf gs).length, 0)).2 ti) → WcJ w o9 od9 B9 tk9 tl gs i m news
inductive WcI (w : World) (o9 od9 B9 : Addr) (tk9 : Tok) (gs : List Int) (i : Nat) (m : Str → Option Value) (news : List (Addr × Obj)) : Prop
  | mk : m (Str.ofString "out") = some (.ref o9) → news = outLed w o9 od9 B9 tk9 (toB (oct2 1 ++ oct2 gs.length ++ (gs.take i).flatMap oct2)) [] → WcI w o9 od9 B9 tk9 gs i m news
theorem ct_wcov (w : World) (x dx T9 : Addr) (tkc : Tok) (vs : List Value) (gs : List Int) (hi : IntsAre vs gs) (hlen : gs.length ≤ 64) (hr : ∀ g ∈ gs, 0 ≤ g ∧ g < 65536) :
    CtG w 221 [.ref x] 4 64 [x, dx, T9] (fun h => CovIs w h x dx T9 tkc vs) (fun _ v _ => ∃ t, v = .bytes (toB (coverL gs)) t) := by
  unfold CtG
  dsimp only [Pr, KK, VW]
  k_fill
  intro loose mean mg mb dp un gd cn cs a ccd cl outer A₀ base h₀ L m s Q E B F X T hk ht hP hd hu hret herr
  obtain ⟨hx, hdx, hT9, hl1, hl2⟩ := hP
  have N : News h₀ L s.heap [(x, instObj 195 dx), (dx, oneField w (Str.ofString "glyphs") tkc (.ref T9)), (T9, tupObj vs)] := by
    intro p hp
    simp only [List.mem_cons, List.not_mem_nil, or_false] at hp
    rcases hp with rfl | rfl | rfl
    · exact ⟨hx, (ht x (by simp)).2, (ht x (by simp)).1⟩
    · exact ⟨hdx, (ht dx (by simp)).2, (ht dx (by simp)).1⟩
    · exact ⟨hT9, (ht T9 (by simp)).2, (ht T9 (by simp)).1⟩
  have X9 := X.keeps F.keep
  refine wpG_call ?_
  refine' own_callG ?k1 ?k2 ?k3 ?k4 ?k5 ?kA ?kF ?kK ?k6 ?k7 ?k8 ?k9 ?kB ?_ ?c2 ?c3 ?c4 ?c5
  case kA => exact rfl
  case kF => exact rfl
  case kK => first | exact rfl | assumption
  case k1 => k_asm
  case k2 => k_asm
  case k3 => k_asm
  case k4 => k_asm
  case k5 => k_asm
  case k6 => k_is
  case k7 => k_is
  case k8 => ktr_room
  case k9 => exact binds_K (by k_in) rfl (by k_is) rfl rfl rfl
  case c5 => decide
  case kB => exact locs rfl
  case c2 => exact rfl
  case c3 => exact rfl
  case c4 => exact rfl
  k_whole
  intro g1 L1 h1 hX hXr F1 N1 B1 X1 T1
  try dsimp only
  refine post_varGE fun Q1 E1 hQ1 => ?_
  replace hret := fun v h' tk' a b => hQ1 (Flow.ret v) _ (hret v h' tk' a b)
  clear hQ1
  have hxd : x ≠ dx := Nat.ne_of_gt hl2
  have hdx' : dx ≠ x := Nat.ne_of_lt hl2
  have hTd : T9 ≠ dx := Nat.ne_of_lt hl1
  have hTx : T9 ≠ x := Nat.ne_of_lt (Nat.lt_trans hl1 hl2)
  have hvl := hi.length
  obtain ⟨tf, htf⟩ := fr_has F1 (fun M => ∃ t, M (Str.ofString "form") = some (Value.int 0 t)) ⟨_, by with_unfolding_all rfl⟩
  replace F1 := fr_know2 F1 (a := Str.ofString "coverage") (b := Str.ofString "form") (v := .ref x) (u := .int 0 tf) (by with_unfolding_all rfl) htf
  clear htf
  refine wpG_execs_cons (wpG_any ?_)
  walk_at "glyph walk"
  refine ct_use (ct_ranges w T9 vs gs hi hlen) B1 F1 X1 T1 N1 rfl ⟨_, (N1 (T9, tupObj vs) (.tail _ (.tail _ (.head _)))).1, rfl, _, rfl⟩ (by first | exact room2 (by assumption) (by decide) | ktr_room) (by first | exact units2 (by assumption) (by decide) | ktr_units) ?_
  rintro v h2 tk2 kp2 F2 N2 ⟨R, tl, k, rfl, hRn, hRe, hps, htl⟩
  have NR := (news_one F1 N1 kp2 hRn hRe).2
  have NT := news_many F1 N1 kp2 fun p hp => ⟨(htl p hp).1, (htl p hp).2.1⟩
  have N3 : News g1 L1 h2 ((R, PySem.W.listOf (refs tl).toArray k) :: (x, instObj 195 dx) :: (dx, oneField w (Str.ofString "glyphs") tkc (.ref T9)) :: (T9, tupObj vs) :: tl) := fun p hp => by
    rcases List.mem_cons.mp hp with rfl | hp
    · exact NR _ (.head _)
    · exact NT p hp
  clear N2 NR NT
  walk_at "glyph walk"
  rename_i F3 N3
  have hgl : (vs.length : Int) = gs.length := by rw [hvl]
  have hsl := spansOf_len gs
  have htl' := hps.length
  refine wpG_execs_cons (wpG_any ?_)
  walk_at "glyph walk"
  refine kun_lenT (k := gs.length) ⟨_, (N3 (T9, tupObj vs) (.tail _ (.tail _ (.tail _ (.head _))))).1, rfl, _, rfl⟩ (by rw [List.size_toArray]; exact hgl) (by omega) ?_
  walk_at "glyph walk"
  refine len_list (n := ((spansOf gs).length : Int)) N3 (.head _) (by rw [List.length_map, htl']) (by rw [List.length_map]; omega) fun _ _ => ?_
  by_cases hw : 2 * (gs.length : Int) ≤ 6 * ((spansOf gs).length : Int)
  all_goals
    walk_at "glyph walk"
    rename_i F4 N4
    have hx4 := hl2
    refine wpG_execs_cons (wpG_Assign_Name (CallG_Name ?_) (by with_unfolding_all rfl))
    walk_at "glyph walk"
    refine callWithG_K0 (K := Glyph.hd.heap_39 w.params) (X1.keeps (Fr.keep (by k_asm))) (by k_is) ?_
    refine out_make B1 (by k_asm) X1 T1 N4 rfl (by first | exact room2 (by assumption) (by decide) | ktr_room) (by first | exact units2 (by assumption) (by decide) | ktr_units) fun o9 od9 B9 tk9 h9 tk9' F9 N9 l9 l9' l9'' => ?_
    walk_at "glyph walk"
    rename_i F10 N10
    refine wpG_execs_cons (wpG_Expr (MethodCallG ?_) (by with_unfolding_all rfl) (by with_unfolding_all rfl))
    walk_at "glyph walk"
    refine callWithG_K (K := Glyph.hd.heap_39 w.params) (by k_is) ?_
    walk_at "glyph walk"
    have hoff : ∀ p ∈ (R, PySem.W.listOf (refs tl).toArray k) :: (x, instObj 195 dx) :: (dx, oneField w (Str.ofString "glyphs") tkc (.ref T9)) :: (T9, tupObj vs) :: tl, p.1 ≠ o9 ∧ p.1 ≠ od9 ∧ p.1 ≠ B9 := fun p hp =>
      ⟨Nat.ne_of_lt (Nat.lt_trans (l9 p hp).1 l9'), Nat.ne_of_lt (l9 p hp).1, Nat.ne_of_lt (l9 p hp).2⟩
    refine outG_use (Ex := fun _ => True) (ctG_pre (ct_u16 w o9 od9 B9 tk9 #[] _ _ (by decide) (by decide)) fun _ h => h.1) B1 (by k_asm) X1 T1 N10 hoff l9' l9'' rfl trivial (by first | exact room2 (by assumption) (by decide) | ktr_room) (by first | exact units2 (by assumption) (by decide) | ktr_units) fun h11 tk11 F11 N11 kp11 => ?_
    refine wpG_execs_cons (wpG_If ?_)
    walk_at "glyph walk"
  · dsimp only [outLed] at N11
    (refine wpG_execs_cons (wpG_Expr (MethodCallG ?_) (by with_unfolding_all rfl) (by with_unfolding_all rfl)); walk_at "glyph walk"; refine callWithG_K (K := Glyph.hd.heap_39 (w).params) (by k_is) ?_; walk_at "glyph walk")
    refine kun_lenT (k := gs.length) ⟨_, (N11 (T9, tupObj vs) (.tail _ (.tail _ (.tail _ (.tail _ (.tail _ (.tail _ (.head _)))))))).1, rfl, _, rfl⟩ (by rw [List.size_toArray]; exact hgl) (by omega) ?_
    walk_at "glyph walk"
    have hb2 : (#[] ++ toB (oct2 1) : Array UInt8) = toB (oct2 1) := by rw [show (#[] : Array UInt8) = toB [] from rfl, toB_append]; rfl
    rw [hb2] at N11
    refine outG_use (Ex := fun _ => True) (ctG_pre (ct_u16 w o9 od9 B9 tk9 (toB (oct2 1)) gs.length _ (by omega) (by rw [toB_size]; decide)) fun _ h => h.1) B1 (by k_asm) X1 T1 N11 hoff l9' l9'' rfl trivial (by first | exact room2 (by assumption) (by decide) | ktr_room) (by first | exact units2 (by assumption) (by decide) | ktr_units) fun h12 tk12 F12 N12 kp12 => ?_
    rw [toB_append] at N12
    refine wpG_execs_cons (for_iterG g1 ?_ (by intro _; with_unfolding_all rfl))
    walk_at "glyph walk"
    have hT9' : (T9, tupObj vs) ∈ outLed w o9 od9 B9 tk9 (toB (oct2 1 ++ oct2 gs.length)) ((R, PySem.W.listOf (refs tl).toArray k) :: (x, instObj 195 dx) :: (dx, oneField w (Str.ofString "glyphs") tkc (.ref T9)) :: (T9, tupObj vs) :: tl) := .tail _ (.tail _ (.tail _ (.tail _ (.tail _ (.tail _ (.head _))))))
    refine ⟨[T9], vs.toArray.size, _, _, outLed w o9 od9 B9 tk9 (toB (oct2 1 ++ oct2 gs.length)) [], WcI w o9 od9 B9 tk9 gs,
      rfl, iter_tuple ⟨_, (N12 _ hT9').1, rfl, _, rfl⟩, ?_, F12, ?_, ?_, ⟨by with_unfolding_all rfl, ?_⟩, ?_, ?_⟩
    · exact fun q => (N12 _ hT9').2.1 (List.mem_singleton.mp q).symm
    · intro p hp
      refine N12 p ?_
      simp only [outLed, List.mem_cons, List.not_mem_nil, or_false] at hp ⊢
      rcases hp with hp | hp | hp <;> simp [hp]
    · intro p hp q
      have z := hoff (T9, tupObj vs) (.tail _ (.tail _ (.tail _ (.head _))))
      simp only [outLed, List.mem_cons, List.not_mem_nil, or_false] at hp
      rcases hp with rfl | rfl | rfl
      · exact z.1 (List.mem_singleton.mp q).symm
      · exact z.2.1 (List.mem_singleton.mp q).symm
      · exact z.2.2 (List.mem_singleton.mp q).symm
    · simp
    · rintro i x' m₁ news₁ own h tk hin hPx ⟨hMo, rfl⟩ hsep F N
      obtain ⟨g, tg, hg, rfl⟩ := ints_at hi (by simpa using hPx)
      have hgr := hr g (List.mem_of_getElem? hg)
      replace F := fr_know F hMo
      simp only [outLed, List.cons_append, List.nil_append] at N
      walk_at "glyph walk"
      refine post_varG fun Q2 hQ2 => ?_
      (refine wpG_execs_cons (wpG_Expr (MethodCallG ?_) (by with_unfolding_all rfl) (by with_unfolding_all rfl)); walk_at "glyph walk"; refine callWithG_K (K := Glyph.hd.heap_39 (w).params) (by k_is) ?_; walk_at "glyph walk")
      rename_i F5 N5
      have hoffo : ∀ p ∈ own, p.1 ≠ o9 ∧ p.1 ≠ od9 ∧ p.1 ≠ B9 := fun p hp => ⟨hsep p hp _ (.head _), hsep p hp _ (.tail _ (.head _)), hsep p hp _ (.tail _ (.tail _ (.head _)))⟩
      have hin2 : i < gs.length := by rw [List.size_toArray] at hin; omega
      refine outG_use (Ex := fun _ => True) (ctG_pre (ct_u16 w o9 od9 B9 tk9 _ g tg hgr (by
        rw [toB_size]
        simp only [List.length_append, flat_len, oct2, List.length_cons, List.length_nil, List.length_take]
        omega)) fun _ h => h.1) B1 (by k_asm) X1 T1 N5 hoffo l9' l9'' rfl trivial (by first | exact room2 (by assumption) (by decide) | ktr_room) (by first | exact units2 (by assumption) (by decide) | ktr_units) fun h6 tk6 F6 N6 kp6 => ?_
      rw [toB_append] at N6
      refine wpG_execs_nil ?_
      refine turnEndV (hQ2 .next _) (outLed w o9 od9 B9 tk9 (toB (oct2 1 ++ oct2 gs.length ++ (gs.take i).flatMap oct2 ++ oct2 g)) []) F6 N6 (fun p hp => ?_) (fun p hp => ?_) hsep ⟨by with_unfolding_all rfl, ?_⟩
      · simp only [outLed, List.mem_cons, List.not_mem_nil, or_false] at hp ⊢
        rcases hp with hp | hp | hp <;> simp [hp]
      · simp only [outLed, List.mem_cons]
        exact .inr (.inr (.inr hp))
      · rw [List.take_add_one, hg, List.flatMap_append, ← List.append_assoc]
        simp
    · rintro m' news' h tk ⟨hMo, rfl⟩ F N
      replace F := fr_know F hMo
      simp only [outLed] at N
      rw [List.take_of_length_le (by rw [List.size_toArray]; omega)] at N
      dsimp only
      refine wpG_execs_nil ?_
      dsimp only
      refine wpG_execs_cons (wpG_any ?_)
      walk_at "glyph walk"
      have hlen9 : (toB (oct2 1 ++ oct2 gs.length ++ gs.flatMap oct2)).size ≤ 1000 := by
        rw [toB_size]
        simp only [List.length_append, flat_len, oct2, List.length_cons, List.length_nil]
        omega
      refine octets_use hlen9 B1 (by k_asm) X1 T1 N l9' l9'' rfl (by first | exact room2 (by assumption) (by decide) | ktr_room) (by first | exact units2 (by assumption) (by decide) | ktr_units) fun t h' tk' F' kp' => ?_
      refine hret _ _ _ (ext_of hX F') ⟨t, ?_⟩
      unfold coverL
      rw [if_pos hw]
  · have hb2 : (#[] ++ toB (oct2 2) : Array UInt8) = toB (oct2 2) := by rw [show (#[] : Array UInt8) = toB [] from rfl, toB_append]; rfl
    rw [hb2] at N11
    dsimp only [outLed] at N11
    refine wpG_execs_cons (wpG_If ?_)
    walk_at "glyph walk"
    (refine wpG_execs_cons (wpG_Expr (MethodCallG ?_) (by with_unfolding_all rfl) (by with_unfolding_all rfl)); walk_at "glyph walk"; refine callWithG_K (K := Glyph.hd.heap_39 (w).params) (by k_is) ?_; walk_at "glyph walk")
    refine len_list (n := ((spansOf gs).length : Int)) N11 (.tail _ (.tail _ (.tail _ (.head _)))) (by rw [List.length_map, htl']) (by rw [List.length_map]; omega) fun _ _ => ?_
    walk_at "glyph walk"
    refine outG_use (Ex := fun _ => True) (ctG_pre (ct_u16 w o9 od9 B9 tk9 (toB (oct2 2)) (spansOf gs).length _ (by omega) (by rw [toB_size]; decide)) fun _ h => h.1) B1 (by k_asm) X1 T1 N11 hoff l9' l9'' rfl trivial (by first | exact room2 (by assumption) (by decide) | ktr_room) (by first | exact units2 (by assumption) (by decide) | ktr_units) fun h12 tk12 F12 N12 kp12 => ?_
    rw [toB_append] at N12
    dsimp only [outLed] at N12
    refine wpG_execs_cons (wpG_any ?_)
    walk_at "glyph walk"
    rename_i F13 N13
    refine wpG_execs_cons (for_anyG g1 ?_ (by intro _; with_unfolding_all rfl))
    walk_at "glyph walk"
    have hRm : (R, PySem.W.listOf (refs tl).toArray k) ∈ outLed w o9 od9 B9 tk9 (toB (oct2 2 ++ oct2 (spansOf gs).length)) ((R, PySem.W.listOf (refs tl).toArray k) :: (x, instObj 195 dx) :: (dx, oneField w (Str.ofString "glyphs") tkc (.ref T9)) :: (T9, tupObj vs) :: tl) := .tail _ (.tail _ (.tail _ (.head _)))
    refine ⟨R, (refs tl).toArray, _, outLed w o9 od9 B9 tk9 (toB (oct2 2 ++ oct2 (spansOf gs).length)) tl,
      WcJ w o9 od9 B9 tk9 tl gs,
      rfl, rfl, listOf_is N13 hRm, fun i x hx => (refs_at hx).elim fun p hp => ⟨p.1, hp.2⟩, ?_, F13, ?_, ?_, ⟨_, _, rfl, rfl, by with_unfolding_all rfl, by with_unfolding_all rfl⟩, ?_, ?_⟩
    · exact fun q => (N13 _ hRm).2.1 q.symm
    · exact fun p hp => N13 p (outLed_sub (fun p hp => .tail _ (.tail _ (.tail _ (.tail _ hp)))) p hp)
    · intro p hp q
      have z := hoff (R, PySem.W.listOf (refs tl).toArray k) (.head _)
      simp only [outLed, List.mem_cons] at hp
      rcases hp with rfl | rfl | rfl | hp
      · exact z.1 q.symm
      · exact z.2.1 q.symm
      · exact z.2.2 q.symm
      · exact (htl p hp).2.2 q
    · intro i x' m₁ news₁ own h tk hin hPx hJ hsep F N
      obtain ⟨ti, M, rfl, rfl, hMo, hMi⟩ := hJ
      replace F := fr_know2 F hMo hMi
      obtain ⟨⟨T2, o2⟩, htl2, rfl⟩ := refs_at hPx
      obtain ⟨q, hq, t1, t2, e2⟩ := paired_at hps htl2
      simp only at e2
      subst e2
      have hmem := List.mem_of_getElem? htl2
      have hmem' : (T2, pairObj (Value.int q.1 t1) (Value.int q.2 t2)) ∈ outLed w o9 od9 B9 tk9 (toB (((spansOf gs).take i).foldl spanFold (oct2 2 ++ oct2 (spansOf gs).length, 0)).1) tl ++ own := List.mem_append_left _ (.tail _ (.tail _ (.tail _ hmem)))
      have hqr := spans_mem gs q (List.mem_of_getElem? hq)
      have hq1 := hr _ hqr.1
      have hq2 := hr _ hqr.2.1
      refine assign_tup2 rfl ⟨_, (N _ hmem').1, rfl, _, rfl⟩ (by with_unfolding_all rfl) (by with_unfolding_all rfl) (by with_unfolding_all rfl) F fun h1 tk1 F1 kk1 => ?_
      have hix := index_range gs (oct2 2 ++ oct2 (spansOf gs).length) i hlen
      have hsz := spanFold_len ((spansOf gs).take i) (oct2 2 ++ oct2 (spansOf gs).length, 0)
      have hin2 : i < (spansOf gs).length := (List.getElem?_eq_some_iff.mp hq).1
      generalize hst : ((spansOf gs).take i).foldl spanFold (oct2 2 ++ oct2 (spansOf gs).length, 0) = st at N F1 hix hsz
      have hsz2 : st.1.length ≤ 388 := by
        simp only [List.length_append, oct2, List.length_cons, List.length_nil, List.length_take] at hsz
        omega
      have N1 : News g1 L1 h1 (outLed w o9 od9 B9 tk9 (toB st.1) (tl ++ own)) := fun p hp => ⟨kk1 _ _ (N p hp).2.1 (N p hp).1, (N p hp).2⟩
      clear N F
      have hR : ∀ p ∈ tl ++ own, p.1 ≠ o9 ∧ p.1 ≠ od9 ∧ p.1 ≠ B9 := fun p hp => by
        rcases List.mem_append.mp hp with hp | hp
        · exact hoff p (.tail _ (.tail _ (.tail _ (.tail _ hp))))
        · exact ⟨hsep p hp _ (.head _), hsep p hp _ (.tail _ (.head _)), hsep p hp _ (.tail _ (.tail _ (.head _)))⟩
      generalize hrest : tl ++ own = rest at N1 hR
      dsimp only [outLed] at N1
      refine post_varG fun Q2 hQ2 => ?_
      (refine wpG_execs_cons (wpG_Expr (MethodCallG ?_) (by with_unfolding_all rfl) (by with_unfolding_all rfl)); walk_at "glyph walk"; refine callWithG_K (K := Glyph.hd.heap_39 (w).params) (by k_is) ?_; walk_at "glyph walk")
      refine outG_use (Ex := fun _ => True) (ctG_pre (ct_u16 w o9 od9 B9 tk9 (toB st.1) q.1 _ hq1 (by rw [toB_size]; omega)) fun _ h => h.1) B1 (by k_asm) X1 T1 N1 hR l9' l9'' rfl trivial (by first | exact room2 (by assumption) (by decide) | ktr_room) (by first | exact units2 (by assumption) (by decide) | ktr_units) fun h21 tk21 F21 N21 kp21 => ?_
      rw [toB_append] at N21
      dsimp only [outLed] at N21
      (refine wpG_execs_cons (wpG_Expr (MethodCallG ?_) (by with_unfolding_all rfl) (by with_unfolding_all rfl)); walk_at "glyph walk"; refine callWithG_K (K := Glyph.hd.heap_39 (w).params) (by k_is) ?_; walk_at "glyph walk")
      refine outG_use (Ex := fun _ => True) (ctG_pre (ct_u16 w o9 od9 B9 tk9 _ q.2 _ hq2 (by rw [toB_size]; simp only [List.length_append, oct2, List.length_cons, List.length_nil]; omega)) fun _ h => h.1) B1 (by k_asm) X1 T1 N21 hR l9' l9'' rfl trivial (by first | exact room2 (by assumption) (by decide) | ktr_room) (by first | exact units2 (by assumption) (by decide) | ktr_units) fun h22 tk22 F22 N22 kp22 => ?_
      rw [toB_append] at N22
      dsimp only [outLed] at N22
      (refine wpG_execs_cons (wpG_Expr (MethodCallG ?_) (by with_unfolding_all rfl) (by with_unfolding_all rfl)); walk_at "glyph walk"; refine callWithG_K (K := Glyph.hd.heap_39 (w).params) (by k_is) ?_; walk_at "glyph walk")
      refine outG_use (Ex := fun _ => True) (ctG_pre (ct_u16 w o9 od9 B9 tk9 _ st.2 _ hix (by rw [toB_size]; simp only [List.length_append, oct2, List.length_cons, List.length_nil]; omega)) fun _ h => h.1) B1 (by k_asm) X1 T1 N22 hR l9' l9'' rfl trivial (by first | exact room2 (by assumption) (by decide) | ktr_room) (by first | exact units2 (by assumption) (by decide) | ktr_units) fun h23 tk23 F23 N23 kp23 => ?_
      rw [toB_append] at N23
      dsimp only [outLed] at N23
      refine wpG_execs_cons (wpG_any ?_)
      walk_at "glyph walk"
      rename_i F24 N24
      subst hrest
      obtain ⟨ti2, hti2⟩ := fr_has F24 (fun M => ∃ t, M (Str.ofString "index") = some (Value.int (spanFold st q).2 t)) ⟨_, by with_unfolding_all rfl⟩
      have est : ((spansOf gs).take (i + 1)).foldl spanFold (oct2 2 ++ oct2 (spansOf gs).length, 0) = spanFold st q := by
        rw [List.take_add_one, hq, List.foldl_append, hst]; rfl
      have e1 : (spanFold st q).1 = st.1 ++ oct2 q.1 ++ oct2 q.2 ++ oct2 st.2 := by simp [spanFold]
      dsimp only
      refine wpG_execs_nil ?_
      refine turnEndV (hQ2 .next _) (outLed w o9 od9 B9 tk9 (toB (st.1 ++ oct2 q.1 ++ oct2 q.2 ++ oct2 st.2)) tl) F24 N24 (fun p hp => outLed_sub (fun p hp => List.mem_append_left _ hp) p hp) (fun p hp => .tail _ (.tail _ (.tail _ (List.mem_append_right _ hp)))) hsep ⟨ti2, _, rfl, ?_, by with_unfolding_all rfl, ?_⟩
      · rw [est, e1]
      · rw [est]; exact hti2
    · rintro m' news' h tk ⟨ti, M, rfl, rfl, hMo, hMi⟩ F N
      replace F := fr_know F hMo
      rw [List.take_of_length_le (by rw [List.size_toArray, List.length_map, htl']; omega)] at N
      simp only [outLed] at N
      dsimp only
      refine wpG_execs_nil ?_
      dsimp only
      refine wpG_execs_nil ?_
      dsimp only
      refine wpG_execs_cons (wpG_any ?_)
      walk_at "glyph walk"
      have hlen9 : (toB ((spansOf gs).foldl spanFold (oct2 2 ++ oct2 (spansOf gs).length, 0)).1).size ≤ 1000 := by
        rw [toB_size, spanFold_len]
        simp only [List.length_append, oct2, List.length_cons, List.length_nil]
        omega
      refine octets_use hlen9 B1 (by k_asm) X1 T1 N l9' l9'' rfl (by first | exact room2 (by assumption) (by decide) | ktr_room) (by first | exact units2 (by assumption) (by decide) | ktr_units) fun t h' tk' F' kp' => ?_
      refine hret _ _ _ (ext_of hX F') ⟨t, ?_⟩
      unfold coverL
      rw [if_neg hw]
end
section
theorem offGCell : True := by w_top off; trivial
section
variable {prog : Program} {w : World} {A₀ A : Around} {s : Shared} {base h₀ : Heap} {outer : List Env} {L : Addr} {m : Str → Option Value} {env : Env} {news : List (Addr × Obj)} {K : Frag}
  {p : Program} {loose : List Str} {mean : ExcName → Option Value} {mg mb : Str → Option Value}
  {R : Result → Shared → Prop} {name qual : Str} {params : Arguments} {body : List Stmt} {scope : Scope} {dV kV doc pm cdv ct oc : Value} {an od : Option Addr} {osl : Array (Option Value)} {f : Addr} {args : Args} {binds : List (Str × Value)}
theorem own_callGC (B : Below A₀ base outer h₀) (F : Fr h₀ L s.heap m) (X₀ : K.In h₀) (N : News h₀ L s.heap news) (T : Top p loose mean mg mb h₀) (hA : A.frames = some (env :: outer)) (hf : env.frame = some L) (hke : env.scope.kind = .function)
    (ho : K.lookup f = some ⟨oc, od, .func (fnOf name qual params body scope dV kV doc pm an cdv ct), osl⟩) (hcd : codeIn K cdv qual = true) (hroom : A.depth < recursionLimit)
    (hbind : BindsTo s (fnOf name qual params body scope dV kV doc pm an cdv ct) args binds) (hkind : (binds.all fun y => scope.names.lookup y.1 == some .local || scope.names.lookup y.1 == some .cell) = true)
    (hnd : ((cellsFrom 0 scope.names []).map (·.1)).Nodup)
    (h : ∀ g L' h₁ tk cells, Ext (news.map (·.1)) s.heap g → (∀ b o, g.get? b = some o → s.heap.get? b = some o) → Fr g L' h₁ (bindL (envOfC qual scope L' f cdv).kindOf binds fun _ => none) → News g L' h₁ (cells ++ news) →
      CellsAre (bindC (envOfC qual scope L' f cdv).kindOf binds fun _ => none) (cellsFrom (L' + 1) scope.names []) cells → Below A base (env :: outer) g → K.In g → Top p loose mean mg mb g → (∀ p ∈ news, p.1 < L') →
      wpG (model prog w) (A.deeper (envOfC qual scope L' f cdv)) (execs body (envOfC qual scope L' f cdv))
        (fun fl s' => R (.ok (.ret (match fl with | .ret v => v | _ => .none))) s')
        (fun e s' => wpAny (model prog w) (A.deeper (envOfC qual scope L' f cdv)) (leaving (envOfC qual scope L' f cdv) e) (fun _ s'' => R (.error e) s'') (fun e' s'' => R (.error e') s'') s')
        { s with heap := h₁, toks := tk })
    (hco : scope.isCoroutine = false) (hgen : scope.isGenerator = false) (hk : scope.kind = .function) : codeG (model prog w) A (.call (.ref f) args) R s := by
  obtain ⟨FG, BG, st, _⟩ := groundX (R := R) B F N hA hf hke
  refine codeG_call_function hroom ((X₀.keeps F.keep) _ _ ho) rfl hco hgen rfl (codeRec_of (X₀.keeps F.keep) hcd) (hbind _ _ _ _ ?_)
  refine wpAny_newFunctionEnv_cells hk (kindsX hkind _) fun env' he s' x => ?_
  subst he
  refine ⟨(T.nolimit.keeps F.keep).keeps x.toInCall.keep, codeG_func ?_⟩
  obtain ⟨h₁, tk, rfl, _⟩ := x.done
  have hk₁ := x.toInCall.keep
  obtain ⟨cells, NC, Y⟩ := Cl.news (h₀ := s.heap) (Nat.le_refl _) fun n c hm => ⟨x.cell n c (lookup_of_mem_nodup (cellsFrom_names scope.names 0 (s.heap.objs.size + 1) [] [] rfl ▸ hnd) hm), x.above n c hm⟩
  refine h _ s.heap.objs.size h₁ tk cells (fun b o e n => hideAll_get _ e n) (fun b o e => of_hideAll _ e) ⟨x.toInCall.ns, fun b o e => hk₁ b o (of_hideAll _ e), Nat.le_of_eq (hideAll_size _ _)⟩ (fun p hp => ?_) Y BG (X₀.keeps st) (T.keeps st) (fun p hp => Heap.lt_size (N p hp).1)
  rcases List.mem_append.mp hp with hp | hp
  · refine ⟨(NC p hp).1, (NC p hp).2.1, ?_⟩
    cases q : (hideAll s.heap (news.map (·.1))).get? p.1 with
    | none => rfl
    | some o => have := of_hideAll _ q; rw [(NC p hp).2.2] at this; cases this
  · exact ⟨hk₁ _ _ (N p hp).1, Nat.ne_of_lt (Heap.lt_size (N p hp).1), hideAll_none _ (List.mem_map_of_mem hp)⟩
end
end
section
theorem offGIf : True := by w_top off; trivial
section
variable {prog : Program} {w : World} {A : Around} {E : Value → Shared → Prop} {s : Shared} {env : Env}
/-- an if whose test is known -/
theorem wpG_If_b (b : Bool) {test body orelse pos} {Q : Flow → Shared → Prop}
    (h1 : ∀ Q' : Bool → Shared → Prop, (∀ tk, Q' b { s with toks := tk }) → wpAny (model prog w) A (isTrue test env (eval test env)) Q' E s)
    (h2 : ∀ tk, wpG (model prog w) A (execs (if b then body else orelse) env) Q E { s with toks := tk }) :
    wpG (model prog w) A (exec (.If test body orelse pos) env) Q E s := by
  refine wpG_If (wpAny_mono (h1 (fun b' s₂ => b' = b ∧ ∃ tk, s₂ = { s with toks := tk }) fun tk => ⟨rfl, tk, rfl⟩) (fun b' s₂ h => ?_) fun _ _ e => e)
  obtain ⟨rfl, tk, rfl⟩ := h
  have := h2 tk
  cases b' <;> exact this
end
end
section
set_option maxHeartbeats 4000000
theorem offExc1 : True := by w_top off; trivial
section
variable {prog : Program} {w : World} {A : Around} {E : Value → Shared → Prop} {R : Result → Shared → Prop} {h : Heap} {g : Array GenState} {d : Drawn} {t : Nat} {os : OsState}
variable {nm q : Str} {C N : Addr} {bs bm bmB : List Value} {hdct : Bool} {sn : List Str} {sub : List Value} {ab : Bool} {col : Option Bool} {dd : Option Addr} {k0 k1 k2 k3 k5 : Option Value} {B newId initId : String}
/-- a bare exception of an own class -/
abbrev bareExc (C t : Addr) : Obj := { cls := .ref C, data := .fields #[.ref t, .none, .none, .none, .bool false, .none] }

theorem xc_check_new {M : Model} (F : ExcBaseFacts B newId initId bmB) (hB : bm.contains (.type B) = true) {rest : List Value} {Q : Unit → Shared → Prop} (hC : h.get? C = some (excClassObj nm q C N bs bm hdct sn sub ab col dd k0 k1 k2 k3 k5 newId))
    (hq : Q () ⟨h, g, d, t, os⟩) : wpAny M A (checkBuiltinCall newId ⟨.ref C :: rest, []⟩) Q E ⟨h, g, d, t, os⟩ := by
  have hcont : (Value.ref C :: bm).contains (.type B) = true := by rw [List.contains_cons, hB, Bool.or_true]
  have hstar := F.noStar
  simp only [checkBuiltinCall, F.newKind, F.newSplit, F.newRow]
  repeat (first | refine wpAny_loadPart_at hC ?_ | (refine wpAny_isSubtype_exc hC ?_; rw [hcont]) | refine wpAny_staticBase_exc hC ?_ | refine wpAny_madeBy_exc hC ?_ | simp only [bne_self_eq_false, Bool.false_eq_true, if_false] | wp_step)
  exact hq
theorem xc_new (F : ExcBaseFacts B newId initId bmB) (hB : bm.contains (.type B) = true) (hA : bm.contains (.type "AttributeError") = false) (hN : bm.contains (.type "NameError") = false) {rest : List Value} (hC : h.get? C = some (excClassObj nm q C N bs bm hdct sn sub ab col dd k0 k1 k2 k3 k5 newId))
    (hq : R (.ok (.ret (.ref (h.objs.size + 1)))) ⟨(h.push { cls := .type "tuple", data := .seq rest.toArray }).push (bareExc C h.objs.size), g, d, t, os⟩) (hrest : rest.length ≤ sizeLine := by size_fits) :
    codeAny (model prog w) A (.builtin newId ⟨.ref C :: rest, []⟩) R ⟨h, g, d, t, os⟩ := by
  have hends := F.ends
  have hcB : (Value.ref C :: bm).contains (.type B) = true := by rw [List.contains_cons, hB, Bool.or_true]
  have hcA : (Value.ref C :: bm).contains (.type "AttributeError") = false := by rw [List.contains_cons, hA]; rfl
  have hcN : (Value.ref C :: bm).contains (.type "NameError") = false := by rw [List.contains_cons, hN]; rfl
  refine codeAny_builtinAt F.entry ?_
  unfold Builtin.«BaseException.__new__»
  refine _root_.PySem.wpAt_bind ?_
  show _root_.PySem.wpAt _ _ _ (stack >>= _) _ _ _
  refine _root_.PySem.wpAt_bind (_root_.PySem.wpAt_stack fun p below => _root_.PySem.wpAt_of_wpAny ?_)
  wp_walk
  refine _root_.PySem.wpAt_of_wpAny ?_
  rw [F.owner]
  repeat (first | with_reducible refine wpAny_madeHere_exc F.canon hC ?_ | with_reducible refine wpAny_loadPart_at hC ?_ | (with_reducible refine wpAny_isSubtype_exc hC ?_; first | rw [hcB] | rw [hcA] | rw [hcN]) | wp_step)
  show R _ _
  rw [Heap.size_push]
  exact hq
/-- the class is called; its __init__ is a def, found wherever -/
theorem xc_call (F : ExcBaseFacts B newId initId bmB) (hB : bm.contains (.type B) = true) (hA : bm.contains (.type "AttributeError") = false) (hN : bm.contains (.type "NameError") = false) {rest : List Value} {fI : Addr} {oI : Obj}
    (hC : h.get? C = some (excClassObj nm q C N bs bm hdct sn sub ab col dd k0 k1 k2 k3 k5 newId)) (hi : Looks (model prog w) h (typeLookup (.ref C) "__init__") (some (.ref fI)))
    (hfI : h.get? fI = some oI) (hfc : oI.cls = .type "function")
    (hq : codeAny (model prog w) (A.under (.builtin "type.__call__" ⟨.ref C :: rest, []⟩)) (.call (.ref fI) ⟨.ref (h.objs.size + 1) :: rest, []⟩) (InitBack (h.objs.size + 1) R) ⟨(h.push { cls := .type "tuple", data := .seq rest.toArray }).push (bareExc C h.objs.size), g, d, t, os⟩)
    (hrest : rest.length ≤ sizeLine := by size_fits) : codeAny (model prog w) A (.call (.ref C) ⟨rest, []⟩) R ⟨h, g, d, t, os⟩ := by
  have f1 := tc_lookup
  have f2 := tc_bind (.ref C)
  have hT : (⟨h, g, d, t, os⟩ : Shared).TypeIs (.ref C) "type" := ⟨_, hC, rfl⟩
  refine codeAny_of_tree ?_
  show wpAny _ _ (callAny (.ref C) _) _ _ _
  repeat (any_goals (first | assumption | with_reducible refine wpAny_loadPart_at hC ?_ | wp_step))
  refine ⟨rfl, ?_⟩
  refine codeAny_call_builtin_at (Code.quiet_builtin _ (by decide +kernel)) entry_typeCall (wpAny_check_type_call_sub hC ?_)
  show wpAny _ _ (Builtin.«type.__call__» ⟨.ref C :: rest, []⟩) _ _ _
  repeat (first | with_reducible refine wpAny_loadPart_at hC ?_ | with_reducible refine wpAny_madeBy_exc hC ?_ | wp_step)
  refine codeAny_call_builtin_code (Code.quiet_builtin _ F.quiet) (xc_check_new F hB hC ?_)
  refine xc_new F hB hA hN hC ?_ hrest
  show wpAny _ _ _ _ _ _
  have kp : ∀ b o, h.get? b = some o → ((h.push { cls := .type "tuple", data := .seq rest.toArray }).push (bareExc C h.objs.size)).get? b = some o := fun b o e => Heap.get?_push_of_some _ (Heap.get?_push_of_some _ e)
  have hC₁ := kp _ _ hC
  have hfI₁ := kp _ _ hfI
  have hi₁ := hi.keeps kp
  have hget : ((h.push { cls := .type "tuple", data := .seq rest.toArray }).push (bareExc C h.objs.size)).get? (h.objs.size + 1) = some { cls := .ref C, data := .fields #[.ref h.objs.size, .none, .none, .none, .bool false, .none] } := by heap_get
  have hcC : (Value.ref C :: bm).contains (.ref C) = true := by simp
  unfold isInstance
  repeat (first | with_reducible refine wpAny_loadPart_at hget ?_ | (with_reducible refine wpAny_isSubtype_exc hC₁ ?_; rw [hcC]) | wp_step)
  refine hi₁.here ?_
  refine wpAny_holding (wpAny_bind ?_)
  unfold bindSpecial
  refine wpAny_bind (wpAny_typeOf (T := "function") ⟨_, hfI₁, hfc⟩ ?_)
  first | refine wpAny_pos (by decide) ?_ | refine wpG_pos (by decide) ?_ | rw [if_pos (by decide)]
  refine wpAny_pure (wpAny_bind (wpAny_call (codeAny_mono hq fun r s' z => ?_)))
  rcases r with e | (v | _ | _ | _) <;> first | exact z | exact z.elim | skip
  obtain ⟨rfl, z⟩ := z
  wp_walk
  exact z
end
end
section
set_option maxHeartbeats 4000000
theorem offExc2 : True := by w_top off; trivial
theorem xw_slot : Slot "wrapper_descriptor" "__get__" "wrapper_descriptor.__get__" := .of (owner := "wrapper_descriptor") (n := "__get__") (by rw [typeLookup_type, builtinLookup_eq_fast]; kernel_rfl) (by decide +kernel) (by decide +kernel) (by decide +kernel)
  (by first | exact .inl (by decide +kernel) | exact .inr (by decide +kernel)) (by rw [isSubtype_type]; kernel_rfl)
theorem xw_entry : entryFor table "wrapper_descriptor.__get__" = some Builtin.«wrapper_descriptor.__get__» := entryFor_of_tree (by kernel_rfl)
theorem xw_args (a b c : Value) : argsOk "wrapper_descriptor.__get__" ⟨[a, b, c], []⟩ := by unfold argsOk; rw [PySem.W.Fast.signatureY_eq]; kernel_rfl
theorem xw_type : typeOf (.builtin "Exception.__init__") = pure (.type "wrapper_descriptor") := by show builtinType _ = _; rw [builtinType_eq_fast]; kernel_rfl
abbrev wrapObj (id : String) (x : Addr) : Obj := { cls := .type "method-wrapper", data := .fields #[.builtin id, .ref x] }
section
variable {prog : Program} {w : World} {M : Model} {A : Around} {E : Value → Shared → Prop} {h : Heap} {g : Array GenState} {d : Drawn} {t : Nat} {os : OsState}
theorem xw_get {x C : Addr} {Q : Fin → Shared → Prop} (hsub : Looks (model prog w) h (isInstance (.ref x) (.type "Exception")) true)
    (hq : Q (.done (.ret (.ref h.objs.size))) ⟨h.push (wrapObj "Exception.__init__" x), g, d, t, os⟩) :
    wpAny (model prog w) A (Builtin.«wrapper_descriptor.__get__» ⟨[.builtin "Exception.__init__", .ref x, .ref C], []⟩) Q E ⟨h, g, d, t, os⟩ := by
  have e1 : (Value.ref x == Value.none) = false := rfl
  have e2 : (Value.ref C == Value.none) = false := rfl
  unfold Builtin.«wrapper_descriptor.__get__»
  show wpAny _ _ (pure (Value.builtin "Exception.__init__", some (Value.ref x), some (Value.ref C)) >>= _) _ _ _
  refine wpAny_bind (wpAny_pure ?_)
  show wpAny _ _ ((isInstance (.ref x) (.type "Exception") >>= _) >>= _) _ _ _
  refine wpAny_bind (wpAny_bind (hsub.here ?_))
  first | refine wpAny_neg (by decide) ?_ | refine wpG_neg (by decide) ?_ | simp only [Bool.not_true, Bool.false_eq_true, if_false]
  refine wpAny_pure ?_
  unfold newFields
  refine wpAny_bind (wpAny_newObj_type ?_ (by size_fits))
  exact wpAny_pure hq
theorem xs_ga {so D x C : Addr} {l₀ l : List Value} {K : Frag} {name : Str} {tk : Tok} {Q : Fin → Shared → Prop}
    (hso : h.get? so = some { cls := .type "super", dict := none, data := .fields #[.ref D, .ref x, .ref C], slots := #[] }) (hno : Looks (model prog w) h (opaqueClassAbove (.ref C)) none)
    (hC : Looks (model prog w) h (mroOf (.ref C)) l₀) (hl : (l₀.dropWhile (· != .ref D)).drop 1 = l) (X : K.In h)
    (hf : alongIn K name l = some (some (.builtin "Exception.__init__"))) (hsub : Looks (model prog w) h (isInstance (.ref x) (.type "Exception")) true) (hxC : x ≠ C) (hn : (name == ("__class__" : Str)) = false)
    (hq : Q (.done (.ret (.ref h.objs.size))) ⟨h.push (wrapObj "Exception.__init__" x), g, d, t, os⟩) :
    wpAny (model prog w) A (Builtin.«super.__getattribute__» ⟨[.ref so, .str name tk], []⟩) Q E ⟨h, g, d, t, os⟩ := by
  have hlk := xw_slot.lookup
  have hne : (Value.ref x == Value.ref C) = false := by simp [hxC]
  have hTf : (⟨h, g, d, t, os⟩ : Shared).TypeIs (.builtin "Exception.__init__") "wrapper_descriptor" := xw_type
  have hdt : ({ cls := .type "super", dict := none, data := .fields #[.ref D, .ref x, .ref C], slots := #[] } : Obj).data = .fields #[.ref D, .ref x, .ref C] := rfl
  have f0 : (#[.ref D, .ref x, .ref C] : Array Value)[0]? = some (.ref D) := rfl
  have f1 : (#[.ref D, .ref x, .ref C] : Array Value)[1]? = some (.ref x) := rfl
  have f2 : (#[.ref D, .ref x, .ref C] : Array Value)[2]? = some (.ref C) := rfl
  unfold Builtin.«super.__getattribute__»
  repeat (first
    | (with_reducible refine wpAny_field hso hdt f0 ?_) | (with_reducible refine wpAny_field hso hdt f1 ?_) | (with_reducible refine wpAny_field hso hdt f2 ?_)
    | (with_reducible refine ks_wpAny_notOpaque hno ?_)
    | (with_reducible refine Looks.at hC ?_; rw [hl])
    | (refine ks_forIn_along X (fun _ _ => rfl) rfl ?_ hf)
    | (with_reducible refine wpAny_typeOf hTf ?_)
    | (with_reducible refine wpAny_call_entry xw_slot hTf xw_entry ?_ (xw_args _ _ _))
    | (refine xw_get hsub ?_)
    | (with_reducible refine ⟨_, rfl, ?_⟩)
    | (simp only [hn, hne, Bool.or_false, Bool.false_eq_true, if_false])
    | wp_step
    | dsimp only)
  all_goals exact hq
theorem xs_getMethod {so D x C : Addr} {l₀ l : List Value} {K : Frag} {name : Str} {pl : Sem Bool} {Q : Value × List Value → Shared → Prop}
    (hso : h.get? so = some { cls := .type "super", dict := none, data := .fields #[.ref D, .ref x, .ref C], slots := #[] }) (hno : Looks (model prog w) h (opaqueClassAbove (.ref C)) none)
    (hC : Looks (model prog w) h (mroOf (.ref C)) l₀) (hl : (l₀.dropWhile (· != .ref D)).drop 1 = l) (X : K.In h)
    (hf : alongIn K name l = some (some (.builtin "Exception.__init__"))) (hsub : Looks (model prog w) h (isInstance (.ref x) (.type "Exception")) true) (hxC : x ≠ C) (hn : (name == ("__class__" : Str)) = false)
    (hq : Q (.ref h.objs.size, []) ⟨h.push (wrapObj "Exception.__init__" x), g, d, t + 1, os⟩) :
    wpAny (model prog w) A (getMethod (.ref so) name pl) Q E ⟨h, g, d, t, os⟩ := by
  have hlk := F.ks_slot_super_ga.lookup
  have hcan := F.ks_canon_super_ga
  have hT : ∀ t', (⟨h, g, d, t', os⟩ : Shared).TypeIs (.ref so) "super" := fun _ => ⟨_, hso, rfl⟩
  unfold getMethod
  refine wpAny_bind (wpAny_specialOf (hT _) hlk ?_)
  show wpAny _ _ (if (Manifest.canonical "super.__getattribute__" != "object.__getattribute__") = true then _ else _) _ _ _
  rw [if_pos hcan]
  unfold getAttr getAttrBy
  refine wpAny_bind (wpAny_bind (wpAny_mkText (wpAny_holding (wpAny_bind (wpAny_typeOf (hT _) (wpAny_bind (wpAny_of_eq hlk ?_)))))))
  show wpAny _ _ (getAttrByItsOwn (.ref so) (.str name t) (.type "super") (.builtin "super.__getattribute__") true false) _ _ _
  unfold getAttrByItsOwn hookBefore callGetattribute boundAndCalled
  refine wpAny_bind (wpAny_of_eq (show (if onTheHeap (.type "super") then typeLookup (.type "super") "__getattr__" else pure none) = pure none from rfl) ?_)
  refine wpAny_bind (wpAny_attempt (wpAny_holding ?_))
  show wpAny _ _ (bindSpecial (.builtin "super.__getattribute__") (.ref so) >>= _) _ _ _
  refine wpAny_bind (wpAny_of_eq (F.ks_slot_super_ga.bind _) ?_)
  refine wpAny_mono (Q := fun v s' => v = .ref h.objs.size ∧ s' = ⟨h.push (wrapObj "Exception.__init__" x), g, d, t + 1, os⟩) (E := fun _ _ => False)
    (wpAny_call_entry F.ks_slot_super_ga (hT _) F.ks_entry_super_ga (xs_ga hso hno hC hl X hf hsub hxC hn ⟨_, rfl, rfl, rfl⟩) (F.ks_gaArgs_super _ _)) (fun v s' hv => ?_) fun _ _ z => z.elim
  obtain ⟨rfl, rfl⟩ := hv
  exact wpAny_pure (wpAny_pure hq)
end
end
section
set_option maxHeartbeats 4000000
theorem offExc3 : True := by w_top off; trivial
theorem xi_check {M : Model} {A : Around} {E : Value → Shared → Prop} {h : Heap} {g : Array GenState} {d : Drawn} {t : Nat} {os : OsState} {nm q : Str} {C N : Addr} {bs bm : List Value} {hdct : Bool} {sn : List Str} {sub : List Value} {ab : Bool} {col : Option Bool} {dd : Option Addr} {k0 k1 k2 k3 k5 : Option Value} {newId : String}
    {e : Addr} {oe : Obj} {v : Value} {Q : Unit → Shared → Prop} (hC : h.get? C = some (excClassObj nm q C N bs bm hdct sn sub ab col dd k0 k1 k2 k3 k5 newId)) (he : h.get? e = some oe) (hcls : oe.cls = .ref C) (hq : Q () ⟨h, g, d, t, os⟩) :
    wpAny M A (checkBoundCall "Exception.__init__" ⟨[.ref e, v], []⟩) Q E ⟨h, g, d, t, os⟩ := by
  have F := PySem.F.excBase_Exception
  have hshort := F.noStar
  simp only [checkBoundCall, F.initKind, F.initRow]
  refine bm_if_true (by decide) ?_
  repeat (first | (with_reducible refine wpAny_loadPart_at he ?_; rw [hcls]) | with_reducible refine wpAny_loadPart_at hC ?_ | wp_step)
  exact hq
theorem xi_quiet : ("Exception.__init__" : String).startsWith "lifetime." = false := by decide +kernel
section
variable {nm qn : Str} {nN : Addr} {bs bm : List Value} {hdct : Bool} {sn : List Str} {sub : List Value} {ab : Bool} {col : Option Bool} {dd : Option Addr} {k0 k1 k2 k3 k5 : Option Value} {newId : String}
variable {prog : Program} {w : World} {M : Model} {A : Around} {E : Value → Shared → Prop} {s : Shared} {h₀ : Heap} {L x q C t0 : Addr} {m : Str → Option Value} {pre post : List (Addr × Obj)}
theorem xw_call {v : Value} {Q : Value → Shared → Prop} (F : Fr h₀ L s.heap m) (N : News h₀ L s.heap (pre ++ (x, bareExc C t0) :: post)) (hq : (q, wrapObj "Exception.__init__" x) ∈ pre ++ (x, bareExc C t0) :: post)
    (hC : s.heap.get? C = some (excClassObj nm qn C nN bs bm hdct sn sub ab col dd k0 k1 k2 k3 k5 newId)) (h1 : ∀ p ∈ pre, p.1 ≠ x) (h2 : ∀ p ∈ post, p.1 ≠ x)
    (h : ∀ T h', Fr h₀ L h' m → News h₀ L h' ((T, tupObj [v]) :: (pre ++ (x, bareExc C T) :: post)) → (∀ p ∈ pre ++ (x, bareExc C t0) :: post, p.1 < T) → Q .none { s with heap := h' }) :
    wpAny (model prog w) A (call (.ref q) [v]) Q E s := by
  have ho := (N _ hq).1
  have hx := (N (x, bareExc C t0) (by simp)).1
  refine wpAny_call (codeAny_of_tree ?_)
  show wpAny _ _ (callAny (.ref q) ⟨[v], []⟩) _ _ _
  unfold callAny
  refine wpAny_bind (wpAny_load ho ?_)
  show wpAny _ _ (checkBoundCall "Exception.__init__" ⟨[.ref x, v], []⟩ >>= fun _ => again (.builtin "Exception.__init__" ⟨[.ref x, v], []⟩)) _ _ _
  refine wpAny_bind (xi_check hC hx rfl (wpAny_pure ⟨Code.quiet_builtin _ xi_quiet, codeAny_builtin PySem.F.excBase_Exception.initEntry ?_⟩))
  unfold Builtin.«BaseException.__init__»
  show wpAny _ _ (newTuple [v] >>= fun y => Builtin.BaseException.bexcPut (.ref x) 0 y >>= fun _ => ret .none) _ _ _
  refine wpAny_bind (wpAny_newTuple ?_)
  have F1 := F.push (tupObj [v])
  have N1 := News.push F N (tupObj [v])
  have hx1 : (s.heap.push (tupObj [v])).get? x = some (bareExc C t0) := Heap.get?_push_of_some _ hx
  unfold Builtin.BaseException.bexcPut
  refine wpAny_bind (wpAny_bind (wpAny_field hx1 rfl (i := 0) rfl (wpAny_bind (wpAny_setField_rec hx1 (by simp) fun h' e hs => ?_))))
  dsimp only
  refine wpAny_letGo (wpAny_pure ?_)
  refine h _ h' ?_ ?_ (fun p hp => Heap.lt_size (N p hp).1)
  · exact F1.change hs (N1 (x, bareExc C t0) (by simp)).2.1 (N1 (x, bareExc C t0) (by simp)).2.2
  · have hxs : x ≠ s.heap.objs.size := Nat.ne_of_lt (Heap.lt_size hx)
    have hx' : h'.get? x = some (bareExc C s.heap.objs.size) := e
    exact news_set (pre := (s.heap.objs.size, tupObj [v]) :: pre) N1 (fun p hp => by
      rcases List.mem_cons.mp hp with rfl | hp
      · exact hxs.symm
      · exact h1 p hp) h2 hs hx'
end
end
section
open PySem PySem.W PySem.Calls PyProof.Rows Builtin Builtin.ObjectAttr
set_option maxHeartbeats 4000000
theorem offExc4 : True := by w_top off; trivial
section
variable {prog : Program} {w : World} {A : Around} {E : Value → Shared → Prop} {K : Frag} {x C D : Addr} {s : Shared} {h₀ : Heap} {L : Addr} {m : Str → Option Value} {news pre post : List (Addr × Obj)} {name : Str} {v : Value}
theorem x_storeIn {dx : Addr} {od od' : Obj} {tk : Tok} {es : List DictEntry} {n : Nat} {Q : Fin → Shared → Prop} (F : Fr h₀ L s.heap m) (N : News h₀ L s.heap (pre ++ (dx, od) :: post))
    (hl : (lookIn name od).isSome = true) (h1 : ∀ p ∈ pre, p.1 ≠ dx) (h2 : ∀ p ∈ post, p.1 ≠ dx)
    (e : Obj.putName name (PyData.keyHash w.params name) (.str name s.toks) v od = od') (e' : od'.data = .dict es.toArray n) (hz : es.length ≤ 1000)
    (h : ∀ h', Fr h₀ L h' m → News h₀ L h' (pre ++ (dx, od') :: post) → Q (.done (.ret .none)) { s with heap := h', toks := s.toks + 1 }) :
    wpAny (model prog w) A (storeInDict dx (.str name tk) name v) Q E s := by
  obtain ⟨U1, U2⟩ := news_upd (f := Obj.putName name (PyData.keyHash w.params name) (.str name s.toks) v) F N h1 h2 e (by obtain ⟨_, _, dd, _⟩ := od'; cases e'; rfl)
  have Dd := (N (dx, od) (by simp)).1
  have D' := (U2 (dx, od') (by simp)).1
  refine wpAny_bind (wpAny_pure (wpAny_bind ?_))
  unfold nsSet
  refine wpAny_bind (wpAny_bind (wpAny_askSetting (wpAny_pure (wpAny_bind (wpAny_mkText (wpAny_bind (wpAny_loadPart Dd ?_)))))))
  unfold lookIn at hl
  split at hl
  · rename_i es₀ n₀ q
    rw [q]
    dsimp only
    have c : (!es₀.any (·.key.isStr name) && es₀.any (·.refKey)) = false := by
      rw [← Array.any_toList, ← Array.any_toList]
      split at hl
      · rename_i en he
        rw [List.any_eq_true.mpr ⟨en, List.mem_of_find?_eq_some he, List.find?_some he⟩]; rfl
      · split at hl
        · cases hl
        · rename_i z; rw [Bool.not_eq_true] at z; rw [z, Bool.and_false]
    rw [aRefKeyMayBeTheName_at, c]
    refine wpAny_updatePart Dd ?_
    refine wpAny_bind (wpAny_lookBehind D' (by rw [e']; exact pastItsLine_dict (by rw [List.size_toArray, sizeLine_eq]; omega)) ?_)
    exact wpAny_pure (h _ U1 U2)
  · cases hl
/-- the making of the dict of an exception -/
theorem x_open {ox : Obj} {od : Option Obj} {tk : Tok} {cd : ClassData} {R : Result → Shared → Prop} (X : K.In s.heap) (I : InstAt s.heap x ox C od) (hc : clsIn K C = some cd) (ho : cd.mro.contains (.type "object") = true) (hne : cd.mro.isEmpty = false)
    (hr : ∀ self, refuseLoop self "__setattr__" cd.mro = pure ()) (ht : takerIn K C name = some none)
    (h : ∀ b, wpAny (model prog w) A.in1 (storeInOwnDict (.ref x) (.ref C) (.str name tk) name v b)
      (fun fin s' => match fin with | .done f => R (.ok f) s' | .again c' => c'.quiet = true ∧ codeAny (model prog w) A c' R s') (fun e s' => R (.error e) s') s) :
    codeAny (model prog w) A (.call (.builtin "object.__setattr__") ⟨[.ref x, .str name tk, v], []⟩) R s := by
  have SF := PySem.F.store_object
  have sub : Looks (model prog w) s.heap (isInstance (.ref x) (.type "object")) true := I.type.andThen (looks_mroIn X (by unfold mroIn; rw [hc, Option.bind_some, if_neg (by rw [hne]; decide), ho]))
  refine codeAny_call_builtin SF.slot.plain SF.entry (@check_slot (model prog w) _ _ s "object.__setattr__" "object" "__setattr__" (.ref x) [.str name tk, v] [] _ SF.kind SF.split sub (SF.args (.ref x) (.str name tk) v) ?_)
  obtain ⟨attr, ha, hr'⟩ := Option.bind_eq_some_iff.mp ht
  have hm : Looks (model prog w) s.heap (mroOf (.ref C)) cd.mro := (looks_clsIn X hc).andThen .now
  have L3 : Looks (model prog w) s.heap (storeTaker? attr) none := by
    cases attr with
    | none => cases hr'; exact .now
    | some a =>
      obtain ⟨b, hb, hb2⟩ := Option.map_eq_some_iff.mp hr'
      refine (looks_takesIn X hb).andThen ?_
      cases b
      · exact .now
      · cases hb2
  rw [osa_eq, refuse_eq]
  refine wpAny_bind (wpAny_bind (I.type.here (wpAny_bind (hm.here ?_))))
  rw [hr]
  refine wpAny_pure (wpAny_bind (I.type.here (wpAny_bind ((looks_findIn X ha).here (wpAny_bind (L3.here ?_))))))
  exact h _
abbrev dictExc (C t D : Addr) : Obj := { cls := .ref C, dict := some D, data := .fields #[.ref t, .none, .none, .none, .bool false, .none] }
theorem x_set1 {t : Addr} {cd : ClassData} {Q : Unit → Shared → Prop} (F : Fr h₀ L s.heap m) (X₀ : K.In h₀) (N : News h₀ L s.heap (pre ++ (x, bareExc C t) :: post)) (h1 : ∀ p ∈ pre, p.1 ≠ x) (h2 : ∀ p ∈ post, p.1 ≠ x)
    (hs : findIn K (.ref C) "__setattr__" = some (some (.builtin "object.__setattr__"))) (hc : clsIn K C = some cd) (ho : cd.mro.contains (.type "object") = true) (hne : cd.mro.isEmpty = false)
    (hr : ∀ self, refuseLoop self "__setattr__" cd.mro = pure ()) (ht : takerIn K C name = some none) (hd : cd.hasDict = true)
    (h : ∀ D h', Fr h₀ L h' m → News h₀ L h' ((D, oneField w name (s.toks + 1) v) :: (pre ++ (x, dictExc C t D) :: post)) → (∀ p ∈ pre ++ (x, bareExc C t) :: post, p.1 < D) → Q () { s with heap := h', toks := s.toks + 2 }) :
    wpAny (model prog w) A (setAttr (.ref x) name v) Q E s := by
  have X := X₀.keeps F.keep
  have hx := (N (x, bareExc C t) (by simp)).1
  have I : InstAt s.heap x (bareExc C t) C none := ⟨hx, rfl, rfl, trivial⟩
  have hxs : x ≠ s.heap.objs.size := Nat.ne_of_lt (Heap.lt_size hx)
  obtain ⟨hh, g, dr, tt, os⟩ := s
  dsimp only at *
  refine set_plain X I hs (x_open X I hc ho hne hr ht fun b => ?_)
  refine wpAny_bind (wpAny_pure (wpAny_bind (wpAny_bind (wpAny_loadPart hx (wpAny_bind (Looks.at (looks_clsIn X hc) ?_))))))
  rw [hd]
  show wpAny _ _ ((alloc { cls := .type "dict", data := .dict #[] } >>= fun d => update x (fun o => { o with dict := some d }) >>= fun _ => dictMade (.ref C) x d)) _ _ _
  refine wpAny_bind (wpAny_alloc (wpAny_bind ?_))
  have F1 := F.push emptyDict
  have N1 := News.push F N emptyDict
  have hx1 : (hh.push emptyDict).get? x = some (bareExc C t) := Heap.get?_push_of_some _ hx
  obtain ⟨U1, U2⟩ := news_upd (pre := (hh.objs.size, emptyDict) :: pre) (f := fun o : Obj => { o with dict := some hh.objs.size }) F1 N1 (fun p hp => by
    rcases List.mem_cons.mp hp with rfl | hp
    · exact hxs.symm
    · exact h1 p hp) h2 (o' := dictExc C t hh.objs.size) rfl rfl
  refine wpAny_update hx1 ?_
  refine wpAny_pure (a := some hh.objs.size) (wpAny_bind (wpAny_pure ?_))
  refine x_storeIn (tk := tt) (pre := []) (es := [{ hash := PyData.keyHash w.params name, key := .str name (tt + 1), val := v }]) (n := 1) (od' := oneField w name (tt + 1) v) U1 U2 ?_ (fun p hp => nomatch hp) (fun p hp => ?_) ?_ rfl (Nat.le_of_ble_eq_true rfl) fun h' F' N' => ?_
  · rfl
  · rcases List.mem_append.mp hp with hp | hp
    · exact Nat.ne_of_lt (Heap.lt_size (N p (List.mem_append_left _ hp)).1)
    · rcases List.mem_cons.mp hp with rfl | hp
      · exact hxs
      · exact Nat.ne_of_lt (Heap.lt_size (N p (List.mem_append_right _ (.tail _ hp))).1)
  · rfl
  · exact h _ h' F' N' fun p hp => Heap.lt_size (N p hp).1
theorem x_set2 {t D : Addr} {cd : ClassData} {od od' : Obj} {es : List DictEntry} {n : Nat} {Q : Unit → Shared → Prop} (F : Fr h₀ L s.heap m) (X₀ : K.In h₀) (N : News h₀ L s.heap (pre ++ (D, od) :: post)) (hm : (x, dictExc C t D) ∈ pre ++ (D, od) :: post) (h1 : ∀ p ∈ pre, p.1 ≠ D) (h2 : ∀ p ∈ post, p.1 ≠ D)
    (hs : findIn K (.ref C) "__setattr__" = some (some (.builtin "object.__setattr__"))) (hc : clsIn K C = some cd) (ho : cd.mro.contains (.type "object") = true) (hne : cd.mro.isEmpty = false)
    (hr : ∀ self, refuseLoop self "__setattr__" cd.mro = pure ()) (ht : takerIn K C name = some none) (hd : cd.hasDict = true)
    (hl : (lookIn name od).isSome = true) (e : Obj.putName name (PyData.keyHash w.params name) (.str name (s.toks + 1)) v od = od') (e' : od'.data = .dict es.toArray n) (hz : es.length ≤ 1000)
    (h : ∀ h', Fr h₀ L h' m → News h₀ L h' (pre ++ (D, od') :: post) → Q () { s with heap := h', toks := s.toks + 2 }) :
    wpAny (model prog w) A (setAttr (.ref x) name v) Q E s := by
  have X := X₀.keeps F.keep
  have hx := (N (x, dictExc C t D) hm).1
  have hD := (N (D, od) (by simp)).1
  have I : InstAt s.heap x (dictExc C t D) C (some od) := ⟨hx, rfl, rfl, hD⟩
  obtain ⟨hh, g, dr, tt, os⟩ := s
  dsimp only at *
  refine set_plain X I hs (x_open X I hc ho hne hr ht fun b => ?_)
  refine wpAny_bind (wpAny_pure (wpAny_bind (wpAny_bind (wpAny_loadPart hx (wpAny_bind (Looks.at (looks_clsIn X hc) ?_))))))
  rw [hd]
  refine wpAny_pure (a := some D) (wpAny_bind (wpAny_pure ?_))
  exact x_storeIn (tk := tt) F N hl h1 h2 e e' hz fun h' F' N' => h h' F' N'
end
end
section
set_option maxHeartbeats 4000000
theorem offExc5 : True := by w_top off; trivial
section
variable {prog : Program} {w : World} {A₀ A : Around} {s : Shared} {base h₀ : Heap} {outer : List Env} {L cc : Addr} {m : Str → Option Value} {env : Env} {news : List (Addr × Obj)} {K : Frag}
  {p : Program} {loose : List Str} {mean : ExcName → Option Value} {mg mb : Str → Option Value}
  {R : Result → Shared → Prop} {name qual : Str} {params : Arguments} {body : List Stmt} {scope : Scope} {dV kV doc pm cdv ct oc : Value} {an od : Option Addr} {osl : Array (Option Value)} {f : Addr} {args : Args} {binds : List (Str × Value)}
theorem own_callS (B : Below A₀ base outer h₀) (F : Fr h₀ L s.heap m) (X₀ : K.In h₀) (N : News h₀ L s.heap news) (T : Top p loose mean mg mb h₀) (hA : A.frames = some (env :: outer)) (hf : env.frame = some L) (hke : env.scope.kind = .function)
    (ho : K.lookup f = some ⟨oc, od, .func (ksFn name qual params body scope dV kV doc pm an cdv ct cc), osl⟩) (hcd : codeIn K cdv qual = true) (hroom : A.depth < recursionLimit)
    (hbind : BindsTo s (ksFn name qual params body scope dV kV doc pm an cdv ct cc) args binds) (hloc : ∀ y ∈ binds, scope.names.lookup y.1 = some .local)
    (h : ∀ g L' h₁, Ext (news.map (·.1)) s.heap g → (∀ b o, g.get? b = some o → s.heap.get? b = some o) → Fr g L' h₁ (fun y => binds.reverse.lookup y) → News g L' h₁ news → Below A base (env :: outer) g → K.In g → Top p loose mean mg mb g → (∀ p ∈ news, p.1 < L') →
      _root_.PySem.wpAt (model prog w) (A.deeper (ksEnv qual scope L' f cdv cc)) (.func body (ksEnv qual scope L' f cdv cc)) (execs body (ksEnv qual scope L' f cdv cc))
        (fun fl s' => R (.ok (.ret (match fl with | .ret v => v | _ => .none))) s')
        (fun e s' => wpAny (model prog w) (A.deeper (ksEnv qual scope L' f cdv cc)) (leaving (ksEnv qual scope L' f cdv cc) e) (fun _ s'' => R (.error e) s'') (fun e' s'' => R (.error e') s'') s')
        { s with heap := h₁, toks := s.toks + binds.length })
    (hco : scope.isCoroutine = false) (hgen : scope.isGenerator = false) (hk : scope.kind = .function)
    (hcell : ∀ x ∈ scope.names, x.2 ≠ .cell) : codeAny (model prog w) A (.call (.ref f) args) R s := by
  obtain ⟨FG, BG, st, _⟩ := groundX (R := R) B F N hA hf hke
  refine ks_codeAny_call_defAt (fd := ksFn name qual params body scope dV kV doc pm an cdv ct cc) (body := body) (binds := binds) hroom ((X₀.keeps F.keep) _ _ ho) rfl (T.nolimit.keeps F.keep) (codeRec_of (X₀.keeps F.keep) hcd) rfl hbind hcell hloc (fun h₁ hns hk₁ => ?_) hco hgen hk
  exact h _ s.heap.objs.size h₁ (fun b o e n => hideAll_get _ e n) (fun b o e => of_hideAll _ e) ⟨hns, fun b o e => hk₁ b o (of_hideAll _ e), Nat.le_of_eq (hideAll_size _ _)⟩
    (fun p hp => ⟨hk₁ _ _ (N p hp).1, Nat.ne_of_lt (Heap.lt_size (N p hp).1), hideAll_none _ (List.mem_map_of_mem hp)⟩) BG (X₀.keeps st) (T.keeps st) (fun p hp => Heap.lt_size (N p hp).1)
end
section
variable {M : Model} {A : Around} {E : Value → Shared → Prop} {s : Shared} {wid : String} {x u : Addr}
theorem xw_callWith0 {pos : Pos} {first : List Value} {args : List (Bool × Sem Value)} {Q : Value → Shared → Prop} (hplain : args.any (·.1) = false)
    (h : wpAny M A (evalArgs (.ref u) true args []) (fun y s₁ => s₁.heap.get? u = some (wrapObj wid x) ∧ wpAny M A (call (.ref u) (first ++ y.pos) y.kw) Q E s₁) E s) : wpAny M A (callWith pos (.ref u) first args []) Q E s := by
  unfold callWith
  refine wpAny_bind (wpAny_holding (wpAny_mono h (fun y s₁ h₁ => wpAny_bind (wpAny_standAt ?_)) fun _ _ x => x))
  obtain ⟨ho, hcall⟩ := h₁
  simp only [hplain, List.any_nil, Bool.or_false]
  refine wpAny_bind (m := keeperOf (.ref u)) ?_
  unfold keeperOf
  refine wpAny_bind (wpAny_load ho ?_)
  simp only [show (Value.type "method-wrapper" != Value.type "method") = true by decide, show (Value.type "method-wrapper" == Value.type "builtin_function_or_method" || Value.type "method-wrapper" == Value.type "method-wrapper") = true by decide, if_true]
  refine wpAny_pure ?_
  exact wpAny_bind (wpAny_mono hcall (fun r s₂ hr => wpAny_bind (wpAny_holding (wpAny_point (wpAny_pure hr)))) fun _ _ x => x)
theorem xw_callWith {pos : Pos} {first : List Value} {env : Env} {e : Expr} {rest : List Expr} {Q : Value → Shared → Prop}
    (h : wpAny M A (spliced (backTo pos (starEach (e :: rest) env))) (fun vs s₁ => s₁.heap.get? u = some (wrapObj wid x) ∧ wpAny M A (call (.ref u) (first ++ vs)) Q E s₁) E s)
    (he : starEach (e :: rest) env = (false, eval e env) :: starEach rest env := by rfl) (hplain : (backTo pos (starEach rest env)).any (·.1) = false := by rfl) :
    wpAny M A (callWith pos (.ref u) first (backTo pos (starEach (e :: rest) env)) []) Q E s := by
  rw [he] at h ⊢
  refine xw_callWith0 (wid := wid) (x := x) (by show (false || (backTo pos (starEach rest env)).any (·.1)) = false; rw [hplain]; rfl) ?_
  exact evalArgs_plain h
end
theorem exc_mro (self : Value) : Builtin.ObjectAttr.refuseIfOverridden self "__setattr__" = typeOf self >>= fun tp => mroOf tp >>= fun l => refuseLoop self "__setattr__" l := rfl
theorem exc_refuse (self : Value) : refuseLoop self "__setattr__" [.ref 61, .ref 48, .type "Exception", .type "BaseException", .type "object"] = pure () := by
  rw [refuseLoop_ref, refuseLoop_ref]
  exact PySem.F.store_Exception.passes self
section
variable {w : World} {A₀ : Around} {s : Shared} {base h₀ : Heap} {outer : List Env} {L : Addr} {m : Str → Option Value} {news : List (Addr × Obj)}
  {loose : List Str} {mean : ExcName → Option Value} {mg mb : Str → Option Value} {dp un : Nat} {gd : Option (List Code)} {cn : Str} {cs : Scope} {a : Addr} {ccd : Value} {cl : List (Str × Addr)} {Q E : Value → Shared → Prop}
local macro_rules | `(tactic| k_all) => `(tactic| assumption)
/-- TableFault(msg) -/
theorem tf_make (B : Below A₀ base outer h₀) (F : Fr h₀ L s.heap m) (X : (KK w).In h₀) (T : Top VW loose mean mg mb h₀) (N : News h₀ L s.heap news) (hk : cs.kind = .function) (hd : dp + 1 < recursionLimit) (hu : un + 16 < cLine) {msg : Str} {tm : Tok}
    (hret : ∀ e t D h' tk', Fr h₀ L h' m → News h₀ L h' ((e, dictExc 61 t D) :: (t, tupObj [.str msg tm]) :: news) → (∀ p ∈ news, p.1 ≠ e ∧ p.1 ≠ t) → e ≠ t → Q (.ref e) { s with heap := h', toks := tk' }) :
    wpAny (model Pr w) (ktrTop dp un gd cn cs L a ccd cl outer) (call (.ref 61) [.str msg tm]) Q E s := by
  revert B F X T N hret
  dsimp only [Pr, KK, VW]
  k_fill
  intro B F X T N hret
  have XX := X.keeps F.keep
  obtain ⟨hh, g, dr, tt, os⟩ := s
  dsimp only at *
  refine wpAny_call (xc_call PySem.F.excBase_Exception (bm := [.ref 48, .type "Exception", .type "BaseException", .type "object"]) (by decide) (by decide) (by decide) (fI := 38) (XX 61 _ rfl) (looks_findIn XX (by k_is)) (XX 38 _ rfl) rfl ?_)
  have F6 := (F.push (tupObj [.str msg tm])).push (bareExc 61 hh.objs.size)
  have N6 := (N.push F (tupObj [.str msg tm])).push (F.push _) (bareExc 61 hh.objs.size)
  rw [Heap.size_push] at N6
  have X6 := X.keeps F6.keep
  have l6 : ∀ p ∈ news, p.1 < hh.objs.size := fun p hp => Heap.lt_size (N p hp).1
  k_dflt (refine' own_callS ?k1 ?k2 ?k3 ?k4 ?k5 ?kA ?kF ?kK ?k6 ?k7 ?k8 ?k9 ?kB ?_ ?c2 ?c3 ?c4 ?c5; (case kA => exact rfl); (case kF => exact rfl); (case kK => first | exact rfl | assumption); (case k1 => k_asm); (case k2 => exact F6); (case k3 => k_asm); (case k4 => exact N6); (case k5 => k_asm); (case k6 => k_is); (case k7 => k_is); (case k8 => ktr_room); (case k9 => exact binds_K (by k_in) rfl (by k_is) rfl rfl rfl); (case c5 => decide); (case kB => exact locs rfl); (case c2 => exact rfl); (case c3 => exact rfl); (case c4 => exact rfl))
  k_whole
  intro g1 L1 h1 hX hXr F1 N1 B1 X1 T1 hlt
  dsimp only
  obtain ⟨ta, hta⟩ := fr_has F1 (fun M => ∃ t, M (Str.ofString "at") = some (Value.int (-1) t)) ⟨_, by with_unfolding_all rfl⟩
  replace F1 := fr_know3 F1 (a := Str.ofString "self") (b := Str.ofString "what") (c := Str.ofString "at") (v := .ref (hh.objs.size + 1)) (u := .str msg tm) (x := .int (-1) ta) (by with_unfolding_all rfl) (by with_unfolding_all rfl) hta
  clear hta
  have hl9 : ∀ p ∈ news, p.1 ≠ hh.objs.size + 1 ∧ p.1 ≠ hh.objs.size := fun p hp => ⟨Nat.ne_of_lt (Nat.lt_succ_of_lt (l6 p hp)), Nat.ne_of_lt (l6 p hp)⟩
  have hets : hh.objs.size + 1 ≠ hh.objs.size := Nat.succ_ne_self _
  generalize he : hh.objs.size + 1 = e at *
  generalize ht0 : hh.objs.size = t0 at *
  have I1 : InstAt h1 e (bareExc 61 t0) 61 none := ⟨(N1 _ (.head _)).1, rfl, rfl, trivial⟩
  refine ks_wpAt_execs_cons (ks_wpAt_Expr_any (ks_wpAt_MethodCall ?_) (by with_unfolding_all rfl) (by with_unfolding_all rfl))
  k_dflt (refine ks_node F1 X1 N1 T1 (by k_is) (by rfl) (by rfl) I1 (by k_is) (by rfl) (by first | rfl | decide +kernel) (by k_is) (by k_is) (by k_is) (by k_is) (by decide) (by rfl) (by rfl) (by rfl) (by rfl) (by decide +kernel) (by first | boot_by_name | rfl | kernel_rfl) ?_)
  intro so h2 F2 N2 l2
  have X2 := X1.keeps F2.keep
  have I2 : InstAt h2 e (bareExc 61 t0) 61 none := ⟨(N2 _ (.tail _ (.head _))).1, rfl, rfl, trivial⟩
  have hno : Looks (model Challenge.rw_pb0180_01.row.prog w) h2 (opaqueClassAbove (.ref 61)) none := looks_opaque X2 (by k_is)
  have hcl : clsIn (Glyph.hd.heap_39 w.params) 61 = some { name := Str.ofString "TableFault", bases := [.ref 48], mro := [.ref 61, .ref 48, .type "Exception", .type "BaseException", .type "object"], ns := 60, qualname := Str.ofString "TableFault" } := rfl
  have hsup : ks_superIn (Glyph.hd.heap_39 w.params) 61 48 "__init__" = some (some (.builtin "Exception.__init__")) := by ks_is
  have hsub : Looks (model Challenge.rw_pb0180_01.row.prog w) h2 (isInstance (.ref e) (.type "Exception")) true := I2.type.andThen (looks_mroIn X2 (by k_is))
  have heC : e ≠ 61 := ks_ne X2 I2 hcl
  have hl61 : Looks (model Challenge.rw_pb0180_01.row.prog w) h2 (mroOf (.ref 61)) [.ref 61, .ref 48, .type "Exception", .type "BaseException", .type "object"] := (looks_clsIn X2 hcl).andThen .now
  refine xs_getMethod (l := [.type "Exception", .type "BaseException", .type "object"]) (N2 _ (.head _)).1 hno hl61 rfl X2 (by unfold ks_superIn at hsup; rw [hcl] at hsup; exact hsup) hsub heC (by decide) ?_
  have F3 := F2.push (wrapObj "Exception.__init__" e)
  have N3 := News.push F2 N2 (wrapObj "Exception.__init__" e)
  have l3 : ∀ p ∈ (so, ks_superObj 48 e 61) :: (e, bareExc 61 t0) :: (t0, tupObj [.str msg tm]) :: news, p.1 < h2.objs.size := fun p hp => Heap.lt_size (N2 p hp).1
  generalize hq9 : h2.objs.size = q at *
  dsimp only
  refine xw_callWith (wid := "Exception.__init__") (x := e) ?_
  walk_at "glyph walk"
  · exact (N3 _ (.head _)).1
  have hqe : ∀ p ∈ [(q, wrapObj "Exception.__init__" e), (so, ks_superObj 48 e 61)], p.1 ≠ e := fun p hp => by
    simp only [List.mem_cons, List.not_mem_nil, or_false] at hp
    rcases hp with rfl | rfl
    · exact Nat.ne_of_gt (l3 _ (.tail _ (.head _)))
    · exact Nat.ne_of_gt (l2 _ (.head _))
  have hpe : ∀ p ∈ (t0, tupObj [.str msg tm]) :: news, p.1 ≠ e := fun p hp => by
    rcases List.mem_cons.mp hp with rfl | hp
    · exact hets.symm
    · exact (hl9 p hp).1
  refine xw_call (pre := [(q, wrapObj "Exception.__init__" e), (so, ks_superObj 48 e 61)]) F3 N3 (.head _) ((X1.keeps F3.keep) 61 _ rfl) hqe hpe fun T4 h4 F4 N4 l4 => ?_
  dsimp only
  refine _root_.PySem.wpAt_of_wpAny ?_
  walk_at "glyph walk"
  have hset : findIn (Glyph.hd.heap_39 w.params) (.ref 61) "__setattr__" = some (some (.builtin "object.__setattr__")) := by k_is
  have hT4 : ∀ p ∈ [(T4, tupObj [.str msg tm]), (q, wrapObj "Exception.__init__" e), (so, ks_superObj 48 e 61)], p.1 ≠ e := fun p hp => by
    rcases List.mem_cons.mp hp with rfl | hp
    · exact Nat.ne_of_gt (l4 (e, bareExc 61 t0) (by simp))
    · exact hqe p hp
  refine x_set1 (pre := [(T4, tupObj [.str msg tm]), (q, wrapObj "Exception.__init__" e), (so, ks_superObj 48 e 61)]) F4 X1 N4 hT4 hpe hset hcl (by decide) rfl exc_refuse (by k_is) rfl fun D h5 F5 N5 l5 => ?_
  walk_at "glyph walk"
  have hD5 : ∀ p ∈ [(T4, tupObj [.str msg tm]), (q, wrapObj "Exception.__init__" e), (so, ks_superObj 48 e 61)] ++ (e, dictExc 61 T4 D) :: (t0, tupObj [.str msg tm]) :: news, p.1 ≠ D := fun p hp => by
    rcases List.mem_append.mp hp with hp | hp
    · exact Nat.ne_of_lt (l5 p (List.mem_append_left _ hp))
    · rcases List.mem_cons.mp hp with rfl | hp
      · exact Nat.ne_of_lt (l5 (e, bareExc 61 T4) (by simp))
      · exact Nat.ne_of_lt (l5 p (List.mem_append_right _ (.tail _ hp)))
  refine x_set2 (pre := []) F5 X1 N5 (t := T4) (D := D) (by simp) (fun p hp => nomatch hp) hD5 hset hcl (by decide) rfl exc_refuse (by k_is) rfl (by rfl) rfl rfl (es := [_, _]) (n := 2) (Nat.le_of_ble_eq_true rfl) fun h6 F6' N6' => ?_
  walk_at "glyph walk"
  have FB := fr_back F6 N6 hX F6'
  have hT4n : ∀ p ∈ (e, bareExc 61 t0) :: (t0, tupObj [.str msg tm]) :: news, p.1 ≠ T4 := fun p hp => Nat.ne_of_lt (l4 p (List.mem_append_right _ hp))
  have hT4b := new_back F6 hX N6' (b := T4) (by simp; exact .inr (.inl rfl)) hT4n
  have NB : News h₀ L h6 ((e, dictExc 61 T4 D) :: (T4, tupObj [.str msg tm]) :: news) := fun p hp => by
    rcases List.mem_cons.mp hp with rfl | hp
    · exact ⟨(N6' (e, dictExc 61 T4 D) (by simp)).1, (N6 _ (.head _)).2⟩
    · rcases List.mem_cons.mp hp with rfl | hp
      · exact ⟨(N6' (T4, tupObj [.str msg tm]) (by simp)).1, hT4b.2⟩
      · exact ⟨(N6' p (by simp [hp])).1, (N6 p (.tail _ (.tail _ hp))).2⟩
  exact ⟨rfl, hret e T4 D h6 _ FB NB (fun p hp => ⟨(hl9 p hp).1, hT4n p (.tail _ (.tail _ hp))⟩) (hT4n _ (.head _))⟩
end
end
section
set_option maxHeartbeats 4000000
theorem offExc6 : True := by w_top off; trivial
section
variable {M : Model} {A : Around} {E : Value → Shared → Prop} {s' : Shared} {base g : Heap} {outer : List Env} {L e t : Addr} {m : Str → Option Value} {env : Env} {Q : Unit → Shared → Prop} {news : List (Addr × Obj)}
theorem below_push (K : Below A base outer g) {h : Heap} (F : Fr g L h m) (hf : env.frame = some L) (hk : env.scope.kind = .function) : Below (A.deeper env) base (env :: outer) h := by
  have hnew : base.get? L = none := by
    cases hq : base.get? L with
    | none => rfl
    | some o => exact absurd (Nat.lt_of_lt_of_le (Heap.lt_size (K.stays L o hq)) F.above) (Nat.lt_irrefl _)
  exact ⟨Around.frames_deeper K.stack, fun b o e => F.keep b o (K.stays b o e), .cons (by rw [hk]; decide) hf F.ns hnew (K.frames.of_keeps fun b o e _ => ⟨o, F.keep b o e, rfl⟩)⟩
/-- an exception of the ledger leaves the frame -/
theorem leave_exc {cls : Value} {oe : Obj} {vs : List Value} {ws : Array Value} (K : Below A base outer g) (F : Fr g L s'.heap m) (hf : env.frame = some L) (hk : env.scope.kind = .function) (N : News g L s'.heap ((e, oe) :: (t, tupObj vs) :: news))
    (hc : oe.cls = cls) (hd : oe.data = .fields ws) (h0 : ws[0]? = some (.ref t)) (h1 : ws[1]? = some .none) (hne : ∀ p ∈ news, p.1 ≠ e ∧ p.1 ≠ t)
    (hQ : ∀ h', RaisedK base outer e cls t vs news h' → g.UpToSlots h' → Q () { s' with heap := h' }) :
    wpAny M (A.deeper env) (leaving env (.ref e)) Q E s' := by
  have K' := below_push K F hf hk
  have ne := N _ (.head _)
  have nt := N (t, tupObj vs) (.tail _ (.head _))
  have hin : ∀ v ∈ (env :: outer), ∀ b, v.frame = some b → b ∈ e :: t :: (env :: outer).filterMap (·.frame) := fun v hv b hb => .tail _ (.tail _ (List.mem_filterMap.mpr ⟨v, hv, hb⟩))
  have gn : ∀ b, g.get? b = none → b ≠ L → b ∉ (env :: outer).filterMap (·.frame) := fun b hb hL hm => by
    obtain ⟨v, hv, hfv⟩ := List.mem_filterMap.mp hm
    rcases List.mem_cons.mp hv with rfl | hv
    · rw [hf] at hfv; exact hL (Option.some.inj hfv).symm
    · obtain ⟨o, ho, _⟩ := (K.frames.mem (List.mem_filterMap.mpr ⟨v, hv, hfv⟩)).2
      rw [hb] at ho; cases ho
  have st : base.StaysIn (hideAll s'.heap (e :: t :: (env :: outer).filterMap (·.frame))) := fun b o q => hideAll_get _ (K'.stays b o q) fun hm => by
    rcases List.mem_cons.mp hm with rfl | hm
    · have := K.stays _ _ q; rw [ne.2.2] at this; cases this
    · rcases List.mem_cons.mp hm with rfl | hm
      · have := K.stays _ _ q; rw [nt.2.2] at this; cases this
      · rw [(K'.frames.mem hm).1] at q; cases q
  have hl : ∀ q ∈ news, (hideAll s'.heap (e :: t :: (env :: outer).filterMap (·.frame))).get? q.1 = some q.2 ∧ base.get? q.1 = none := fun q hq => by
    have nq := N q (.tail _ (.tail _ hq))
    refine ⟨hideAll_get _ nq.1 fun hm => ?_, fresh_of_stays K.stays nq.2.2⟩
    rcases List.mem_cons.mp hm with z | hm
    · exact (hne q hq).1 z
    · rcases List.mem_cons.mp hm with z | hm
      · exact (hne q hq).2 z
      · exact gn _ nq.2.2 nq.2.1 hm
  subst hc
  refine wpAny_leaving_firstW (base := hideAll s'.heap (e :: t :: (env :: outer).filterMap (·.frame))) K'.stack (funFrames_hide K'.frames hin) hf ne.1 (fun b o q => of_hideAll _ q) (hideAll_none _ (.head _)) hd h1 h0 fun h' hL => ?_
  obtain ⟨k1, ⟨_, _, k2⟩, k3, k4⟩ := hL
  exact hQ h' ⟨⟨_, st, hl, ⟨k1, hideAll_none _ (.head _), k2, k3⟩, hideAll_none _ (.tail _ (.head _))⟩, Heap.TupAt.of_slots ⟨_, _, nt.1, rfl, rfl⟩ k4⟩ ((Heap.UpToSlots.of_keeps F.keep).trans k4)
end
section
variable {prog : Program} {w : World} {A : Around} {E : Value → Shared → Prop} {s : Shared} {env : Env} {K : Frag}
/-- raise with an exception of an own class -/
theorem x_raise {x : Sem Value} {Q : Flow → Shared → Prop} (hh : A.handled = none)
    (h : wpAny (model prog w) A x (fun v s₁ => ∃ e C ox oc ws, v = .ref e ∧ s₁.heap.get? e = some ox ∧ ox.cls = .ref C ∧ ox.data = .fields ws ∧ ws[1]? = some .none ∧ s₁.heap.get? C = some oc ∧ oc.cls = .type "type" ∧ Looks (model prog w) s₁.heap (isSubtype (.ref C) (.type "BaseException")) true ∧ E (.ref e) s₁) E s) :
    wpAny (model prog w) A (raiseStmt env (some x) none) Q E s := by
  unfold raiseStmt
  refine wpAny_bind (wpAny_mono h (fun v s₁ h₁ => ?_) fun _ _ x => x)
  obtain ⟨e, C, ox, oc, ws, rfl, he, hc, hd, hw, hC, hCc, hs, hE⟩ := h₁
  obtain ⟨hp, g, d, tk, os⟩ := s₁
  have hnc : ∀ c, ox.data ≠ .cls c := fun c q => by rw [hd] at q; cases q
  repeat (first | (with_reducible refine ks_wpAny_isType_inst he hnc ?_) | (with_reducible refine wpAny_loadPart_at he ?_; rw [hc]) | (with_reducible refine wpAny_loadPart_at hC ?_; rw [hCc]) | (with_reducible refine Looks.at hs ?_) | (with_reducible refine wpAny_field he hd hw ?_) | wp_step)
  exact wpAny_raiseNew_none hh hE
end
end
section
set_option maxHeartbeats 8000000
theorem offWs : True := by w_top off; trivial
local macro_rules | `(tactic| k_all) => `(tactic| assumption)
theorem fr_ground {h₀ h g : Heap} {L : Addr} {m : Str → Option Value} {news : List (Addr × Obj)} (F : Fr h₀ L h m) (N : News h₀ L h news) (hX : Ext (news.map (·.1)) h g) : Fr h₀ L g m := by
  refine ⟨F.ns.at' fun o e => hX _ o e fun hm => ?_, fun b o e => hX b o (F.keep b o e) fun hm => ?_, F.above⟩
  · obtain ⟨p, hp, q⟩ := List.mem_map.mp hm
    exact (N p hp).2.1 q
  · obtain ⟨p, hp, q⟩ := List.mem_map.mp hm
    have := (N p hp).2.2
    rw [q, e] at this; cases this
section
variable {w : World} {A₀ : Around} {s : Shared} {base h₀ : Heap} {outer : List Env} {L : Addr} {m : Str → Option Value} {rest : List (Addr × Obj)}
  {loose : List Str} {mean : ExcName → Option Value} {mg mb : Str → Option Value} {dp un : Nat} {gd : Option (List Code)} {cn : Str} {cs : Scope} {a : Addr} {ccd : Value} {cl : List (Str × Addr)} {Q E : Value → Shared → Prop}
/-- the ledger of a Single -/
abbrev tabLed (w : World) (x dx d : Addr) (tk : Tok) (o : Obj) (rest : List (Addr × Obj)) : List (Addr × Obj) := (x, instObj 245 dx) :: (dx, oneField w (Str.ofString "mapping") tk (.ref d)) :: (d, o) :: rest
/-- what write_single gives -/
def dueF (ps : List (Int × Int)) (f : Int) : List Int := match deltaOf ps with
  | none => dueAll ps
  | some δ => if f = 2 then dueAll ps else dueOne ps δ
theorem ext_keep {T : List Addr} {h₀ h h' : Heap} {L : Addr} {m : Str → Option Value} {news : List (Addr × Obj)} (F : Fr h₀ L h m) (N : News h₀ L h news) (hX : Ext T h h') (ht : ∀ b ∈ T, h₀.get? b = none ∧ b ≠ L) (hn : ∀ p ∈ news, p.1 ∉ T) : Fr h₀ L h' m ∧ News h₀ L h' news := by
  refine ⟨⟨F.ns.at' fun o e => hX _ o e fun hm => (ht _ hm).2 rfl, fun b o e => hX b o (F.keep b o e) fun hm => ?_, F.above⟩, fun p hp => ⟨hX _ _ (N p hp).1 (hn p hp), (N p hp).2⟩⟩
  have := (ht _ hm).1
  rw [e] at this; cases this
theorem fresh_off {h₀ h : Heap} {L b : Addr} {m : Str → Option Value} (F : Fr h₀ L h m) (hn : h.get? b = none) : h₀.get? b = none ∧ b ≠ L := by
  refine ⟨?_, fun q => ?_⟩
  · cases e : h₀.get? b with
    | none => rfl
    | some o => have := F.keep b o e; rw [hn] at this; cases this
  · obtain ⟨oL, _, _, ho, _⟩ := F.ns
    rw [← q, hn] at ho; cases ho
theorem delta_range {ps : List (Int × Int)} {δ : Int} (h : deltaOf ps = some δ) : 0 ≤ δ ∧ δ < 65536 := by
  cases ps with
  | nil => cases h; decide
  | cons p r =>
    simp only [deltaOf] at h
    split at h
    · cases h
      unfold dl
      omega
    · cases h
theorem ws_use (x dx d : Addr) (tkt : Tok) (o : Obj) (kvs : List (Int × Value)) (f : Int) (tf : Tok) (ps : List (Int × Int)) (hlen : ps.length ≤ 7) (hr : ∀ p ∈ ps, 0 ≤ p.1 ∧ p.1 < 65536 ∧ 0 ≤ p.2 ∧ p.2 < 65536)
    (B : Below A₀ base outer h₀) (F : Fr h₀ L s.heap m) (X : (KK w).In h₀) (T : Top VW loose mean mg mb h₀) (N : News h₀ L s.heap (tabLed w x dx d tkt o rest)) (ho : DObj w o kvs) (hps : Paired KvIs kvs ps) (lo : (d == sysModules) = false)
    (hk : cs.kind = .function) (hd : dp + 6 < recursionLimit) (hu : un + 96 < cLine)
    (hret : ∀ v h' tk', ¬ (f = 1 ∧ deltaOf ps = none) → Fr h₀ L h' m → News h₀ L h' (tabLed w x dx d tkt o rest) → (∃ t, v = .bytes (toB (dueF ps f)) t) → Q v { s with heap := h', toks := tk' })
    (herr : ∀ e t vs g h' tk', f = 1 → deltaOf ps = none → Fr h₀ L g m → g.UpToSlots h' → RaisedK base (envX cn cs L a ccd cl :: outer) e (.ref 61) t vs (tabLed w x dx d tkt o rest) h' → E (.ref e) { s with heap := h', toks := tk' }) :
    wpG (model Pr w) (ktrTop dp un gd cn cs L a ccd cl outer) (call (.ref 262) [.ref x, .int f tf]) Q E s := by
  revert B F X T N hret herr
  dsimp only [Pr, KK, VW]
  k_fill
  intro B F X T N hret herr
  dsimp only [tabLed] at N
  have X9 := X.keeps F.keep
  refine wpG_call ?_
  k_dflt (refine' own_callGC ?k1 ?k2 ?k3 ?k4 ?k5 ?kA ?kF ?kK ?k6 ?k7 ?k8 ?k9 ?kB ?kD ?_ ?c2 ?c3 ?c4; (case kA => exact rfl); (case kF => exact rfl); (case kK => first | exact rfl | assumption); (case k1 => k_asm); (case k2 => k_asm); (case k3 => k_asm); (case k4 => k_asm); (case k5 => k_asm); (case k6 => k_is); (case k7 => k_is); (case k8 => ktr_room); (case k9 => exact binds_K (by k_in) rfl (by k_is) rfl rfl rfl); (case kB => exact rfl); (case kD => decide); (case c2 => exact rfl); (case c3 => exact rfl); (case c4 => exact rfl))
  k_whole
  intro g1 L1 h1 tk1 cells hX hXr F1 N1 Y B1 X1 T1 hlt
  k_cells Y
  (try simp only [List.cons_append, List.nil_append] at N1)
  (try dsimp only)
  rename_i oc hoc
  refine post_varG fun Q1 hQ1 => ?_
  replace F1 := fr_know2 F1 (a := Str.ofString "table") (b := Str.ofString "form") (v := .ref x) (u := .int f tf) (by with_unfolding_all rfl) (by with_unfolding_all rfl)
  have mapAt : ∀ {g' : Heap} {L' : Addr} {h' : Heap} {news : List (Addr × Obj)}, News g' L' h' news → (d, o) ∈ news → Maps w h' d ps := fun N' hm => ⟨lo, kvs, of_dobj (N' _ hm).1 ho, hps⟩
  have hcl : ∀ p ∈ (x, instObj 245 dx) :: (dx, oneField w (Str.ofString "mapping") tkt (.ref d)) :: (d, o) :: rest, p.1 ≠ L1 + 1 := fun p hp => Nat.ne_of_lt (Nat.lt_succ_of_lt (hlt p hp))
  refine wpG_execs_cons (wpG_any ?_)
  walk_at "glyph walk"
  rename_i h2 oc2 F2 N2 hoc2
  refine wpG_execs_cons (wpG_any ?_)
  walk_at "glyph walk"
  (refine' ct_use (ct_delta w d ps) ?k1x62 ?k2x62 ?k3x62 ?k4x62 ?k5x62 ?kKx62 ?kPx62 ?kdx62 ?kux62 ?_; (case k1x62 => k_asm); (case k2x62 => k_asm); (case k3x62 => k_asm); (case k4x62 => k_asm); (case k5x62 => k_asm); (case kKx62 => first | exact rfl | assumption); (case kdx62 => (first | exact room0 (by assumption) | exact room2 (by assumption) (by decide) | ktr_room)); (case kux62 => (first | exact units2 (by assumption) (by decide) | ktr_units)); (try (case kPx62 => trivial)))
  · exact mapAt N2 (.tail _ (.tail _ (.tail _ (.head _))))
  intro dv h3 tk3 kp3 F3 N3 hdv
  walk_at "glyph walk"
  rename_i F4 N4
  by_cases hbad : f = 1 ∧ deltaOf ps = none
  · obtain ⟨hf1, hdn⟩ := hbad
    rcases hdv with ⟨_, rfl⟩ | ⟨δ, tδ, hdn', rfl⟩
    · subst hf1
      refine wpG_execs_cons (wpG_If_b true (fun Q' hq => ?_) fun tk5 => ?_)
      · walk_at "glyph walk"
        exact hq _
      · dsimp only [if_true]
        refine wpG_execs_cons (wpG_any ?_)
        rw [arm_exec_Raise]
        refine wpAny_bind (wpAny_standAt ?_)
        refine x_raise rfl ?_
        refine wpAny_bind ?_
        walk_at "glyph walk"
        refine tf_make B1 (by k_asm) X1 T1 N4 rfl (by first | exact room2 (by assumption) (by decide) | ktr_room) (by first | exact units2 (by assumption) (by decide) | ktr_units) fun e6 t6 D6 h6 tk6 F6 N6 hne6 het6 => ?_
        walk_at "glyph walk"
        refine wpAny_bind (wpAny_standAt (wpAny_pure ⟨e6, 61, dictExc 61 t6 D6, _, _, rfl, (N6 _ (.head _)).1, rfl, rfl, rfl, (X1.keeps F6.keep) 61 _ rfl, rfl, looks_mroIn (X1.keeps F6.keep) (by k_is), ?_⟩))
        have N7 : News g1 L1 h6 ((e6, dictExc 61 t6 D6) :: (t6, tupObj [Value.str (Str.ofString "no one delta for all glyphs") tk5]) :: (x, instObj 245 dx) :: (dx, oneField w (Str.ofString "mapping") tkt (.ref d)) :: (d, o) :: rest) := fun p hp => N6 p (by
          rcases List.mem_cons.mp hp with rfl | hp
          · exact .head _
          · rcases List.mem_cons.mp hp with rfl | hp
            · exact .tail _ (.head _)
            · exact .tail _ (.tail _ (.tail _ hp)))
        refine leave_exc (cls := .ref 61) B1 F6 rfl rfl N7 rfl rfl rfl rfl (fun p hp => hne6 p (.tail _ hp)) fun h' R' U' => ?_
        exact herr e6 t6 _ g1 h' _ rfl hdn (fr_ground F N hX) U' R'
    · rw [hdn] at hdn'; cases hdn'
  · refine wpG_execs_cons (wpG_If_b false (fun Q' hq => ?_) fun tk5 => ?_)
    · rcases hdv with ⟨hdn, rfl⟩ | ⟨δ, tδ, hdn, rfl⟩
      · have hf1 : f ≠ 1 := fun e => hbad ⟨e, hdn⟩
        walk_at "glyph walk"
        all_goals first | exact hq _ | exact absurd (by assumption) hf1
      · walk_at "glyph walk"
        all_goals exact hq _
    · dsimp only
      refine wpG_execs_nil ?_
      rename_i hA
      have hk9 := keysL_len ps
      refine wpG_execs_cons (wpG_Assign_Name (CallG_Name ?_) (by with_unfolding_all rfl))
      walk_at "glyph walk"
      refine callWithG_K (K := Glyph.hd.heap_39 w.params) (by k_is) ?_
      walk_at "glyph walk"
      (refine' ct_use (ct_covof w d ps (by omega)) ?k1x63 ?k2x63 ?k3x63 ?k4x63 ?k5x63 ?kKx63 ?kPx63 ?kdx63 ?kux63 ?_; (case k1x63 => k_asm); (case k2x63 => k_asm); (case k3x63 => k_asm); (case k4x63 => k_asm); (case k5x63 => k_asm); (case kKx63 => first | exact rfl | assumption); (case kdx63 => (first | exact room0 (by assumption) | exact room2 (by assumption) (by decide) | ktr_room)); (case kux63 => (first | exact units2 (by assumption) (by decide) | ktr_units)); (try (case kPx63 => trivial)))
      · exact mapAt N4 (.tail _ (.tail _ (.tail _ (.head _))))
      intro cv h5 tk5' kp5 F5 N5 hcov
      obtain ⟨x', dx', T', vs, tkc, rfl, hx'n, hdx'n, hT'n, hx', hdx', hT', hi', hlt', hlt2'⟩ := hcov
      walk_at "glyph walk"
      have hT3 : ∀ b ∈ [x', dx', T'], g1.get? b = none ∧ b ≠ L1 := fun b hb => by
        simp only [List.mem_cons, List.not_mem_nil, or_false] at hb
        rcases hb with rfl | rfl | rfl
        · exact fresh_off F4 hx'n
        · exact fresh_off F4 hdx'n
        · exact fresh_off F4 hT'n
      have hrk : ∀ g ∈ keysL ps, 0 ≤ g ∧ g < 65536 := fun g hg => by
        obtain ⟨p, hp, rfl⟩ := List.mem_map.mp (keysL_mem hg)
        exact ⟨(hr p hp).1, (hr p hp).2.1⟩
      refine ct_wcov w x' dx' T' tkc vs (keysL ps) hi' (by omega) hrk _ _ _ _ _ _ _ _ _ _ _ _ _ _ _ _ _ _ _ _ _ B1 (by k_asm) X1 T1 rfl hT3 ⟨hx', hdx', hT', hlt', hlt2'⟩ (by first | exact room2 (by assumption) (by decide) | ktr_room) (by first | exact units2 (by assumption) (by decide) | ktr_units) ?_ (fun _ _ _ _ q => q.elim)
      rintro v h6 tk6 hX6 ⟨tb, rfl⟩
      have hn5 : ∀ p ∈ (L1 + 1, oc2) :: (x, instObj 245 dx) :: (dx, oneField w (Str.ofString "mapping") tkt (.ref d)) :: (d, o) :: rest, p.1 ∉ [x', dx', T'] := fun p hp hm => by
        have := (N4 p hp).1
        simp only [List.mem_cons, List.not_mem_nil, or_false] at hm
        rcases hm with e | e | e <;> rw [e] at this
        · rw [hx'n] at this; cases this
        · rw [hdx'n] at this; cases this
        · rw [hT'n] at this; cases this
      obtain ⟨F6, N6⟩ := ext_keep F5 N5 hX6 hT3 hn5
      clear hX6 hx'n hdx'n hT'n hx' hdx' hT'
      walk_at "glyph walk"
      rename_i F7 N7
      dsimp only
      refine wpG_execs_cons (wpG_Assign_Name (CallG_Name ?_) (by with_unfolding_all rfl))
      walk_at "glyph walk"
      refine callWithG_K0 (K := Glyph.hd.heap_39 w.params) (X1.keeps (Fr.keep (by k_asm))) (by k_is) ?_
      refine out_make B1 (by k_asm) X1 T1 N7 rfl (by first | exact room2 (by assumption) (by decide) | ktr_room) (by first | exact units2 (by assumption) (by decide) | ktr_units) fun o9 od9 B9 tk9 h9 tk9' F9 N9 l9 l9' l9'' => ?_
      walk_at "glyph walk"
      rename_i F10 N10
      dsimp only
      have hoff : ∀ p ∈ (L1 + 1, oc2) :: (x, instObj 245 dx) :: (dx, oneField w (Str.ofString "mapping") tkt (.ref d)) :: (d, o) :: rest, p.1 ≠ o9 ∧ p.1 ≠ od9 ∧ p.1 ≠ B9 := fun p hp =>
        ⟨Nat.ne_of_lt (Nat.lt_trans (l9 p hp).1 l9'), Nat.ne_of_lt (l9 p hp).1, Nat.ne_of_lt (l9 p hp).2⟩
      by_cases hall : f = 2 ∨ deltaOf ps = none
      · refine wpG_execs_cons (wpG_If_b true (fun Q' hq => ?_) fun tk11 => ?_)
        · rcases hdv with ⟨hdn, rfl⟩ | ⟨δ, tδ, hdn, rfl⟩
          · walk_at "glyph walk"
            all_goals exact hq _
          · have hf2 : f = 2 := hall.resolve_right (by rw [hdn]; intro z; cases z)
            subst hf2
            walk_at "glyph walk"
            exact hq _
        · dsimp only
          rename_i hB
          have hcl9 := coverL_len (gs := keysL ps) (by omega)
          refine wpG_execs_cons (wpG_any (comp_vals_assign (h₀ := g1) (cl := [(Str.ofString "mapping", L1 + 1)]) (fun v y => ∃ n t t', v = .int n t ∧ y = .int (look ps n) t') (by with_unfolding_all rfl) (by with_unfolding_all rfl) (by decide) rfl (by decide) rfl (by with_unfolding_all rfl) (by with_unfolding_all rfl) ?_ (by intro _; with_unfolding_all rfl)))
          walk_at "glyph walk"
          refine sorted_map (mapAt N10 (.tail _ (.tail _ (.tail _ (.tail _ (.tail _ (.tail _ (.head _)))))))) rfl F10 N10 (by omega) fun S vs2 c h12 tk12 F12 N12 l12 hi12 => ?_
          have hvl2 := hi12.length
          refine ⟨[S], vs2.toArray.size, _, _, _, rfl, iter_list (listOf_is N12 (.head _)), ?_, ?_, F12, N12, ?_, ?_, ?_⟩
          · exact fun q => (N12 _ (.head _)).2.1 (List.mem_singleton.mp q).symm
          · refine Nat.le_trans (?_ : _ ≤ 1000) (by size_fits)
            rw [List.size_toArray, hvl2]
            show (keysL ps).length ≤ 1000
            omega
          · intro b hb
            rw [List.mem_singleton.mp hb]
            exact ⟨_, (N12 _ (.head _)).1⟩
          · intro C' i x' s₃ m₃ E' hC' hP' hn' hm' hk'
            obtain ⟨n, tn, hnj, rfl⟩ := ints_at hi12 (by simpa using hP')
            have hnk : n ∈ ps.map (·.1) := keysL_mem (List.mem_of_getElem? hnj)
            walk_at "glyph walkS"
            rename_i cF cN cE
            refine sub_map (mapAt cN (.tail _ (.tail _ (.tail _ (.tail _ (.tail _ (.tail _ (.tail _ (.head _))))))))) hnk fun t' tk' => ?_
            exact ⟨⟨n, tn, t', rfl, rfl⟩, _, _, rfl, fun _ _ e => e⟩
          · intro vs' ys hpr hlen2 hP2 D5 h5 tk5 k5 F5 N5 hD5
            replace F5 : Fr g1 L1 h5 _ := F5
            replace N5 : News g1 L1 h5 _ := N5
            have hyi : IntsAre ys ((keysL ps).map (look ps)) := by
              refine ints_of (by rw [← hpr.length, hlen2, List.size_toArray, hvl2, List.length_map]) fun j v n hv hn => ?_
              obtain ⟨v0, hv0, n0, t1, t2, rfl, rfl⟩ := paired_at' hpr hv
              obtain ⟨n', t3, hn', e⟩ := ints_at hi12 (by simpa using hP2 j _ hv0)
              cases e
              rw [List.getElem?_map, hn'] at hn
              cases hn
              exact ⟨t2, rfl⟩
            have hyl : ys.length = ps.length := by rw [hyi.length, List.length_map, hk9]
            have hyr : ∀ n ∈ (keysL ps).map (look ps), 0 ≤ n ∧ n < 65536 := fun n hn => by
              obtain ⟨g, hg, rfl⟩ := List.mem_map.mp hn
              obtain ⟨p, hp, rfl⟩ := List.mem_map.mp (keysL_mem hg)
              rw [look_self (mapAt N (.tail _ (.tail _ (.head _)))).nodup hp]
              exact ⟨(hr p hp).2.2.1, (hr p hp).2.2.2⟩
            dsimp only
            have N6 : News g1 L1 h5 (outLed w o9 od9 B9 tk9 #[] ((D5, PySem.W.listOf ys.toArray k5) :: (L1 + 1, oc2) :: (x, instObj 245 dx) :: (dx, oneField w (Str.ofString "mapping") tkt (.ref d)) :: (d, o) :: rest)) := fun p hp => N5 p (by
              simp only [outLed, List.mem_cons] at hp ⊢
              rcases hp with hp | hp | hp | hp | hp
              · exact .inr (.inr (.inl hp))
              · exact .inr (.inr (.inr (.inl hp)))
              · exact .inr (.inr (.inr (.inr (.inl hp))))
              · exact .inl hp
              · exact .inr (.inr (.inr (.inr (.inr hp)))))
            have hnD : D5 ≠ o9 ∧ D5 ≠ od9 ∧ D5 ≠ B9 := by
              have z1 := (N12 (o9, instObj 153 od9) (by simp)).1
              have z2 := (N12 (od9, oneField w (Str.ofString "made") tk9 (.ref B9)) (by simp)).1
              have z3 := (N12 (B9, baObj #[]) (by simp)).1
              refine ⟨fun q => ?_, fun q => ?_, fun q => ?_⟩
              · rw [← q] at z1; exact absurd (hD5.symm.trans z1) (by simp)
              · rw [← q] at z2; exact absurd (hD5.symm.trans z2) (by simp)
              · rw [← q] at z3; exact absurd (hD5.symm.trans z3) (by simp)
            have hoff2 : ∀ p ∈ (D5, PySem.W.listOf ys.toArray k5) :: (L1 + 1, oc2) :: (x, instObj 245 dx) :: (dx, oneField w (Str.ofString "mapping") tkt (.ref d)) :: (d, o) :: rest, p.1 ≠ o9 ∧ p.1 ≠ od9 ∧ p.1 ≠ B9 := fun p hp => by
              rcases List.mem_cons.mp hp with rfl | hp
              · exact hnD
              · exact hoff p hp
            clear N5 N12 hD5 F12
            dsimp only [outLed] at N6
            (refine wpG_execs_cons (wpG_Expr (MethodCallG ?_) (by with_unfolding_all rfl) (by with_unfolding_all rfl)); walk_at "glyph walk"; refine callWithG_K (K := Glyph.hd.heap_39 (w).params) (by k_is) ?_; walk_at "glyph walk")
            refine outG_use (Ex := fun _ => True) (ctG_pre (ct_u16 w o9 od9 B9 tk9 #[] 2 _ (by decide) (by decide)) fun _ h => h.1) B1 (by k_asm) X1 T1 N6 hoff2 l9' l9'' rfl trivial (by first | exact room2 (by assumption) (by decide) | ktr_room) (by first | exact units2 (by assumption) (by decide) | ktr_units) fun h12 tk12 F12 N12 kp12 => ?_
            have hb2 : (#[] ++ toB (oct2 2) : Array UInt8) = toB (oct2 2) := by rw [show (#[] : Array UInt8) = toB [] from rfl, toB_append]; rfl
            rw [hb2] at N12
            dsimp only [outLed] at N12
            (refine wpG_execs_cons (wpG_Expr (MethodCallG ?_) (by with_unfolding_all rfl) (by with_unfolding_all rfl)); walk_at "glyph walk"; refine callWithG_K (K := Glyph.hd.heap_39 (w).params) (by k_is) ?_; walk_at "glyph walk")
            have hll : ((keysL ps).map (look ps)).length = (keysL ps).length := List.length_map _
            refine outG_use (Ex := fun _ => True) (ctG_pre (ct_u16 w o9 od9 B9 tk9 (toB (oct2 2)) (6 + 2 * (((keysL ps).map (look ps)).length : Int)) _ (by omega) (by rw [toB_size]; decide)) fun _ h => h.1) B1 (by k_asm) X1 T1 N12 hoff2 l9' l9'' rfl trivial (by first | exact room2 (by assumption) (by decide) | ktr_room) (by first | exact units2 (by assumption) (by decide) | ktr_units) fun h13 tk13 F13 N13 kp13 => ?_
            rw [toB_append] at N13
            dsimp only [outLed] at N13
            (refine wpG_execs_cons (wpG_Expr (MethodCallG ?_) (by with_unfolding_all rfl) (by with_unfolding_all rfl)); walk_at "glyph walk"; refine callWithG_K (K := Glyph.hd.heap_39 (w).params) (by k_is) ?_; walk_at "glyph walk")
            refine outG_use (Ex := fun _ => True) (ctG_pre (ct_u16 w o9 od9 B9 tk9 _ (((keysL ps).map (look ps)).length : Int) _ (by omega) (by rw [toB_size]; simp only [List.length_append, oct2, List.length_cons, List.length_nil]; omega)) fun _ h => h.1) B1 (by k_asm) X1 T1 N13 hoff2 l9' l9'' rfl trivial (by first | exact room2 (by assumption) (by decide) | ktr_room) (by first | exact units2 (by assumption) (by decide) | ktr_units) fun h14 tk14 F14 N14 kp14 => ?_
            rw [toB_append] at N14
            dsimp only [outLed] at N14
            (refine wpG_execs_cons (wpG_Expr (MethodCallG ?_) (by with_unfolding_all rfl) (by with_unfolding_all rfl)); walk_at "glyph walk"; refine callWithG_K (K := Glyph.hd.heap_39 (w).params) (by k_is) ?_; walk_at "glyph walk")
            refine outG_use (Ex := fun h => h.IsList D5 ys.toArray ∧ D5 ≠ o9 ∧ D5 ≠ od9 ∧ D5 ≠ B9) (ct_rows w o9 od9 B9 tk9 _ D5 ys _ hyi (by omega) hyr (by rw [toB_size]; simp only [List.length_append, oct2, List.length_cons, List.length_nil]; omega)) B1 (by k_asm) X1 T1 N14 hoff2 l9' l9'' rfl ⟨listOf_is N14 (.tail _ (.tail _ (.tail _ (.head _)))), hnD⟩ (by first | exact room2 (by assumption) (by decide) | ktr_room) (by first | exact units2 (by assumption) (by decide) | ktr_units) fun h15 tk15 F15 N15 kp15 => ?_
            rw [toB_append] at N15
            dsimp only [outLed] at N15
            refine wpG_execs_nil ?_
            dsimp only
            have hfl : (((keysL ps).map (look ps)).flatMap oct2).length = 2 * ps.length := by rw [flat_len, hll, hk9]
            (refine wpG_execs_cons (wpG_Expr (MethodCallG ?_) (by with_unfolding_all rfl) (by with_unfolding_all rfl)); walk_at "glyph walk"; refine callWithG_K (K := Glyph.hd.heap_39 (w).params) (by k_is) ?_; walk_at "glyph walk")
            refine outG_use (Ex := fun _ => True) (ctG_pre (ct_add w o9 od9 B9 tk9 _ (toB (coverL (keysL ps))) _ (by rw [toB_size, toB_size]; simp only [List.length_append, oct2, List.length_cons, List.length_nil]; omega)) fun _ h => h.1) B1 (by k_asm) X1 T1 N15 hoff2 l9' l9'' rfl trivial (by first | exact room2 (by assumption) (by decide) | ktr_room) (by first | exact units2 (by assumption) (by decide) | ktr_units) fun h16 tk16 F16 N16 kp16 => ?_
            rw [toB_append] at N16
            dsimp only [outLed] at N16
            refine wpG_execs_cons (wpG_any ?_)
            walk_at "glyph walk"
            refine octets_use (by rw [toB_size]; simp only [List.length_append, oct2, List.length_cons, List.length_nil]; omega) B1 (by k_asm) X1 T1 N16 l9' l9'' rfl (by first | exact room2 (by assumption) (by decide) | ktr_room) (by first | exact units2 (by assumption) (by decide) | ktr_units) fun t h' tk' F' kp' => ?_
            have N' : News g1 L1 h' ((x, instObj 245 dx) :: (dx, oneField w (Str.ofString "mapping") tkt (.ref d)) :: (d, o) :: rest) := fun p hp =>
              have q := N16 p (.tail _ (.tail _ (.tail _ (.tail _ (.tail _ hp)))))
              have z := hoff p (.tail _ hp)
              ⟨kp' _ _ q.1 z.1 z.2.1 z.2.2, q.2⟩
            refine hQ1 (.ret _) _ (hret _ _ _ hbad (fr_back F N hX F') (news_back N N' (same_addrs rfl)) ⟨t, ?_⟩)
            have e1 : dueF ps f = dueAll ps := by
              unfold dueF
              cases hdn : deltaOf ps with
              | none => rfl
              | some δ =>
                have hf2 : f = 2 := hall.resolve_right (by rw [hdn]; intro z; cases z)
                dsimp only
                rw [if_pos hf2]
            rw [e1]
            unfold dueAll
            rw [List.flatMap_map, hll]
      · refine wpG_execs_cons (wpG_If_b false (fun Q' hq => ?_) fun tk11 => ?_)
        · rcases hdv with ⟨hdn, rfl⟩ | ⟨δ, tδ, hdn, rfl⟩
          · exact absurd (.inr hdn) hall
          · have hf2 : f ≠ 2 := fun z => hall (.inl z)
            walk_at "glyph walk"
            all_goals first | exact hq _ | exact absurd (by assumption) hf2
        · dsimp only
          rename_i hB
          have hcl9 := coverL_len (gs := keysL ps) (by omega)
          obtain ⟨δ, tδ, hdn, rfl⟩ : ∃ δ t, deltaOf ps = some δ ∧ dv = .int δ t := by
            rcases hdv with ⟨hdn, rfl⟩ | ⟨δ, tδ, hdn, rfl⟩
            · exact absurd (.inr hdn) hall
            · exact ⟨δ, tδ, hdn, rfl⟩
          (refine wpG_execs_cons (wpG_Expr (MethodCallG ?_) (by with_unfolding_all rfl) (by with_unfolding_all rfl)); walk_at "glyph walk"; refine callWithG_K (K := Glyph.hd.heap_39 (w).params) (by k_is) ?_; walk_at "glyph walk")
          refine outG_use (Ex := fun _ => True) (ctG_pre (ct_u16 w o9 od9 B9 tk9 #[] 1 _ (by decide) (by decide)) fun _ h => h.1) B1 (by k_asm) X1 T1 N10 hoff l9' l9'' rfl trivial (by first | exact room2 (by assumption) (by decide) | ktr_room) (by first | exact units2 (by assumption) (by decide) | ktr_units) fun h12 tk12 F12 N12 kp12 => ?_
          have hb2 : (#[] ++ toB (oct2 1) : Array UInt8) = toB (oct2 1) := by rw [show (#[] : Array UInt8) = toB [] from rfl, toB_append]; rfl
          rw [hb2] at N12
          dsimp only [outLed] at N12
          (refine wpG_execs_cons (wpG_Expr (MethodCallG ?_) (by with_unfolding_all rfl) (by with_unfolding_all rfl)); walk_at "glyph walk"; refine callWithG_K (K := Glyph.hd.heap_39 (w).params) (by k_is) ?_; walk_at "glyph walk")
          refine outG_use (Ex := fun _ => True) (ctG_pre (ct_u16 w o9 od9 B9 tk9 (toB (oct2 1)) 6 _ (by decide) (by rw [toB_size]; decide)) fun _ h => h.1) B1 (by k_asm) X1 T1 N12 hoff l9' l9'' rfl trivial (by first | exact room2 (by assumption) (by decide) | ktr_room) (by first | exact units2 (by assumption) (by decide) | ktr_units) fun h13 tk13 F13 N13 kp13 => ?_
          rw [toB_append] at N13
          dsimp only [outLed] at N13
          (refine wpG_execs_cons (wpG_Expr (MethodCallG ?_) (by with_unfolding_all rfl) (by with_unfolding_all rfl)); walk_at "glyph walk"; refine callWithG_K (K := Glyph.hd.heap_39 (w).params) (by k_is) ?_; walk_at "glyph walk")
          refine outG_use (Ex := fun _ => True) (ctG_pre (ct_u16 w o9 od9 B9 tk9 _ δ _ (delta_range hdn) (by rw [toB_size]; decide)) fun _ h => h.1) B1 (by k_asm) X1 T1 N13 hoff l9' l9'' rfl trivial (by first | exact room2 (by assumption) (by decide) | ktr_room) (by first | exact units2 (by assumption) (by decide) | ktr_units) fun h14 tk14 F14 N14 kp14 => ?_
          rw [toB_append] at N14
          dsimp only [outLed] at N14
          refine wpG_execs_nil ?_
          dsimp only
          (refine wpG_execs_cons (wpG_Expr (MethodCallG ?_) (by with_unfolding_all rfl) (by with_unfolding_all rfl)); walk_at "glyph walk"; refine callWithG_K (K := Glyph.hd.heap_39 (w).params) (by k_is) ?_; walk_at "glyph walk")
          refine outG_use (Ex := fun _ => True) (ctG_pre (ct_add w o9 od9 B9 tk9 _ (toB (coverL (keysL ps))) _ (by rw [toB_size, toB_size]; simp only [List.length_append, oct2, List.length_cons, List.length_nil]; omega)) fun _ h => h.1) B1 (by k_asm) X1 T1 N14 hoff l9' l9'' rfl trivial (by first | exact room2 (by assumption) (by decide) | ktr_room) (by first | exact units2 (by assumption) (by decide) | ktr_units) fun h15 tk15 F15 N15 kp15 => ?_
          rw [toB_append] at N15
          dsimp only [outLed] at N15
          refine wpG_execs_cons (wpG_any ?_)
          walk_at "glyph walk"
          refine octets_use (by rw [toB_size]; simp only [List.length_append, oct2, List.length_cons, List.length_nil]; omega) B1 (by k_asm) X1 T1 N15 l9' l9'' rfl (by first | exact room2 (by assumption) (by decide) | ktr_room) (by first | exact units2 (by assumption) (by decide) | ktr_units) fun t h' tk' F' kp' => ?_
          have N' : News g1 L1 h' ((x, instObj 245 dx) :: (dx, oneField w (Str.ofString "mapping") tkt (.ref d)) :: (d, o) :: rest) := fun p hp =>
            have q := N15 p (.tail _ (.tail _ (.tail _ (.tail _ hp))))
            have z := hoff p (.tail _ hp)
            ⟨kp' _ _ q.1 z.1 z.2.1 z.2.2, q.2⟩
          refine hQ1 (.ret _) _ (hret _ _ _ hbad (fr_back F N hX F') (news_back N N' (same_addrs rfl)) ⟨t, ?_⟩)
          have hf2 : f ≠ 2 := fun z => hall (.inl z)
          unfold dueF
          rw [hdn]
          dsimp only
          rw [if_neg hf2]
          rfl
end
end
section
theorem offSet1 : True := by w_top off; trivial
open SetTable
/-- rising places -/
def Up (xs : Array Nat) : Prop := ∀ i j : Nat, i < j → j < xs.size → xs.getD i 0 < xs.getD j 0
theorem Up.le {xs : Array Nat} (u : Up xs) {i j : Nat} (h : i ≤ j) (hj : j < xs.size) : xs.getD i 0 ≤ xs.getD j 0 := by
  rcases Nat.lt_or_eq_of_le h with h | rfl
  · exact Nat.le_of_lt (u i j h hj)
  · exact Nat.le_refl _
theorem getD_of {xs : Array Nat} {i : Nat} (h : i < xs.size) (d d' : Nat) : xs.getD i d = xs.getD i d' := by
  simp [Array.getD, h]
theorem go_succ (xs : Array Nat) (j fuel lo hi : Nat) (h : lo < hi) : below.go xs j (fuel + 1) lo hi = if xs.getD ((lo + hi) / 2) j < j then below.go xs j fuel ((lo + hi) / 2 + 1) hi else below.go xs j fuel lo ((lo + hi) / 2) := by
  rw [below.go, if_pos h]
theorem go_end (xs : Array Nat) (j fuel lo hi : Nat) (h : ¬ lo < hi) : below.go xs j (fuel + 1) lo hi = lo := by
  rw [below.go, if_neg h]
theorem below_go {xs : Array Nat} (u : Up xs) (j : Nat) : ∀ (fuel lo hi : Nat), hi ≤ xs.size → lo ≤ hi → hi - lo ≤ fuel → (∀ k, k < lo → xs.getD k 0 < j) → (∀ k, hi ≤ k → k < xs.size → j ≤ xs.getD k 0) →
    (below.go xs j fuel lo hi) ≤ xs.size ∧ (∀ k, k < below.go xs j fuel lo hi → xs.getD k 0 < j) ∧ ∀ k, below.go xs j fuel lo hi ≤ k → k < xs.size → j ≤ xs.getD k 0
  | 0, lo, hi, h1, h2, h3, h4, h5 => by
    have : lo = hi := by omega
    subst this
    exact ⟨h1, h4, h5⟩
  | fuel + 1, lo, hi, h1, h2, h3, h4, h5 => by
    by_cases hlt : lo < hi
    · have hm : (lo + hi) / 2 < xs.size := by omega
      rw [go_succ _ _ _ _ _ hlt, getD_of hm j 0]
      by_cases hc : xs.getD ((lo + hi) / 2) 0 < j
      · rw [if_pos hc]
        refine below_go u j fuel ((lo + hi) / 2 + 1) hi h1 (by omega) (by omega) (fun k hk => ?_) h5
        exact Nat.lt_of_le_of_lt (u.le (by omega) hm) hc
      · rw [if_neg hc]
        refine below_go u j fuel lo ((lo + hi) / 2) (by omega) (by omega) (by omega) h4 (fun k hk hk2 => ?_)
        exact Nat.le_trans (Nat.le_of_not_lt hc) (u.le hk hk2)
    · have : lo = hi := by omega
      subst this
      rw [go_end _ _ _ _ _ hlt]
      exact ⟨h1, h4, h5⟩
theorem below_spec {xs : Array Nat} (u : Up xs) (j : Nat) : below xs j ≤ xs.size ∧ (∀ k, k < below xs j → xs.getD k 0 < j) ∧ ∀ k, below xs j ≤ k → k < xs.size → j ≤ xs.getD k 0 :=
  below_go u j xs.size 0 xs.size (Nat.le_refl _) (Nat.zero_le _) (by omega) (fun k hk => absurd hk (Nat.not_lt_zero _)) (fun k h1 h2 => by omega)
theorem below_zero {xs : Array Nat} (u : Up xs) : below xs 0 = 0 := by
  have h := below_spec u 0
  rcases Nat.eq_zero_or_pos (below xs 0) with e | e
  · exact e
  · exact absurd (h.2.1 0 e) (Nat.not_lt_zero _)
theorem below_next {xs : Array Nat} (u : Up xs) {i : Nat} (hi : i < xs.size) : below xs (xs.getD i 0 + 1) = i + 1 := by
  have h := below_spec u (xs.getD i 0 + 1)
  have a : i + 1 ≤ below xs (xs.getD i 0 + 1) := by
    rcases Nat.lt_or_ge i (below xs (xs.getD i 0 + 1)) with q | q
    · exact q
    · have := h.2.2 i q hi; omega
  rcases Nat.lt_or_eq_of_le a with q | q
  · have := h.2.1 (i + 1) q
    have := u i (i + 1) (Nat.lt_succ_self _) (by omega)
    omega
  · exact q.symm
theorem size_insertAt {α : Type} (xs : Array α) {p : Nat} (x : α) (hp : p ≤ xs.size) : (insertAt xs p x).size = xs.size + 1 := by
  simp [insertAt]
  omega
theorem getD_insertAt (xs : Array Nat) {p : Nat} (x : Nat) (hp : p ≤ xs.size) (k : Nat) : (insertAt xs p x).getD k 0 = if k < p then xs.getD k 0 else if k = p then x else xs.getD (k - 1) 0 := by
  have e : (insertAt xs p x).getD k 0 = ((insertAt xs p x).toList[k]?).getD 0 := by simp [Array.getD_eq_getD_getElem?]
  have e2 : ∀ i, xs.getD i 0 = (xs.toList[i]?).getD 0 := fun i => by simp [Array.getD_eq_getD_getElem?]
  rw [e, toList_insertAt, e2, e2]
  have hl : (xs.toList.take p).length = p := by rw [List.length_take, Array.length_toList]; omega
  by_cases h1 : k < p
  · rw [if_pos h1, List.getElem?_append_left (by rw [hl]; exact h1), List.getElem?_take_of_lt h1]
  · rw [if_neg h1, List.getElem?_append_right (by rw [hl]; omega), hl]
    by_cases h2 : k = p
    · subst h2; rw [if_pos rfl, Nat.sub_self]; rfl
    · rw [if_neg h2]
      obtain ⟨q, rfl⟩ : ∃ q, k = p + 1 + q := ⟨k - p - 1, by omega⟩
      have : p + 1 + q - p = q + 1 := by omega
      rw [this, List.getElem?_cons_succ, List.getElem?_drop]
      congr 2
      congr 1
      omega
theorem up_insert {xs : Array Nat} (u : Up xs) {j : Nat} (hj : ∀ k, k < xs.size → xs.getD k 0 ≠ j) : Up (insertAt xs (below xs j) j) := by
  obtain ⟨h1, h2, h3⟩ := below_spec u j
  intro a b hab hb
  rw [size_insertAt _ _ h1] at hb
  rw [getD_insertAt _ _ h1, getD_insertAt _ _ h1]
  by_cases a1 : a < below xs j
  · rw [if_pos a1]
    by_cases b1 : b < below xs j
    · rw [if_pos b1]; exact u a b hab (by omega)
    · rw [if_neg b1]
      by_cases b2 : b = below xs j
      · rw [if_pos b2]; exact h2 a a1
      · rw [if_neg b2]
        exact u a (b - 1) (by omega) (by omega)
  · rw [if_neg a1]
    have b1 : ¬ b < below xs j := by omega
    have b2 : b ≠ below xs j := by omega
    rw [if_neg b1, if_neg b2]
    by_cases a2 : a = below xs j
    · rw [if_pos a2]
      have := h3 (b - 1) (by omega) (by omega)
      have := hj (b - 1) (by omega)
      omega
    · rw [if_neg a2]
      exact u (a - 1) (b - 1) (by omega) (by omega)
/-- a table of a set that no one took from -/
structure Neat (led : Bool) (t : SetTable) : Prop where
  up : Up t.place
  nod : t.dummies = #[]
  led : t.led = led
theorem neat_fresh (led : Bool) : Neat led (.fresh 0 0 led) := ⟨fun i j _ h => absurd h (by simp [SetTable.fresh]), rfl, rfl⟩
theorem has_nil (j : Nat) : has #[] j = false := by simp [has, below]
theorem probe_go {t : SetTable} (hn : t.dummies = #[]) (f : Nat → Int) (h : Int) : ∀ (fuel : Nat) (p : Probe) {j : Nat} {d : Option Nat}, p.dummy = none → probe.go t f h fuel p = some (.empty j d) → d = none ∧ t.slot j = .empty
  | 0, _, _, _, _, e => by cases e
  | fuel + 1, p, j, d, hp, e => by
    unfold probe.go at e
    split at e
    · rename_i hs
      cases e
      exact ⟨hp, hs⟩
    · rename_i hs
      unfold slot at hs
      rw [hn, has_nil] at hs
      simp at hs
      split at hs <;> cases hs
    · rename_i i hs
      split at e
      · cases e
      · refine probe_go hn f h fuel _ ?_ e
        unfold advance
        split
        · exact hp
        · exact hp
theorem slot_empty {t : SetTable} (u : Up t.place) {j : Nat} (h : t.slot j = .empty) : ∀ k, k < t.place.size → t.place.getD k 0 ≠ j := by
  intro k hk e
  obtain ⟨h1, h2, h3⟩ := below_spec u j
  have hb : below t.place j ≤ k := by
    rcases Nat.lt_or_ge k (below t.place j) with q | q
    · have := h2 k q; omega
    · exact q
  have he : t.place.getD (below t.place j) 0 = j := by
    have a := h3 _ (Nat.le_refl _) (by omega)
    have b := u.le hb hk
    omega
  unfold slot at h
  have hlt : below t.place j < t.place.size := by omega
  have : t.place[below t.place j]? = some j := by
    rw [Array.getElem?_eq_getElem hlt]
    simpa [Array.getD, hlt] using he
  simp [this] at h
theorem neat_standIn {led : Bool} {t : SetTable} (x : Neat led t) (n : Nat) : Neat led (t.standIn n) := by
  refine ⟨fun i j h hj => ?_, rfl, x.led⟩
  simp only [standIn, Array.size_range] at hj
  have e : ∀ i, i < n → (t.standIn n).place.getD i 0 = i := fun i hi => by simp [standIn, Array.getD, hi]
  rw [e i (by omega), e j hj]
  exact h
theorem neat_orStandIn {led : Bool} {t : SetTable} (x : Neat led t) (n : Nat) : Neat led (t.orStandIn n) := by
  unfold orStandIn
  split
  · exact x
  · exact neat_standIn x n
theorem neat_layNew {led : Bool} {t : SetTable} (x : Neat led t) (es : Array (Int × Value)) (h : Int) (v : Value) : Neat led (layNew t es h v).2.1 := by
  unfold layNew
  split
  · rename_i slot wasDummy hs
    unfold freeSlot at hs
    split at hs
    · rename_i j d hp
      cases hs
      obtain ⟨rfl, he⟩ := probe_go x.nod _ _ _ _ rfl hp
      dsimp only
      refine neat_orStandIn ⟨?_, ?_, ?_⟩ _
      · exact up_insert x.up (slot_empty x.up he)
      · simp only [put, x.nod, has_nil]; rfl
      · exact x.led
    · cases hs
  · exact neat_standIn x _
theorem up_list {l : List Nat} (key : l.Pairwise (· < ·)) : Up l.toArray := by
  intro i j hij hj
  rw [List.size_toArray] at hj
  have hi := Nat.lt_trans hij hj
  have := List.pairwise_iff_getElem.mp key i j hi hj hij
  simpa [Array.getD, hj, hi] using this
theorem up_live {owner : Array (Option Nat)} (m : Nat) : Up (((List.range m).filterMap fun j => (owner.getD j none).map (j, ·)).map (·.1)).toArray := by
  refine up_list ?_
  rw [List.map_filterMap]
  refine List.Pairwise.filterMap (R := (· < ·)) _ (fun a a' h b hb b' hb' => ?_) List.pairwise_lt_range
  simp only [Option.map_map, Option.map_eq_some_iff] at hb hb'
  obtain ⟨_, _, rfl⟩ := hb
  obtain ⟨_, _, rfl⟩ := hb'
  exact h
theorem neat_relayAll {led : Bool} {t : SetTable} (x : Neat led t) (es : Array (Int × Value)) (wanted : Nat) : Neat led (relayAll t es wanted).2.1 := by
  unfold relayAll
  split
  · rename_i t' order hr
    dsimp only
    split
    · unfold relaid laid at hr
      simp only [Option.bind_eq_bind, Option.bind_eq_some_iff, Option.pure_def, Option.some.injEq, Prod.mk.injEq] at hr
      obtain ⟨owner, _, rfl, _⟩ := hr
      exact ⟨up_live _, rfl, x.led⟩
    · exact neat_standIn x _
  · exact neat_standIn x _
theorem neat_plain_off {led : Bool} {t : SetTable} (x : Neat led t) : Neat led { t with plain := false } := ⟨x.up, x.nod, x.led⟩
end
section
set_option maxHeartbeats 4000000
theorem offSet2 : True := by w_top off; trivial
def intOf : Value → Int
  | .int n _ => n
  | _ => 0
/-- the text that the world follows orders the sets -/
abbrev byText (w : World) : Bool := w.params.followText "set-order"
/-- a set of ints -/
def SetI (prog : Program) (w : World) (h : Heap) (a : Addr) (S : List Int) : Prop :=
  ∃ o es ep t, h.get? a = some o ∧ o.ExactSet ∧ o.data = .set es ep t ∧ ElemsOf (intKind prog w) es.toList ∧ t.fits es.size = true ∧ es.size < scanBound ∧ Neat (!byText w) t ∧ (es.toList.map fun e => intOf e.2).Perm S
theorem SetI.at {prog : Program} {w : World} {h h' : Heap} {a : Addr} {S : List Int} (x : SetI prog w h a S) (e : ∀ o, h.get? a = some o → h'.get? a = some o) : SetI prog w h' a S :=
  let ⟨o, es, ep, t, ho, r⟩ := x; ⟨o, es, ep, t, e o ho, r⟩
theorem SetI.size {prog : Program} {w : World} {h : Heap} {a : Addr} {S : List Int} (x : SetI prog w h a S) : S.length < scanBound := by
  obtain ⟨o, es, ep, t, _, _, _, _, _, hb, _, hp⟩ := x
  rw [← hp.length_eq, List.length_map, Array.length_toList]; exact hb
section
variable {prog : Program} {w : World} {A : Around} {E : Value → Shared → Prop} {s : Shared}
theorem is_int {k : Int} {v : Value} (h : (intKind prog w).is k v = true) : ∃ t, v = .int k t := Value.isInt_shape h
theorem elem_int {l : List (Int × Value)} (h : ElemsOf (intKind prog w) l) {e : Int × Value} (he : e ∈ l) : ∃ t, e.2 = .int (intOf e.2) t := by
  obtain ⟨⟨k, hk, _⟩, _⟩ := h e he
  obtain ⟨t, e2⟩ := is_int hk
  exact ⟨t, by rw [e2]; rfl⟩
theorem si_tail {g : Bool → Sem Unit} (hg : ∀ (b : Bool) (s₁ : Shared) (Q' : Unit → Shared → Prop), Q' () s₁ → wpAny (model prog w) A (g b) Q' E s₁)
    {a : Addr} {o : Obj} {es : Array (Int × Value)} {ep : Nat} {t : SetTable} (ho : s.heap.get? a = some o) (hex : o.ExactSet) (hd : o.data = .set es ep t)
    {es1 : Array (Int × Value)} {t2 : SetTable} {S' : List Int} (hel1 : ElemsOf (intKind prog w) es1.toList) (hp1 : (es1.toList.map fun e => intOf e.2).Perm S')
    (hb1 : es1.size < scanBound) (hf2 : t2.fits es1.size = true) (hn2 : Neat (!byText w) t2) {wasDummy : Bool} {R : Option Bool → Shared → Prop}
    (h : ∀ h', Heap.SameBut a s.heap h' → SetI prog w h' a S' → R (some true) { s with heap := h' }) :
    wpAny (model prog w) A (do
        storeSet a es1 t2
        if (!wasDummy && t2.tooFull) = true then do
            g (relayAll t2 es1 (SetTable.grown es1.size)).2.2
            storeSet a (relayAll t2 es1 (SetTable.grown es1.size)).1 (relayAll t2 es1 (SetTable.grown es1.size)).2.1
            pure (some true)
          else pure (some true)) R E s := by
  refine wpAny_bind (wpAny_storeSet_of ho hd ?_ (fits_of_scanBound hb1))
  obtain ⟨ho1, _⟩ := SetOf_store (knd := intKind prog w) (S' := fun k => decide (∃ e ∈ es1.toList, (intKind prog w).is k e.2 = true)) ho hex hd hel1 (fun k => by simp) hb1 hf2
  have hsb1 := Heap.SameBut.update s.heap a (Obj.putSet es1 t2)
  split
  · have hp := relayAll_perm t2 es1 (SetTable.grown es1.size)
    have hfr := relayAll_fits t2 es1 (SetTable.grown es1.size)
    have hnr := neat_relayAll hn2 es1 (SetTable.grown es1.size)
    generalize hRl : relayAll t2 es1 (SetTable.grown es1.size) = Rl at hp hfr hnr ⊢
    obtain ⟨es2, t3, gave2⟩ := Rl
    dsimp only at hp hfr hnr ⊢
    have hel2 : ElemsOf (intKind prog w) es2.toList := hel1.perm hp
    have hsz : es2.size = es1.size := by rw [← Array.length_toList, hp.length_eq, Array.length_toList]
    have hb2 : es2.size < scanBound := by rw [hsz]; exact hb1
    refine wpAny_bind (hg _ _ _ ?_)
    refine wpAny_bind (wpAny_storeSet_of ho1 rfl ?_ (fits_of_scanBound hb2))
    obtain ⟨ho2, _⟩ := SetOf_store (knd := intKind prog w) (S' := fun k => decide (∃ e ∈ es2.toList, (intKind prog w).is k e.2 = true)) ho1 hex rfl hel2 (fun k => by simp) hb2 hfr
    exact wpAny_pure (h _ (hsb1.trans (Heap.SameBut.update _ a _)) ⟨_, es2, _, t3, ho2, hex, rfl, hel2, hfr, hb2, hnr, (hp.map _).trans hp1⟩)
  · exact wpAny_pure (h _ hsb1 ⟨_, es1, _, t2, ho1, hex, rfl, hel1, hf2, hb1, hn2, hp1⟩)
theorem si_add {a : Addr} {S : List Int} {k : Int} {tk : Tok} {Q : Bool → Shared → Prop} (hS : SetI prog w s.heap a S) (hroom : S.length + 1 < scanBound)
    (h : ∀ h' b, Heap.SameBut a s.heap h' → SetI prog w h' a (step_dedup S k) → Q b { s with heap := h' }) :
    wpAny (model prog w) A (setAddHashed a (.int k tk) ((intKind prog w).hash k)) Q E s := by
  obtain ⟨o, es, ep, t, ho, hex, hd, hel, hf, hb, hn, hp⟩ := hS
  have hkey : (intKind prog w).is k (.int k tk) = true := intKind_is _ _ _ _
  have hlen : es.size = S.length := by rw [← hp.length_eq, List.length_map, Array.length_toList]
  have hb1 : es.size + 1 < scanBound := by rw [hlen]; exact hroom
  have hmemS : ∀ {P : Prop}, (k ∈ S → P) → (k ∉ S → P) → P := fun p q => (Decidable.em _).elim p q
  unfold setAddHashed setAddHashedIn
  refine wpAny_holding (wpAny_bind (wpAny_setState_of ho hd hf ?_))
  dsimp only
  rw [byScan_of rfl hb hel]
  simp only [↓reduceIte]
  unfold setAddByScan
  refine wpAny_bind ?_
  refine wpAny_bind (wpAny_rule ?_)
  refine wpAny_bind (wpAny_setScan_of hkey ho hd hf hel ?_)
  cases hr : List.findIdx? (fun e => (intKind prog w).is k e.2) es.toList with
  | some j =>
    dsimp only
    obtain ⟨hj, hpj, _⟩ := List.findIdx?_eq_some_iff_getElem.mp hr
    obtain ⟨u, e2⟩ := is_int hpj
    have hm : k ∈ S := hp.mem_iff.mp (List.mem_map.mpr ⟨es.toList[j], List.getElem_mem hj, by rw [e2]; rfl⟩)
    refine wpAny_pure (wpAny_pure ?_)
    have e : step_dedup S k = S := by
      unfold step_dedup
      rw [if_pos (List.any_eq_true.mpr ⟨k, hm, by simp⟩)]
    have := h s.heap false (Heap.SameBut.refl a s.heap) (by rw [e]; exact ⟨o, es, ep, t, ho, hex, hd, hel, hf, hb, hn, hp⟩)
    exact this
  | none =>
    dsimp only
    have hm : k ∉ S := fun hm => by
      obtain ⟨e, he, q⟩ := List.mem_map.mp (hp.mem_iff.mpr hm)
      obtain ⟨u, e2⟩ := elem_int hel he
      have := List.findIdx?_eq_none_iff.mp hr e he
      rw [e2, q, intKind_is] at this
      exact Bool.noConfusion this
    have e : step_dedup S k = S ++ [k] := by
      unfold step_dedup
      rw [if_neg]
      intro q
      obtain ⟨y, hy, e⟩ := List.any_eq_true.mp q
      rw [beq_iff_eq] at e
      exact hm (e ▸ hy)
    rw [e] at h
    have hgw : ∀ (b : Bool) {s₁ : Shared} {Q' : Unit → Shared → Prop}, Q' () s₁ → wpAny (model prog w) A (match b with | true => rule "set.scan.the-table-gave-way" | false => pure ()) Q' E s₁ :=
      fun b s₁ Q' hq => by cases b <;> first | exact wpAny_pure hq | exact wpAny_rule hq
    have hperm := layNew_perm t es ((intKind prog w).hash k) (.int k tk)
    have hfits := layNew_fits t es ((intKind prog w).hash k) (.int k tk)
    have hneat := neat_layNew hn es ((intKind prog w).hash k) (.int k tk)
    generalize hL : layNew t es ((intKind prog w).hash k) (.int k tk) = L at hperm hfits hneat ⊢
    obtain ⟨es1, t1, wasDummy, gave⟩ := L
    dsimp only at hperm hfits hneat ⊢
    rw [Array.toList_push] at hperm
    have hel1 : ElemsOf (intKind prog w) es1.toList := (hel.push hkey rfl).perm hperm
    have hp1 : (es1.toList.map fun e => intOf e.2).Perm (S ++ [k]) := by
      refine (hperm.map _).trans ?_
      rw [List.map_append]
      exact hp.append_right _
    have hb1' : es1.size < scanBound := by rw [← Array.length_toList, hperm.length_eq, List.length_append, Array.length_toList]; simpa using hb1
    refine wpAny_bind (hgw _ ?_)
    split
    · refine wpAny_bind ?_
      rw [hashByValue_scannable 8 rfl]
      refine wpAny_pure ?_
      refine si_tail ?_ ho hex hd hel1 hp1 hb1' ?_ ?_ ?_
      · intro b s₁ Q' hq; cases b <;> first | exact wpAny_pure hq | exact wpAny_rule hq
      · split
        · exact hfits
        · exact SetTable.fits_plain_off hfits
      · split
        · exact hneat
        · exact neat_plain_off hneat
      · intro h' hsb hS'; dsimp only; exact wpAny_pure (h h' true hsb hS')
    · refine wpAny_bind (wpAny_pure ?_)
      simp only [↓reduceIte]
      refine si_tail ?_ ho hex hd hel1 hp1 hb1' hfits hneat ?_
      · intro b s₁ Q' hq; cases b <;> first | exact wpAny_pure hq | exact wpAny_rule hq
      · intro h' hsb hS'; dsimp only; exact wpAny_pure (h h' true hsb hS')
end
end
section
set_option maxHeartbeats 4000000
theorem offSet3 : True := by w_top off; trivial
/-- the first ones of a list -/
def dedup (ns : List Int) : List Int := ns.foldl step_dedup []
theorem dedup_take {ns : List Int} {i : Nat} {n : Int} (h : ns[i]? = some n) : dedup (ns.take (i + 1)) = step_dedup (dedup (ns.take i)) n := by
  unfold dedup
  rw [List.take_add_one, h]
  simp [List.foldl_append]
theorem step_le (S : List Int) (k : Int) : (step_dedup S k).length ≤ S.length + 1 := by
  unfold step_dedup; split <;> simp
theorem dedup_le (ns : List Int) : (dedup ns).length ≤ ns.length := by
  have key : ∀ (l S : List Int), (l.foldl step_dedup S).length ≤ S.length + l.length := by
    intro l
    induction l with
    | nil => intro S; simp
    | cons k r ih =>
      intro S
      have h1 := ih (step_dedup S k)
      have h2 := step_le S k
      simp only [List.foldl_cons, List.length_cons]
      omega
  have := key ns []
  simpa [dedup] using this
section
variable {prog : Program} {w : World} {A : Around} {E : Value → Shared → Prop} {s : Shared}
theorem si_loop {R : Result → Shared → Prop} {I : Addr} {fp wr : List Addr} {n : Nat} {P : Nat → Value → Prop} {St : Nat → Heap → Prop} (W : Walks prog w A.in1 I fp wr n P St) (a : Addr) (hSf : a ∉ fp) (ns : List Int) (hns : ns.length = n)
    (hval : ∀ i v, P i v → ∃ k t, ns[i]? = some k ∧ v = .int k t) (hb : n + 1 < scanBound) :
    ∀ (k i : Nat) (h : Heap) (tk : Nat), n - i = k → i ≤ n → St i h → SetI prog w h a (dedup (ns.take i)) →
      (∀ h' tk', (∀ b o, b ∉ a :: wr → h.get? b = some o → h'.get? b = some o) → SetI prog w h' a (dedup ns) → R (.ok (.ret .none)) { s with heap := h', toks := tk' }) →
      codeAny (model prog w) A (.builtin "set.update.loop" ⟨[.ref a, .ref I], []⟩) R { s with heap := h, toks := tk } := by
  have hSw : a ∉ wr := fun h => hSf (W.sub _ h)
  intro k
  induction k with
  | zero =>
    intro i h tk hk hi hst hS hR
    have hin : i = n := by omega
    subst hin
    refine codeAny_builtin F.entry_set_update_loop ?_
    rw [Around.under_plainId F.plain_set_update_loop _]
    show wpAny _ A.in1 (pyNext (.ref I) >>= _) _ _ _
    refine wpAny_bind (W.done _ _ _ hst fun h' tk' hm => ?_)
    show wpAny _ A.in1 (ret Value.none) _ _ _
    rw [List.take_of_length_le (Nat.le_of_eq hns)] at hS
    exact wpAny_pure (hR h' tk' (fun b o hb e => hm b o (fun q => hb (.tail _ q)) e) (hS.at fun o e => hm a o hSw e))
  | succ k ih =>
    intro i h tk hk hi hst hS hR
    have hlt : i < n := by omega
    refine codeAny_builtin F.entry_set_update_loop ?_
    rw [Around.under_plainId F.plain_set_update_loop _]
    show wpAny _ A.in1 (pyNext (.ref I) >>= _) _ _ _
    refine wpAny_bind (W.item i _ _ _ hlt hst fun v h1 tk1 hP hst' hm => ?_)
    obtain ⟨x, t, hx, rfl⟩ := hval i v hP
    have hS1 : SetI prog w h1 a (dedup (ns.take i)) := hS.at fun o e => hm a o hSw e
    show wpAny _ A.in1 (holding [Value.int x t] (setAdd a (.int x t)) >>= _) _ _ _
    refine wpAny_bind (wpAny_holding ?_)
    unfold setAdd
    refine wpAny_holding ?_
    refine wpAny_bind ((intKind prog w).pyHash (k := x) (intKind_is _ _ _ _) ?_)
    have hl := dedup_le (ns.take i)
    rw [List.length_take] at hl
    refine si_add hS1 (by omega) fun h2 b hsb hS2 => ?_
    rw [← dedup_take hx] at hS2
    refine wpAny_pure ⟨plainId_quiet F.plain_set_update_loop _, ih (i + 1) h2 _ (by omega) hlt (W.frame _ _ _ hst' fun b hb o e => ?_) hS2 fun h3 tk3 hm3 hS3 => ?_⟩
    · rw [hsb.2 b (fun q : b = a => hSf (by rw [← q]; exact hb))]; exact e
    · refine hR h3 tk3 (fun b o hb e => hm3 b o hb ?_) hS3
      have e1 := hm b o (fun q => hb (.tail _ q)) e
      exact (hsb.2 b (fun q => hb (by rw [q]; exact .head _))).trans e1
theorem si_new (a : Value) {Q₁ : Value → Shared → Prop}
    (h : Q₁ (.ref s.heap.objs.size) { s with heap := s.heap.push { cls := .type "set", dict := none, data := .set #[] 0 (.fresh 0 0 (!byText w)) } }) :
    codeAny (model prog w) A (.call (.builtin "set.__new__") ⟨[.type "set", a], []⟩) (wants Q₁ E) s := by
  refine codeAny_of_tree ?_
  show wpAny _ A.in1 (do checkBuiltinCall "set.__new__" ⟨[.type "set", a], []⟩; again (.builtin "set.__new__" ⟨[.type "set", a], []⟩)) _ _ s
  refine wpAny_bind (wpAny_of_eq (F.newCall_set_1 a) (wpAny_pure ⟨plainId_quiet F.plain_set_new _, codeAny_builtin F.entry_set_new ?_⟩))
  rw [Around.under_plainId F.plain_set_new _]
  unfold Builtin.«set.__new__» Builtin.Frozenset.newClass
  have hsub := sub_set_self
  obtain ⟨hp, g, d, tk, os⟩ := s
  dsimp only
  wp_walk
  refine wpAny_askSetting (wpAny_pure ?_)
  dsimp only
  simp only [newObj]
  refine wpAny_bind (wpAny_alloc (wpAny_pure ?_))
  exact wpAny_pure h
end
end
section
set_option maxHeartbeats 4000000
theorem offSet4 : True := by w_top off; trivial
section
variable {prog : Program} {w : World} {A : Around} {E : Value → Shared → Prop} {s : Shared}
abbrev newSetObj (w : World) : Obj := { cls := .type "set", dict := none, data := .set #[] 0 (.fresh 0 0 (!byText w)) }
theorem si_empty {h : Heap} {a : Addr} (e : h.get? a = some (newSetObj w)) : SetI prog w h a [] :=
  ⟨_, #[], 0, _, e, ⟨rfl, rfl, rfl⟩, rfl, fun e he => by simp at he, rfl, by decide, neat_fresh _, .nil⟩
/-- set(list) -/
theorem si_call {l : Addr} {items : Array Value} {ns : List Int} {Q : Value → Shared → Prop} (hh : A.handled = none) (hl : s.heap.IsList l items) (hi : IntsAre items.toList ns) (hb : ns.length + 1 < scanBound)
    (h : ∀ (h' : Heap) (tk : Nat), SetI prog w h' s.heap.objs.size (dedup ns) → (∀ b o, s.heap.get? b = some o → h'.get? b = some o) → Q (.ref s.heap.objs.size) { s with heap := h', toks := tk }) :
    wpAny (model prog w) A (call (.type "set") [.ref l]) Q E s := by
  have hin : items.size = ns.length := by rw [← Array.length_toList]; exact hi.length
  obtain ⟨c, tl, hmro⟩ := PySem.F.called_set.mro
  have hmade := PySem.F.called_set.made
  have hsub := PySem.F.called_set.sub
  refine wpAny_call (codeAny_of_tree ?_)
  show wpAny _ _ (callAny (.type "set") _) _ _ _
  refine wpAny_pure ⟨Code.quiet_builtin _ (by decide +kernel), codeAny_builtin PySem.F.entry_type_call ?_⟩
  rw [Around.under_plain (weight_type_call_type "set" [.ref l] []) rfl]
  have h1 := PySem.F.called_set.notType
  have h2 := PySem.F.called_set.canCreate
  have hct := PySem.F.typeCall_set_1 (.ref l)
  repeat (any_goals (first | assumption | wp_step))
  refine codeAny_mono (si_new (.ref l) (E := E) (Q₁ := fun obj s₁ => obj = .ref s.heap.objs.size ∧ s₁ = { s with heap := s.heap.push (newSetObj w) }) ⟨rfl, rfl⟩) fun r s₁ hr => ?_
  cases r with
  | error e => exact hr
  | ok fl =>
    cases fl with
    | ret obj =>
      obtain ⟨rfl, rfl⟩ := hr
      have hS : (s.heap.push (newSetObj w)).get? s.heap.objs.size = some (newSetObj w) := Heap.get?_push_size _ rfl
      have hT : Shared.TypeIs { s with heap := s.heap.push (newSetObj w) } (.ref s.heap.objs.size) "set" := ⟨_, hS, rfl⟩
      have hli := PySem.F.called_set.init.lookup
      have hbi := PySem.F.called_set.init.bind (.ref s.heap.objs.size)
      repeat (any_goals (first | assumption | wp_step))
      refine codeAny_mono (codeAny_call_builtin (R := wants (fun r s₂ => r = .none ∧ ∃ h' tk, s₂ = { s with heap := h', toks := tk } ∧ SetI prog w h' s.heap.objs.size (dedup ns) ∧ (∀ b o, s.heap.get? b = some o → h'.get? b = some o)) E)
        PySem.F.called_set.init.plain PySem.F.entry_set_init (PySem.check_set_init_1 hT ?_)) fun r₂ s₂ hr₂ => ?_
      · obtain ⟨ol, hol, hcl, nl, hdl⟩ := hl
        obtain ⟨ocls, odict, odata, oslots⟩ := ol
        simp only at hcl hdl
        subst hcl; subst hdl
        have hol' : (s.heap.push (newSetObj w)).get? l = some { cls := .type "list", dict := odict, data := .seq items nl, slots := oslots } := Heap.get?_push_of_some _ hol
        have hsls := PySem.F.sub_list_set
        have hslf := PySem.F.sub_list_frozenset
        have hne : (Value.type "list" == Value.type "dict") = false := by decide
        have hl1 : (s.heap.push (newSetObj w)).IsList l items := ⟨_, hol', rfl, nl, rfl⟩
        unfold Builtin.«set.__init__» noKeywords Builtin.Frozenset.updateFrom
        generalize hPI : pyIter = PI
        wp_walk
        subst hPI
        refine wpAny_pyIter_list hl1 ?_
        refine wpAny_bind (wpAny_runValue ?_)
        have hlS : l < s.heap.objs.size := Heap.lt_size hol
        have hh3 : A.in1.in1.in1.handled = none := by simp [hh]
        have hneI : l ≠ (s.heap.push (newSetObj w)).objs.size := by
          rw [Heap.size_push]; exact Nat.ne_of_lt (Nat.lt_succ_of_lt hlS)
        have hSf : s.heap.objs.size ∉ [(s.heap.push (newSetObj w)).objs.size, l] := by
          rw [Heap.size_push]; simp only [List.mem_cons, List.mem_singleton, List.not_mem_nil, or_false, not_or]
          exact ⟨Nat.ne_of_lt (Nat.lt_succ_self _), Nat.ne_of_gt hlS⟩
        refine si_loop (Walks.list hh3 _ l hneI items) s.heap.objs.size hSf ns hin.symm (fun i v hv => ?_) (by rw [hin]; exact hb) (items.size - 0) 0 _ _ rfl (Nat.zero_le _)
          ⟨⟨_, Heap.get?_push_size _ rfl, rfl, rfl⟩, (hl1.push _)⟩ (si_empty (Heap.get?_push_of_some _ hS)) fun h' tk' hm hS' => ?_
        · exact ints_at hi (by rw [Array.getElem?_toList]; exact hv)
        · show wpAny _ _ _ _ _ _
          refine wpAny_pure ?_
          show wpAny _ _ (ret Value.none) _ _ _
          refine wpAny_pure ⟨rfl, h', tk', rfl, hS', fun b o e => ?_⟩
          have hlt := Heap.lt_size e
          have hb1 : b ≠ s.heap.objs.size := Nat.ne_of_lt hlt
          have hb2 : b ≠ (s.heap.push (newSetObj w)).objs.size := by
            rw [Heap.size_push]; exact Nat.ne_of_lt (Nat.lt_succ_of_lt hlt)
          exact hm b o (by simp only [List.mem_cons, List.mem_singleton, List.not_mem_nil, or_false, not_or]; exact ⟨hb1, hb2⟩) (Heap.get?_push_of_some _ (Heap.get?_push_of_some _ e))
      · cases r₂ with
        | error e => exact hr₂
        | ok fl₂ =>
          cases fl₂ with
          | ret r =>
            obtain ⟨rfl, h', tk, rfl, hS', hk'⟩ := hr₂
            repeat (any_goals (first | assumption | wp_step))
            exact h _ _ hS' hk'
          | _ => exact hr₂.elim
    | _ => exact hr.elim
end
end
section
set_option maxHeartbeats 4000000
theorem offSet5a : True := by w_top off; trivial
theorem sx_entry_iter : entryFor table "set.__iter__" = some Builtin.«frozenset.__iter__» := entryFor_alias (id' := "frozenset.__iter__") (by rw [fastTable_eq_tree]; kernel_rfl) rfl (by rw [PySem.W.Fast.canonicalY_eq]; kernel_rfl) (by rw [fastTable_eq_tree]; kernel_rfl)
theorem sx_slot_next : Slot "set_iterator" "__next__" "set_iterator.__next__" :=
  .of (owner := "set_iterator") (n := "__next__") (by rw [typeLookup_type, builtinLookup_eq_fast]; kernel_rfl) (by decide +kernel) (by decide +kernel) (by decide +kernel)
    (by first | exact .inl (by decide +kernel) | exact .inr (by decide +kernel)) (by rw [isSubtype_type]; kernel_rfl)
theorem sx_entry_next : entryFor table "set_iterator.__next__" = some Builtin.«set_iterator.__next__» := entryFor_of_tree (by kernel_rfl)
theorem sx_args_next (a : Value) : argsOk "set_iterator.__next__" ⟨[a], []⟩ := by unfold argsOk; rw [PySem.W.Fast.signatureY_eq]; kernel_rfl
theorem sx_slot_iter : Slot "set_iterator" "__iter__" "set_iterator.__iter__" :=
  .of (owner := "set_iterator") (n := "__iter__") (by rw [typeLookup_type, builtinLookup_eq_fast]; kernel_rfl) (by decide +kernel) (by decide +kernel) (by decide +kernel)
    (by first | exact .inl (by decide +kernel) | exact .inr (by decide +kernel)) (by rw [isSubtype_type]; kernel_rfl)
theorem sx_entry_iiter : entryFor table "set_iterator.__iter__" = some Builtin.«dict_keyiterator.__iter__» := entryFor_alias (id' := "dict_keyiterator.__iter__") (by rw [fastTable_eq_tree]; kernel_rfl) rfl (by rw [PySem.W.Fast.canonicalY_eq]; kernel_rfl) (by rw [fastTable_eq_tree]; kernel_rfl)
theorem sx_args_iter (a : Value) : argsOk "set_iterator.__iter__" ⟨[a], []⟩ := by unfold argsOk; rw [PySem.W.Fast.signatureY_eq]; kernel_rfl
/-- the iterator of a set -/
abbrev siObj (first : Value) (i : Int) (a : Addr) (n ep : Nat) : Obj := { cls := .type "set_iterator", data := .fields #[first, .int i 0, .ref a, .int n 0, .int ep 0] }
/-- a set's own parts -/
def SetAt (h : Heap) (a : Addr) (es : Array (Int × Value)) (ep : Nat) (t : SetTable) : Prop := ∃ o, h.get? a = some o ∧ o.ExactSet ∧ o.data = .set es ep t
theorem SetAt.at {h h' : Heap} {a : Addr} {es : Array (Int × Value)} {ep : Nat} {t : SetTable} (x : SetAt h a es ep t) (e : ∀ o, h.get? a = some o → h'.get? a = some o) : SetAt h' a es ep t := let ⟨o, ho, r⟩ := x; ⟨o, e o ho, r⟩
end
section
set_option maxHeartbeats 4000000
theorem offSet5 : True := by w_top off; trivial
section
variable {prog : Program} {w : World} {A : Around} {E : Value → Shared → Prop} {s : Shared} {a I : Addr} {es : Array (Int × Value)} {ep : Nat} {t : SetTable}
/-- what next does behind its looks -/
def sxBody (it : Value) (first : Value) (a : Addr) (i ep : Int) : Sem PySem.Fin :=
  if let .int slot _ := first then do
    match ← setNext a slot.toNat i.toNat ep.toNat with
    | some (x, next) =>
      setField it 0 (rawInt next)
      setField it 1 (rawInt (i + 1))
      ret x
    | none => setField it 2 .none; raiseNew (← newExc (.type "StopIteration") [])
  else do
    let some places ← seqItems? first | unsupported "internal:set_iterator"
    match places[i.toNat]? with
    | some (.int place _) =>
      let x ← setNextDrawn a place.toNat ep.toNat
      setField it 1 (rawInt (i + 1))
      ret x
    | some _ => unsupported "internal:set_iterator"
    | none => setField it 0 (rawInt 0); setField it 2 .none; raiseNew (← newExc (.type "StopIteration") [])
theorem sx_open {first : Value} {i : Int} {Q : Option Value → Shared → Prop} (hI : s.heap.get? I = some (siObj first i a es.size ep)) (hS : SetAt s.heap a es ep t) (hf : t.fits es.size = true)
    (h : wpAny (model prog w) A.in1 (sxBody (.ref I) first a i ep) (fun fin s' => ∃ v, fin = .done (.ret v) ∧ Q (some v) s') (fun e s' => s'.TypeIs e "StopIteration" ∧ Q none s') s) :
    wpAny (model prog w) A (pyNext (.ref I)) Q E s := by
  have hT : s.TypeIs (.ref I) "set_iterator" := ⟨_, hI, rfl⟩
  obtain ⟨o, ho, hex, hd⟩ := hS
  unfold pyNext
  refine wpAny_bind (wpAny_attempt (wpAny_callSpecial?_slot (name := Str.ofString "__next__") hT sx_slot_next (wpAny_call_entry sx_slot_next hT sx_entry_next ?_ (sx_args_next _))))
  unfold Builtin.«set_iterator.__next__»
  show wpAny _ _ (fieldsOf (.ref I) >>= _) _ _ s
  refine wpAny_bind (wpAny_fieldsOf hI rfl ?_)
  show wpAny _ _ (setEntries a >>= _) _ _ s
  refine wpAny_bind (wpAny_setEntries_of ho hd hf ?_)
  rw [if_neg (by simp)]
  show wpAny _ _ (sxBody (.ref I) first a i ep) _ _ s
  refine wpAny_mono h (fun fin s' hx => ?_) (fun e s' hx => ?_)
  · obtain ⟨v, rfl, hq⟩ := hx
    exact ⟨v, rfl, wpAny_pure hq⟩
  · obtain ⟨hT', hq⟩ := hx
    exact wpAny_bind (wpAny_isInstance (T := "StopIteration") (b := true) hT' isSubtype_stop (wpAny_pure hq))
theorem sx_stop {Q : PySem.Fin → Shared → Prop} (hh : A.handled = none) (h : ∀ h' e, (∀ b o, s.heap.get? b = some o → h'.get? b = some o) → Shared.TypeIs { s with heap := h' } e "StopIteration" → E e { s with heap := h' }) :
    wpAny (model prog w) A (newExc (.type "StopIteration") [] >>= fun e => raiseNew e) Q E s := by
  refine wpAny_bind ?_
  simp only [newExc, newTuple]
  refine wpAny_bind (wpAny_newObj_type ?_ (by size_fits))
  refine wpAny_bind (m := firstArgMember _ _) (wpAny_of_eq (a := Value.none) (by first | rfl | (simp only [firstArgMember]; rfl)) ?_)
  refine wpAny_newObj_type ?_ (by size_fits)
  simp only [raiseNew]
  refine wpAny_bind (wpAny_handled ?_)
  rw [hh]
  refine wpAny_bind (wpAny_pure (wpAny_throw ?_))
  exact h _ _ (fun b o e => Heap.get?_push_of_some _ (Heap.get?_push_of_some _ e)) ⟨_, Heap.get?_push_size _ rfl, rfl⟩
theorem sx_text {Q : Bool → Shared → Prop} (h : Q (byText w) s) : wpAny (model prog w) A setsByText Q E s := by
  unfold setsByText
  exact wpAny_bind (wpAny_askSetting (wpAny_pure h))
/-- the next of a table -/
theorem sx_next {sl : Nat} {g : Int} {Q : Option (Value × Nat) → Shared → Prop} (hS : SetAt s.heap a es ep t) (hf : t.fits es.size = true) (hn : Neat (!byText w) t) (hbt : byText w = false) (hp : (!t.plain && decide (es.size > 1)) = false)
    (h : Q (match es[SetTable.below t.place sl]?, t.place[SetTable.below t.place sl]? with | some (_, x), some j => some (x, j + 1) | _, _ => none) s) :
    wpAny (model prog w) A (setNext a sl g.toNat (ep : Int).toNat) Q E s := by
  obtain ⟨o, ho, hex, hd⟩ := hS
  unfold setNext
  refine wpAny_bind (wpAny_setState_of ho hd hf ?_)
  dsimp only
  refine wpAny_bind (sx_text ?_)
  rw [hbt]
  refine bm_if_false rfl ?_
  refine bm_if_false hp ?_
  refine wpAny_bind ?_
  have hled : t.led = true := by rw [hn.led, hbt]; rfl
  refine bm_if_false (show (!t.led && !es.isEmpty) = false by rw [hled]; rfl) ?_
  exact wpAny_pure (wpAny_pure h)
/-- the next by the text -/
theorem sx_nextT {sl g : Nat} {Q : Option (Value × Nat) → Shared → Prop} (hS : SetAt s.heap a es ep t) (hf : t.fits es.size = true) (hbt : byText w = true)
    (h : Q (((pickOrder (w.params.setOrder a ep) es)[g]?).map fun e => (e.2, sl)) s) :
    wpAny (model prog w) A (setNext a sl (g : Int).toNat (ep : Int).toNat) Q E s := by
  obtain ⟨o, ho, hex, hd⟩ := hS
  unfold setNext
  refine wpAny_bind (wpAny_setState_of ho hd hf ?_)
  dsimp only
  refine wpAny_bind (sx_text ?_)
  rw [hbt]
  refine bm_if_true rfl ?_
  refine bm_if_false (by simp) ?_
  refine wpAny_bind ?_
  unfold setWalk
  refine wpAny_bind (wpAny_setState_of ho hd hf ?_)
  dsimp only
  refine wpAny_bind (sx_text ?_)
  rw [hbt]
  refine bm_if_true rfl ?_
  refine wpAny_bind (wpAny_askSetting (wpAny_pure ?_))
  exact wpAny_pure h
/-- the next of a drawn order -/
theorem sx_nextD {p : Nat} {Q : Value → Shared → Prop} (hS : SetAt s.heap a es ep t) (hf : t.fits es.size = true) {e : Int × Value} (he : es[p]? = some e) (h : Q e.2 s) :
    wpAny (model prog w) A (setNextDrawn a (p : Int).toNat (ep : Int).toNat) Q E s := by
  obtain ⟨o, ho, hex, hd⟩ := hS
  unfold setNextDrawn
  refine wpAny_bind (wpAny_setState_of ho hd hf ?_)
  dsimp only
  refine bm_if_false (by simp) ?_
  rw [Int.toNat_natCast, he]
  exact wpAny_pure h
end
end
section
set_option maxHeartbeats 4000000
theorem offSet6 : True := by w_top off; trivial
/-- the slot behind i taken ones -/
def slotAt (xs : Array Nat) : Nat → Nat
  | 0 => 0
  | i + 1 => xs.getD i 0 + 1
theorem below_slotAt {xs : Array Nat} (u : Up xs) : ∀ i, i ≤ xs.size → SetTable.below xs (slotAt xs i) = i
  | 0, _ => below_zero u
  | i + 1, h => below_next u h
theorem fits_size {t : SetTable} {n : Nat} (h : t.fits n = true) : t.place.size = n := by
  simp only [SetTable.fits, Bool.and_eq_true, beq_iff_eq] at h
  exact h.1
section
variable {prog : Program} {w : World} {A : Around} {E : Value → Shared → Prop} {s : Shared} {a I : Addr} {es : Array (Int × Value)} {ep : Nat} {t : SetTable}
theorem si_set {M : Model} {k : Nat} {x y : Value} {vs : Array Value} {Q : Unit → Shared → Prop} (hI : s.heap.get? I = some { cls := x, data := .fields vs }) (hk : k < vs.size)
    (h : ∀ h', h'.get? I = some { cls := x, data := .fields (vs.setIfInBounds k y) } → Heap.SameBut I s.heap h' → Q () { s with heap := h' }) : wpAny M A (setField (.ref I) k y) Q E s :=
  wpAny_setField hI rfl hk (h _ (Heap.get?_update_self _ hI rfl) (Heap.SameBut.update ..))
theorem sx_self {first : Value} {i : Int} {n : Nat} {Q : Value → Shared → Prop} (hI : s.heap.get? I = some (siObj first i a n ep)) (h : Q (.ref I) s) : wpAny (model prog w) A (pyIter (.ref I)) Q E s := by
  have hT : s.TypeIs (.ref I) "set_iterator" := ⟨_, hI, rfl⟩
  refine wpAny_pyIter_slot hT sx_slot_iter (wpAny_call_entry sx_slot_iter hT sx_entry_iiter ?_ (sx_args_iter _))
  show wpAny _ _ (ret (.ref I)) _ _ s
  exact wpAny_pure ⟨_, rfl, "set_iterator", _, hT, sx_slot_next.lookup, h⟩
/-- one more of a table's or a text's -/
theorem sx_item {sl nx : Nat} {i : Nat} {v : Value} {Q : Option Value → Shared → Prop} (hI : s.heap.get? I = some (siObj (.int sl 0) i a es.size ep)) (haI : a ≠ I) (hS : SetAt s.heap a es ep t) (hf : t.fits es.size = true)
    (hn : ∀ (A : Around) (E : Value → Shared → Prop) (Q : Option (Value × Nat) → Shared → Prop), Q (some (v, nx)) s → wpAny (model prog w) A (setNext a sl (i : Int).toNat (ep : Int).toNat) Q E s)
    (h : ∀ h', h'.get? I = some (siObj (.int nx 0) (i + 1 : Nat) a es.size ep) → Heap.SameBut I s.heap h' → Q (some v) { s with heap := h' }) : wpAny (model prog w) A (pyNext (.ref I)) Q E s := by
  refine sx_open hI hS hf ?_
  unfold sxBody
  dsimp only
  rw [Int.toNat_natCast sl]
  refine wpAny_bind (hn _ _ _ ?_)
  dsimp only
  refine wpAny_bind (si_set hI (by simp) fun h1 e1 s1 => ?_)
  refine wpAny_bind (si_set e1 (by simp) fun h2 e2 s2 => ?_)
  refine wpAny_pure ⟨v, rfl, h h2 ?_ (s1.trans s2)⟩
  rw [e2]
  simp [rawInt]
theorem sx_end {sl : Nat} {i : Nat} {Q : Option Value → Shared → Prop} (hh : A.handled = none) (hI : s.heap.get? I = some (siObj (.int sl 0) i a es.size ep)) (hS : SetAt s.heap a es ep t) (hf : t.fits es.size = true)
    (hn : ∀ (A : Around) (E : Value → Shared → Prop) (Q : Option (Value × Nat) → Shared → Prop), Q none s → wpAny (model prog w) A (setNext a sl (i : Int).toNat (ep : Int).toNat) Q E s)
    (h : ∀ h', (∀ b o, b ≠ I → s.heap.get? b = some o → h'.get? b = some o) → Q none { s with heap := h' }) : wpAny (model prog w) A (pyNext (.ref I)) Q E s := by
  refine sx_open hI hS hf ?_
  unfold sxBody
  dsimp only
  rw [Int.toNat_natCast sl]
  refine wpAny_bind (hn _ _ _ ?_)
  dsimp only
  refine wpAny_bind (si_set hI (by simp) fun h1 e1 s1 => ?_)
  exact sx_stop hh fun h' e k hT => ⟨hT, h h' fun b o hb e => k b o ((s1.2 b hb).trans e)⟩
theorem walks_table (hh : A.handled = none) (haI : a ≠ I) (hf : t.fits es.size = true) (hn : Neat (!byText w) t) (hbt : byText w = false) (hp : (!t.plain && decide (es.size > 1)) = false) :
    Walks prog w A I [I, a] [I] es.size (fun i v => ∃ e, es[i]? = some e ∧ v = e.2) (fun i h => h.get? I = some (siObj (.int (slotAt t.place i) 0) i a es.size ep) ∧ SetAt h a es ep t) where
  sub := fun b hb => by simp at hb; simp [hb]
  frame := fun _ _ _ st hk => ⟨hk I (by simp) _ st.1, st.2.at fun o e => hk a (by simp) o e⟩
  item := fun i s Q E hi st hQ => by
    have hsz := fits_size hf
    have hb := below_slotAt hn.up i (by omega)
    have he : es[i]? = some es[i] := Array.getElem?_eq_getElem hi
    refine sx_item (nx := slotAt t.place (i + 1)) (v := es[i].2) st.1 haI st.2 hf (fun A E Q hq => sx_next st.2 hf hn hbt hp ?_) fun h' e' s' => ?_
    · have hpl : t.place[i]? = some (t.place.getD i 0) := by rw [Array.getElem?_eq_getElem (by omega)]; simp [Array.getD, show i < t.place.size by omega]
      rw [hb, he, hpl]
      exact hq
    · exact hQ _ h' s.toks ⟨_, he, rfl⟩ ⟨e', st.2.at fun o e => (s'.2 a haI).trans e⟩ fun b o hb e => (s'.2 b (fun q => hb (by simp [q]))).trans e
  done := fun s Q E st hQ => by
    have hsz := fits_size hf
    have hb := below_slotAt hn.up es.size (by omega)
    refine sx_end hh st.1 st.2 hf (fun A E Q hq => sx_next st.2 hf hn hbt hp ?_) fun h' k => hQ h' s.toks fun b o hb e => k b o (fun q => hb (by simp [q])) e
    rw [hb, Array.getElem?_eq_none (Nat.le_refl _)]
    exact hq
  self := fun _ _ _ _ st hQ => sx_self st.1 hQ
theorem walks_text (hh : A.handled = none) (haI : a ≠ I) (hf : t.fits es.size = true) (hbt : byText w = true) (hz : (pickOrder (w.params.setOrder a ep) es).size = es.size) :
    Walks prog w A I [I, a] [I] es.size (fun i v => ∃ e, (pickOrder (w.params.setOrder a ep) es)[i]? = some e ∧ v = e.2) (fun i h => h.get? I = some (siObj (.int (0 : Nat) 0) i a es.size ep) ∧ SetAt h a es ep t) where
  sub := fun b hb => by simp at hb; simp [hb]
  frame := fun _ _ _ st hk => ⟨hk I (by simp) _ st.1, st.2.at fun o e => hk a (by simp) o e⟩
  item := fun i s Q E hi st hQ => by
    have he : (pickOrder (w.params.setOrder a ep) es)[i]? = some ((pickOrder (w.params.setOrder a ep) es)[i]'(by omega)) := Array.getElem?_eq_getElem (by omega)
    refine sx_item (nx := 0) (v := ((pickOrder (w.params.setOrder a ep) es)[i]'(by omega)).2) st.1 haI st.2 hf (fun A E Q hq => sx_nextT st.2 hf hbt ?_) fun h' e' s' => ?_
    · rw [he]; exact hq
    · exact hQ _ h' s.toks ⟨_, he, rfl⟩ ⟨e', st.2.at fun o e => (s'.2 a haI).trans e⟩ fun b o hb e => (s'.2 b (fun q => hb (by simp [q]))).trans e
  done := fun s Q E st hQ => by
    refine sx_end hh st.1 st.2 hf (fun A E Q hq => sx_nextT st.2 hf hbt ?_) fun h' k => hQ h' s.toks fun b o hb e => k b o (fun q => hb (by simp [q])) e
    rw [Array.getElem?_eq_none (by omega)]
    exact hq
  self := fun _ _ _ _ st hQ => sx_self st.1 hQ
theorem walks_drawn {T : Addr} {pl : List Nat} (hh : A.handled = none) (haI : a ≠ I) (hTI : T ≠ I) (hf : t.fits es.size = true) (hl : pl.length = es.size) (hin : ∀ p ∈ pl, p < es.size) :
    Walks prog w A I [I, a, T] [I] es.size (fun i v => ∃ p e, pl[i]? = some p ∧ es[p]? = some e ∧ v = e.2) (fun i h => h.get? I = some (siObj (.ref T) i a es.size ep) ∧ SetAt h a es ep t ∧ h.IsTuple T (pl.map fun (p : Nat) => Value.int (p : Int) 0).toArray) where
  sub := fun b hb => by simp at hb; simp [hb]
  frame := fun _ _ _ st hk => ⟨hk I (by simp) _ st.1, st.2.1.at fun o e => hk a (by simp) o e, st.2.2.at fun o e => hk T (by simp) o e⟩
  item := fun i s Q E hi st hQ => by
    obtain ⟨hI, hS, hT⟩ := st
    have hp : pl[i]? = some (pl[i]'(by omega)) := List.getElem?_eq_getElem (by omega)
    generalize pl[i]'(by omega) = p at hp
    have hpm := hin p (List.mem_of_getElem? hp)
    have he : es[p]? = some es[p] := Array.getElem?_eq_getElem hpm
    refine sx_open hI hS hf ?_
    unfold sxBody
    dsimp only
    obtain ⟨oT, hoT, hcT, nT, hdT⟩ := id hT
    refine wpAny_bind (wpAny_seqItems hoT hdT ?_)
    dsimp only
    rw [Int.toNat_natCast, List.getElem?_toArray, List.getElem?_map, hp]
    dsimp only [Option.map_some]
    refine wpAny_bind (sx_nextD hS hf he ?_)
    refine wpAny_bind (si_set hI (by simp) fun h1 e1 s1 => ?_)
    refine wpAny_pure ⟨_, rfl, hQ _ h1 s.toks ⟨p, _, hp, he, rfl⟩ ⟨by rw [e1]; simp [rawInt], hS.at fun o e => (s1.2 a haI).trans e, hT.at fun o e => (s1.2 T hTI).trans e⟩ fun b o hb e => (s1.2 b (fun q => hb (by simp [q]))).trans e⟩
  done := fun s Q E st hQ => by
    obtain ⟨hI, hS, hT⟩ := st
    refine sx_open hI hS hf ?_
    unfold sxBody
    dsimp only
    obtain ⟨oT, hoT, hcT, nT, hdT⟩ := id hT
    refine wpAny_bind (wpAny_seqItems hoT hdT ?_)
    dsimp only
    rw [Int.toNat_natCast, List.getElem?_toArray, List.getElem?_eq_none (by rw [List.length_map, hl]; exact Nat.le_refl _)]
    dsimp only
    refine wpAny_bind (si_set hI (by simp) fun h1 e1 s1 => ?_)
    refine wpAny_bind (si_set e1 (by simp) fun h2 e2 s2 => ?_)
    exact sx_stop hh fun h' e k hT => ⟨hT, hQ h' s.toks fun b o hb e => k b o ((s2.2 b (fun q => hb (by simp [q]))).trans ((s1.2 b (fun q => hb (by simp [q]))).trans e))⟩
  self := fun _ _ _ _ st hQ => sx_self st.1 hQ
end
end
section
set_option maxHeartbeats 4000000
theorem offSet7 : True := by w_top off; trivial
theorem erase_perm {α : Type} : ∀ {l : List α} {i : Nat} (h : i < l.length), (l[i] :: l.eraseIdx i).Perm l
  | [], _, h => absurd h (Nat.not_lt_zero _)
  | _ :: _, 0, _ => .refl _
  | x :: r, i + 1, h => by
    have hi : i < r.length := Nat.lt_of_succ_lt_succ h
    have ih := erase_perm (l := r) (i := i) hi
    show (r[i] :: x :: r.eraseIdx i).Perm (x :: r)
    exact (List.Perm.swap _ _ _).trans (ih.cons x)
theorem pick_go {α : Type} (next : Nat → Nat) : ∀ (fuel k : Nat) (left : List α) (out : Array α), left.length ≤ fuel → (pickOrder.go next fuel k left out).toList.Perm (out.toList ++ left)
  | 0, k, left, out, h => by
    have : left = [] := List.length_eq_zero_iff.mp (Nat.le_zero.mp h)
    subst this
    simp [pickOrder.go]
  | fuel + 1, k, left, out, h => by
    unfold pickOrder.go
    cases left with
    | nil => simp
    | cons y r =>
      have hlt : next k % (y :: r).length < (y :: r).length := Nat.mod_lt _ (by simp)
      rw [List.getElem?_eq_getElem hlt]
      dsimp only
      generalize next k % (y :: r).length = i at hlt
      refine (pick_go next fuel (k + 1) _ _ (by rw [List.length_eraseIdx_of_lt hlt]; simp at h ⊢; omega)).trans ?_
      rw [Array.toList_push, List.append_assoc]
      refine List.Perm.append_left _ ?_
      exact erase_perm hlt
theorem pick_perm {α : Type} (next : Nat → Nat) (xs : Array α) : (pickOrder next xs).toList.Perm xs.toList := by
  have := pick_go next xs.size 0 xs.toList #[] (by simp)
  simpa [pickOrder] using this
section
variable {M : Model} {prog : Program} {w : World} {A : Around} {E : Value → Shared → Prop} {s : Shared} {a I : Addr}
open Sem (wp)
theorem sx_choose {src : Source} {n : Nat} {Q : Nat → Shared → Prop} (hn : n ≠ 0) (h : ∀ i dr, i < n → Q i { s with drawn := dr }) : wpAny M A (choose src n) Q E s := fun Γ p _ => by
  refine (show _ ∧ _ from ⟨hn, ?_⟩)
  exact h _ _ (Nat.mod_lt _ (Nat.pos_of_ne_zero hn))
theorem sx_order {α : Type} (n : Nat) : ∀ (xs : List α) (s : Shared) {Q : List α → Shared → Prop}, xs.length = n → (∀ ys dr, ys.Perm xs → Q ys { s with drawn := dr }) → wpAny M A (drawOrder n xs) Q E s := by
  induction n with
  | zero =>
    intro xs s Q hl h
    have : xs = [] := List.length_eq_zero_iff.mp hl
    subst this
    unfold drawOrder
    exact wpAny_pure (h [] s.drawn .nil)
  | succ n ih =>
    intro xs s Q hl h
    cases xs with
    | nil => cases hl
    | cons x r =>
      unfold drawOrder
      refine wpAny_bind (sx_choose (Nat.succ_ne_zero _) fun i dr hi => ?_)
      rw [List.getElem?_eq_getElem hi]
      dsimp only
      refine wpAny_bind (ih _ _ (by rw [List.length_eraseIdx_of_lt hi, hl]; rfl) fun ys dr' hp => wpAny_pure ?_)
      exact h _ dr' ((hp.cons _).trans (erase_perm hi))
/-- the values, whatever their order -/
theorem vals_of {es : Array (Int × Value)} {S : List Int} {l : List (Int × Value)} (hel : ElemsOf (intKind prog w) es.toList) (hp : (es.toList.map fun e => intOf e.2).Perm S) (hl : l.Perm es.toList) {vs : List Value} (hv : vs.length = l.length) (h : ∀ (j : Nat) v, vs[j]? = some v → ∃ e, l[j]? = some e ∧ v = e.2) :
    ∃ ns, IntsAre vs ns ∧ ns.Perm S := by
  refine ⟨l.map fun e => intOf e.2, ?_, (hl.map _).trans hp⟩
  refine ints_of (by rw [hv, List.length_map]) fun j v n hj hn => ?_
  obtain ⟨e, he, rfl⟩ := h j v hj
  rw [List.getElem?_map, he] at hn
  cases hn
  exact elem_int hel (hl.mem_iff.mp (List.mem_of_getElem? he))
theorem iter_set {S : List Int} (hS : SetI prog w s.heap a S) {Q : Value → Shared → Prop} (hh : A.handled = none)
    (h : ∀ (I : Addr) (fp : List Addr) (P : Nat → Value → Prop) (St : Nat → Heap → Prop) (h' : Heap) (tk : Nat) (dr : Drawn), (∀ b o, s.heap.get? b = some o → h'.get? b = some o) → s.heap.objs.size ≤ h'.objs.size → s.heap.get? I = none → (∀ b ∈ fp, b = a ∨ s.heap.get? b = none) → (∀ b ∈ fp, ∃ o, h'.get? b = some o) →
      Walks prog w A I fp [I] S.length P St → (∀ vs : List Value, vs.length = S.length → (∀ (j : Nat) v, vs[j]? = some v → P j v) → ∃ ns, IntsAre vs ns ∧ ns.Perm S) → St 0 h' → Q (.ref I) { s with heap := h', toks := tk, drawn := dr }) :
    wpAny (model prog w) A (pyIter (.ref a)) Q E s := by
  obtain ⟨o, es, ep, t, ho, hex, hd, hel, hf, hb, hn, hp⟩ := hS
  have hT : s.TypeIs (.ref a) "set" := ⟨o, ho, hex.1⟩
  have hlen : S.length = es.size := by rw [← hp.length_eq, List.length_map, Array.length_toList]
  have hat : SetAt s.heap a es ep t := ⟨o, ho, hex, hd⟩
  have halt := Heap.lt_size ho
  rw [hlen] at h
  refine wpAny_pyIter_slot hT PySem.F.slot_set_iter (wpAny_call_entry PySem.F.slot_set_iter hT sx_entry_iter ?_ (PySem.F.args_set_iter_1 _))
  unfold Builtin.«frozenset.__iter__»
  show wpAny _ _ (Builtin.Frozenset.sizeOf a >>= _) _ _ s
  unfold Builtin.Frozenset.sizeOf
  refine wpAny_bind (wpAny_bind (wpAny_setEntries_of ho hd hf (wpAny_pure ?_)))
  refine wpAny_bind (m := setDrawn a) ?_
  unfold setDrawn
  refine wpAny_bind (wpAny_setState_of ho hd hf ?_)
  dsimp only
  refine wpAny_bind (sx_text (wpAny_pure ?_))
  have push1 : ∀ first, (s.heap.push (siObj first 0 a es.size ep)).get? s.heap.objs.size = some (siObj first 0 a es.size ep) := fun first => Heap.get?_push_size _ rfl
  cases hbt : byText w with
  | true =>
    refine bm_if_false (by rfl) ?_
    refine wpAny_bind (wpAny_pure ?_)
    refine wpAny_bind (wpAny_setEpoch_of ho hd hf ?_)
    refine wpAny_bind (wpAny_newObj_type (wpAny_pure ⟨_, rfl, "set_iterator", _, ⟨_, Heap.get?_push_size _ rfl, rfl⟩, sx_slot_next.lookup, ?_⟩))
    have hz : (pickOrder (w.params.setOrder a ep) es).size = es.size := by rw [← Array.length_toList, (pick_perm _ _).length_eq, Array.length_toList]
    refine h s.heap.objs.size [s.heap.objs.size, a] _ _ _ s.toks s.drawn (fun b o e => Heap.get?_push_of_some _ e) (by rw [Heap.size_push]; omega) (Heap.get?_none_of_le (Nat.le_refl _)) (fun b hb => ?_) (fun b hb => ?_) (walks_text hh (Nat.ne_of_lt halt) hf hbt hz) (fun vs hl hv => ?_) ⟨push1 _, hat.at fun o e => Heap.get?_push_of_some _ e⟩
    · simp only [List.mem_cons, List.not_mem_nil, or_false] at hb
      rcases hb with rfl | rfl
      · exact .inr (Heap.get?_none_of_le (Nat.le_refl _))
      · exact .inl rfl
    · simp only [List.mem_cons, List.not_mem_nil, or_false] at hb
      rcases hb with rfl | rfl
      · exact ⟨_, push1 _⟩
      · exact ⟨_, Heap.get?_push_of_some _ ho⟩
    · exact vals_of (l := (pickOrder (w.params.setOrder a ep) es).toList) hel hp (pick_perm _ _) (hl.trans (hz.symm.trans Array.length_toList.symm)) fun j v hj => by
        obtain ⟨e, he, r⟩ := hv j v hj
        exact ⟨e, by rw [Array.getElem?_toList]; exact he, r⟩
  | false =>
    rw [hbt] at hn
    cases hdr : (!t.plain && decide (es.size > 1)) with
    | false =>
      refine bm_if_false (show (!false && (!t.plain && decide (es.size > 1))) = false by rw [hdr]; rfl) ?_
      refine wpAny_bind (wpAny_pure ?_)
      refine wpAny_bind (wpAny_setEpoch_of ho hd hf ?_)
      refine wpAny_bind (wpAny_newObj_type (wpAny_pure ⟨_, rfl, "set_iterator", _, ⟨_, Heap.get?_push_size _ rfl, rfl⟩, sx_slot_next.lookup, ?_⟩))
      refine h s.heap.objs.size [s.heap.objs.size, a] _ _ _ s.toks s.drawn (fun b o e => Heap.get?_push_of_some _ e) (by rw [Heap.size_push]; omega) (Heap.get?_none_of_le (Nat.le_refl _)) (fun b hb => ?_) (fun b hb => ?_) (walks_table hh (Nat.ne_of_lt halt) hf (by rw [hbt]; exact hn) hbt hdr) (fun vs hl hv => ?_) ⟨push1 _, hat.at fun o e => Heap.get?_push_of_some _ e⟩
      · simp only [List.mem_cons, List.not_mem_nil, or_false] at hb
        rcases hb with rfl | rfl
        · exact .inr (Heap.get?_none_of_le (Nat.le_refl _))
        · exact .inl rfl
      · simp only [List.mem_cons, List.not_mem_nil, or_false] at hb
        rcases hb with rfl | rfl
        · exact ⟨_, push1 _⟩
        · exact ⟨_, Heap.get?_push_of_some _ ho⟩
      · exact vals_of (l := es.toList) hel hp .rfl (by rw [Array.length_toList]; exact hl) fun j v hj => by
          obtain ⟨e, he, r⟩ := hv j v hj
          exact ⟨e, by rw [Array.getElem?_toList]; exact he, r⟩
    | true =>
      refine bm_if_true (show (!false && (!t.plain && decide (es.size > 1))) = true by rw [hdr]; rfl) ?_
      refine wpAny_bind (sx_order _ _ _ (List.length_range) fun pl dr hpl => ?_)
      refine wpAny_bind (wpAny_newTuple ?_ (by rw [List.length_map, hpl.length_eq, List.length_range]; exact fits_of_scanBound hb))
      have ho1 : (s.heap.push { cls := .type "tuple", data := .seq (pl.map fun (i : Nat) => rawInt (i : Int)).toArray }).get? a = some o := Heap.get?_push_of_some _ ho
      refine wpAny_bind (wpAny_setEpoch_of ho1 hd hf ?_)
      refine wpAny_bind (wpAny_newObj_type (wpAny_pure ⟨_, rfl, "set_iterator", _, ⟨_, Heap.get?_push_size _ rfl, rfl⟩, sx_slot_next.lookup, ?_⟩))
      have hplen : pl.length = es.size := by rw [hpl.length_eq, List.length_range]
      have hplin : ∀ p ∈ pl, p < es.size := fun p hp => List.mem_range.mp (hpl.mem_iff.mp hp)
      have kp : ∀ b o, s.heap.get? b = some o → ((s.heap.push { cls := .type "tuple", data := .seq (pl.map fun (i : Nat) => rawInt (i : Int)).toArray }).push (siObj (.ref s.heap.objs.size) 0 a es.size ep)).get? b = some o := fun b o e => Heap.get?_push_of_some _ (Heap.get?_push_of_some _ e)
      have hs2 : (s.heap.push { cls := .type "tuple", data := .seq (pl.map fun (i : Nat) => rawInt (i : Int)).toArray }).objs.size = s.heap.objs.size + 1 := Heap.size_push _ _
      have hTt : ((s.heap.push { cls := .type "tuple", data := .seq (pl.map fun (i : Nat) => rawInt (i : Int)).toArray }).push (siObj (.ref s.heap.objs.size) 0 a es.size ep)).get? s.heap.objs.size = some { cls := .type "tuple", data := .seq (pl.map fun (i : Nat) => rawInt (i : Int)).toArray } := Heap.get?_push_of_some _ (Heap.get?_push_size _ rfl)
      have hIt : ((s.heap.push { cls := .type "tuple", data := .seq (pl.map fun (i : Nat) => rawInt (i : Int)).toArray }).push (siObj (.ref s.heap.objs.size) 0 a es.size ep)).get? (s.heap.objs.size + 1) = some (siObj (.ref s.heap.objs.size) 0 a es.size ep) := Heap.get?_push_at hs2.symm rfl
      show Q (.ref (s.heap.push { cls := .type "tuple", data := .seq (pl.map fun (i : Nat) => rawInt (i : Int)).toArray }).objs.size) _
      rw [hs2]
      refine h (s.heap.objs.size + 1) [s.heap.objs.size + 1, a, s.heap.objs.size] _ _ _ s.toks dr kp (by rw [Heap.size_push, hs2]; omega) (Heap.get?_none_of_le (Nat.le_succ _)) (fun b hb => ?_) (fun b hb => ?_) (walks_drawn (pl := pl) hh (Nat.ne_of_lt (Nat.lt_succ_of_lt halt)) (Nat.ne_of_lt (Nat.lt_succ_self _)) hf hplen hplin) (fun vs hl hv => ?_) ⟨hIt, hat.at fun o e => kp _ _ e, ⟨_, hTt, rfl, _, rfl⟩⟩
      · simp only [List.mem_cons, List.not_mem_nil, or_false] at hb
        rcases hb with rfl | rfl | rfl
        · exact .inr (Heap.get?_none_of_le (Nat.le_succ _))
        · exact .inl rfl
        · exact .inr (Heap.get?_none_of_le (Nat.le_refl _))
      · simp only [List.mem_cons, List.not_mem_nil, or_false] at hb
        rcases hb with rfl | rfl | rfl
        · exact ⟨_, hIt⟩
        · exact ⟨_, kp _ _ ho⟩
        · exact ⟨_, hTt⟩
      · have hperm : (pl.filterMap fun i => es[i]?).Perm es.toList := (hpl.filterMap _).trans (by rw [filterMap_getElem?_range])
        have hfm : ∀ (l : List Nat), (∀ p ∈ l, p < es.size) → ∀ j : Nat, (l.filterMap fun i => es[i]?)[j]? = (l[j]?).bind fun i => es[i]? := by
          intro l
          induction l with
          | nil => intro _ j; simp
          | cons p r ih =>
            intro hin j
            have hpl1 : p < es.size := hin p (.head _)
            have he : es[p]? = some es[p] := Array.getElem?_eq_getElem hpl1
            rw [List.filterMap_cons_some he]
            cases j with
            | zero => simp [he]
            | succ j => simpa using ih (fun q hq => hin q (.tail _ hq)) j
        refine vals_of (l := pl.filterMap fun i => es[i]?) hel hp hperm (by rw [hperm.length_eq, Array.length_toList]; exact hl) fun j v hj => ?_
        obtain ⟨p, e, h1, h2, r⟩ := hv j v hj
        exact ⟨e, by rw [hfm pl hplin, h1]; exact h2, r⟩
end
end
section
set_option maxHeartbeats 4000000
theorem offSet8 : True := by w_top off; trivial
section
variable {prog : Program} {w : World} {A : Around} {E : Value → Shared → Prop} {s : Shared} {a : Addr}
theorem si_hint {Q : Bool → Shared → Prop} (hT : s.TypeIs (.ref a) "set") (h : Q false s) : wpAny (model prog w) A (Builtin.List.listLengthHint (.ref a)) Q E s := by
  unfold Builtin.List.listLengthHint
  refine wpAny_bind (wpAny_specialOf hT PySem.F.slot_set_len.lookup ?_)
  generalize hid : ("set.__len__" : String) = id0
  wp_delta
  rw [show splitId id0 = some ("set", "__len__") from by subst hid; decide +kernel]
  subst hid
  refine wpAny_bind (wpAny_isInstance (T := "set") (b := true) hT (by rw [isSubtype_type]; kernel_rfl) ?_)
  refine wpAny_ite_split (fun hab => absurd hab (by decide)) (fun _ => ?_)
  refine wpAny_ite_split (fun _ => ?_) (fun hab => absurd (by decide +kernel) hab)
  refine wpAny_bind (wpAny_typeOf hT ?_)
  exact wpAny_pure h
theorem si_extend {S : List Int} {R : Result → Shared → Prop} (hS : SetI prog w s.heap a S) (hh : A.handled = none) (D : Addr) (hDa : D ≠ a) (res : Value) (c₀ : Nat) (hD : s.heap.get? D = some { cls := .type "list", data := .seq #[] c₀ }) (hn : S.length ≤ sizeLine)
    (hR : ∀ h' tk dr acc' c', (∀ b o, b ≠ D → s.heap.get? b = some o → h'.get? b = some o) → h'.get? D = some { cls := .type "list", dict := none, data := .seq acc' c', slots := #[] } → (∃ ns, IntsAre acc'.toList ns ∧ ns.Perm S) → R (.ok (.ret res)) { s with heap := h', toks := tk, drawn := dr }) :
    wpAny (model prog w) A.in1 (Builtin.List.listExtendWith (.ref D) (.ref a) res)
      (fun fin s' => match fin with | .done f => R (.ok f) s' | .again c' => c'.quiet = true ∧ codeAny (model prog w) A c' R s') (fun e s' => R (.error e) s') s := by
  have hT : s.TypeIs (.ref a) "set" := by obtain ⟨o, es, ep, t, ho, hex, _⟩ := hS; exact ⟨o, ho, hex.1⟩
  unfold Builtin.List.listExtendWith
  refine wpAny_bind (wpAny_typeOf hT ?_)
  have h1 : Builtin.List.listSameRef (.ref D) (.ref a) = false := by simp [Builtin.List.listSameRef, hDa]
  simp only [h1, show (Value.type "set" == Value.type "list") = false by decide, show (Value.type "set" == Value.type "tuple") = false by decide, Bool.or_false, Bool.false_eq_true, if_false]
  refine wpAny_bind (iter_set hS (by simpa using hh) fun I fp P St h' tk dr keep hsz hI hfp live W hord st => ?_)
  have hDI : D ≠ I := fun q => by rw [q, hI] at hD; cases hD
  have hDf : D ∉ fp := fun hm => by
    rcases hfp D hm with q | q
    · exact hDa q
    · rw [hD] at q; cases q
  have key : ∀ (h : Heap) (c₁ tk : Nat), St 0 h → (∀ b o, b ≠ D → h'.get? b = some o → h.get? b = some o) →
      h.get? D = some { cls := .type "list", data := .seq #[] c₁ } → codeAny (model prog w) A (.builtin "list.extend.loop" ⟨[.ref D, .ref I, res], []⟩) R { s with heap := h, toks := tk, drawn := dr } := by
    intro h c₁ tk hst hk hD₁
    refine codeAny_extend_loopS W.toS hn D hDf res _ 0 _ #[] c₁ rfl (Nat.zero_le _) hst hD₁ (ItemsOf.nil _) fun s' acc' c' hm hD' hacc => ?_
    rw [Moved.eq_with hm]
    refine hR s'.heap s'.toks dr acc' c' (fun b o hb e => hm.heap b o (fun hmem => ?_) (hk b o hb (keep b o e))) hD' ?_
    · rcases List.mem_cons.mp hmem with e' | hmem
      · exact hb e'
      · rw [List.mem_singleton.mp hmem, hI] at e; cases e
    · exact hord acc'.toList (by rw [Array.length_toList]; exact hacc.1) fun j v e => hacc.2 j v (by rw [← Array.getElem?_toList]; exact e)
  have hD₁ := keep _ _ hD
  have hT1 : Shared.TypeIs { s with heap := h', toks := tk, drawn := dr } (.ref a) "set" := by obtain ⟨o, ho, hc⟩ := hT; exact ⟨o, keep _ _ ho, hc⟩
  refine wpAny_bind (wpAny_holding (si_hint hT1 ?_))
  refine wpAny_ite_split (fun _ => ?_) (fun _ => wpAny_pure ⟨plainId_quiet PySem.F.plain_extend_loop _, key _ c₀ _ st (fun b o _ e => e) hD₁⟩)
  refine wpAny_bind (wpAny_rule ?_)
  refine wpAny_bind ?_
  show wpAny _ _ (updateSeq D (·.push .none) >>= fun _ => updateSeq D (·.pop)) _ _ _
  refine wpAny_bind (wpAny_updateSeq hD₁ rfl ?_)
  have hD₂ := Heap.get?_update_self (Obj.mapSeq (·.push Value.none)) hD₁ rfl
  refine wpAny_updateSeq (hz := by seq_fits) hD₂ rfl ?_
  have hD₃ := Heap.get?_update_self (Obj.mapSeq (·.pop)) hD₂ rfl
  refine wpAny_pure ⟨plainId_quiet PySem.F.plain_extend_loop _, key _ _ _ ?_ (fun b o hb e => ?_) hD₃⟩
  · refine W.frame 0 _ _ st fun b hb o e => ?_
    have hbD : b ≠ D := fun h => hDf (h ▸ hb)
    exact (Heap.get?_update_other _ _ (Ne.symm hbD)).trans ((Heap.get?_update_other _ _ (Ne.symm hbD)).trans e)
  · exact (Heap.get?_update_other _ _ (Ne.symm hb)).trans ((Heap.get?_update_other _ _ (Ne.symm hb)).trans e)
theorem si_collect {S : List Int} {R : List Value → Shared → Prop} (hS : SetI prog w s.heap a S) (hh : A.handled = none) (hn : S.length ≤ sizeLine)
    (h : ∀ (h' : Heap) (tk : Nat) (dr : Drawn) (vs : List Value), (∀ b o, s.heap.get? b = some o → h'.get? b = some o) → (∃ ns, IntsAre vs ns ∧ ns.Perm S) → R vs { s with heap := h', toks := tk, drawn := dr }) :
    wpAny (model prog w) A (collect (.ref a)) R E s := by
  have hlt : a < s.heap.objs.size := by obtain ⟨o, es, ep, t, ho, _⟩ := hS; exact Heap.lt_size ho
  unfold collect
  refine wpAny_bind (wpAny_runValue (codeAny_builtin entry_proto_collect' ?_))
  rw [Around.under_plainId PySem.F.plain_proto_collect _]
  show wpAny _ A.in1 (newList [] >>= fun l => again (.builtin "list.__iadd__" ⟨[l, .ref a], []⟩)) _ _ s
  refine wpAny_bind (wpAny_newObj_type ?_)
  refine wpAny_pure ⟨plainId_quiet PySem.F.plain_list_iadd _, codeAny_builtin entry_list_iadd' ?_⟩
  rw [Around.under_plainId PySem.F.plain_list_iadd _]
  have hD : (s.heap.push { cls := .type "list", data := .seq ([] : List Value).toArray }).get? s.heap.objs.size = some { cls := .type "list", data := .seq #[] } := Heap.get?_push_size _ rfl
  show wpAny _ A.in1 (Builtin.List.listExtendWith (.ref s.heap.objs.size) (.ref a) (.ref s.heap.objs.size)) _ _ _
  have key := si_extend (A := A) (s := { s with heap := s.heap.push { cls := .type "list", data := .seq ([] : List Value).toArray } }) (S := S)
    (R := fun (q : Result) (s' : Shared) => ∃ (h' : Heap) (tk : Nat) (dr : Drawn) (acc' : Array Value) (c' : Nat), q = .ok (.ret (.ref s.heap.objs.size)) ∧ s' = { s with heap := h', toks := tk, drawn := dr } ∧
      (∀ b o, s.heap.get? b = some o → h'.get? b = some o) ∧ h'.get? s.heap.objs.size = some { cls := .type "list", dict := none, data := .seq acc' c', slots := #[] } ∧ ∃ ns, IntsAre acc'.toList ns ∧ ns.Perm S)
    (hS.at fun o e => Heap.get?_push_of_some _ e) hh s.heap.objs.size (Nat.ne_of_gt hlt) (.ref s.heap.objs.size) 0 hD hn
    (fun h' tk dr acc' c' hk hD' hacc => ⟨h', tk, dr, acc', c', rfl, rfl, fun b o e => hk b o (Nat.ne_of_lt (Heap.lt_size e)) (Heap.get?_push_of_some _ e), hD', hacc⟩)
  refine wpAny_mono key (fun fin s' x => ?_) fun e s' x => ?_
  · cases fin with
    | done f =>
      obtain ⟨h', tk, dr, acc', c', e, rfl, hk, hS', hacc⟩ := x
      cases e
      show wpAny _ A (load s.heap.objs.size >>= _) _ _ _
      refine wpAny_bind (wpAny_load hS' ?_)
      exact wpAny_pure (h h' tk dr _ hk hacc)
    | again c₁ =>
      refine ⟨x.1, codeAny_mono x.2 fun q s₂ y => ?_⟩
      obtain ⟨h', tk, dr, acc', c', rfl, rfl, hk, hS', hacc⟩ := y
      show wpAny _ A (load s.heap.objs.size >>= _) _ _ _
      refine wpAny_bind (wpAny_load hS' ?_)
      exact wpAny_pure (h h' tk dr _ hk hacc)
  · obtain ⟨_, _, _, _, _, e', _⟩ := x
    cases e'
theorem si_sorted {S : List Int} {h₀ : Heap} {L : Addr} {m : Str → Option Value} {news : List (Addr × Obj)} {Q : Value → Shared → Prop} (hS : SetI prog w s.heap a S) (hh : A.handled = none) (F : Fr h₀ L s.heap m) (N : News h₀ L s.heap news) (hn : S.length < 64)
    (h : ∀ D vs c h' tk dr, Fr h₀ L h' m → News h₀ L h' ((D, PySem.W.listOf vs.toArray c) :: news) → (∀ q ∈ news, q.1 < D) → IntsAre vs (sortL S) → Q (.ref D) { s with heap := h', toks := tk, drawn := dr }) :
    wpAny (model prog w) A (call (.builtin "sorted") [.ref a]) Q E s := by
  have hn' : S.length ≤ sizeLine := Nat.le_trans (Nat.le_of_lt hn) (by size_fits)
  refine call_function_entry kind_sorted plain_sorted entry_sorted (args_sorted1 _) ?_
  unfold Builtin.«sorted»
  refine wpAny_bind (m := checkCount "sorted" 1 1 _) (wpAny_pure ?_)
  refine wpAny_bind (si_collect (A := A.in1) hS hh hn' fun h' tk dr vs hk hv => ?_)
  obtain ⟨ns, hi, hp⟩ := hv
  have hl : vs.length = S.length := hi.length.trans hp.length_eq
  refine wpAny_bind (wpAny_newList ?_ (by rw [hl]; exact hn'))
  have F1 := (F.keeps hk).push { cls := .type "list", data := .seq vs.toArray }
  have N1 := News.push (F.keeps hk) (fun p hp => ⟨hk _ _ (N p hp).1, (N p hp).2⟩) { cls := .type "list", data := .seq vs.toArray } 
  have l1 : ∀ q ∈ news, q.1 < h'.objs.size := fun q hq => Heap.lt_size (hk _ _ (N q hq).1)
  have N1' : News h₀ L (h'.push { cls := .type "list", data := .seq vs.toArray }) ((h'.objs.size, PySem.W.listOf vs.toArray 0) :: news) := N1
  refine wpAny_bind (wpAny_holding (ksk_lsort (s := { s with heap := h'.push { cls := .type "list", data := .seq vs.toArray }, toks := tk, drawn := dr }) (news' := fun o => (h'.objs.size, o) :: news) F1 N1' (fun o => .head fun p hp => Nat.ne_of_lt (l1 p hp)) rfl hi (by rw [hp.length_eq]; exact hn) fun vs' ns' c h2 F2 N2 i2 _ p2 o2 _ => ?_))
  have e := sortL_eq (p2.trans hp) o2
  subst e
  exact wpAny_pure ⟨_, rfl, h _ vs' c h2 tk dr F2 N2 l1 i2⟩
end
end
section
set_option maxHeartbeats 4000000
theorem offGTop : True := by w_top off; trivial
section
variable {prog : Program} {w : World} {A : Around} {E : Value → Shared → Prop} {s : Shared} {env : Env}
/-- try .. except, on clean stacks -/
theorem wpG_Try {body orelse : List Stmt} {h₀ : ExceptHandler} {hs : List ExceptHandler} {pos : Pos} {Q : Flow → Shared → Prop}
    (h : wpG (model prog w) A (execs body env) (fun f s₁ => match f with | .next => wpG (model prog w) A (execs orelse env) Q E s₁ | f => Q f s₁)
      (fun e s₁ => wpAny (model prog w) A (noteFrame e env) (fun _ s₂ => wpAny (model prog w) A (setFlight e none) (fun _ s₃ => wpAny (model prog w) A (handleBy e env (h₀ :: hs)) Q E s₃) E s₂) E s₁) s) :
    wpG (model prog w) A (exec (.Try body (h₀ :: hs) orelse [] pos) env) Q E s := by
  rw [arm_exec_Try]
  refine wpG_bindAny (wpAny_standAt ?_)
  unfold tryStmt
  simp only [List.isEmpty_nil, if_true, List.isEmpty_cons, Bool.false_and, Bool.false_eq_true, if_false]
  refine wpG_bind (wpG_attempt (wpG_mono h (fun f s₁ h₁ => ?_) fun e s₁ h₁ => ?_))
  · cases f <;> first | exact h₁ | exact wpG_pure h₁
  · exact wpG_any (wpAny_bind (wpAny_mono h₁ (fun _ _ h₂ => wpAny_bind h₂) fun _ _ x => x))
end
section
variable {prog : Program} {w : World} {A₀ A : Around} {s : Shared} {K : Frag} {p : Program} {loose : List Str} {mean : ExcName → Option Value} {mg mb : Str → Option Value}
  {R : Result → Shared → Prop} {name qual : Str} {params : Arguments} {body : List Stmt} {scope : Scope} {dV kV doc pm cdv ct oc : Value} {an od : Option Addr} {osl : Array (Option Value)} {f : Addr} {args : Args} {binds : List (Str × Value)}
/-- the law's own def is entered -/
theorem top_callGC (X₀ : K.In s.heap) (T : Top p loose mean mg mb s.heap) (hA : A.frames = some [])
    (ho : K.lookup f = some ⟨oc, od, .func (fnOf name qual params body scope dV kV doc pm an cdv ct), osl⟩) (hcd : codeIn K cdv qual = true) (hroom : A.depth < recursionLimit)
    (hbind : BindsTo s (fnOf name qual params body scope dV kV doc pm an cdv ct) args binds) (hkind : (binds.all fun y => scope.names.lookup y.1 == some .local || scope.names.lookup y.1 == some .cell) = true)
    (hnd : ((cellsFrom 0 scope.names []).map (·.1)).Nodup)
    (h : ∀ L' h₁ tk cells, Fr s.heap L' h₁ (bindL (envOfC qual scope L' f cdv).kindOf binds fun _ => none) → News s.heap L' h₁ cells →
      CellsAre (bindC (envOfC qual scope L' f cdv).kindOf binds fun _ => none) (cellsFrom (L' + 1) scope.names []) cells → Below A s.heap [] s.heap →
      wpG (model prog w) (A.deeper (envOfC qual scope L' f cdv)) (execs body (envOfC qual scope L' f cdv))
        (fun fl s' => R (.ok (.ret (match fl with | .ret v => v | _ => .none))) s')
        (fun e s' => wpAny (model prog w) (A.deeper (envOfC qual scope L' f cdv)) (leaving (envOfC qual scope L' f cdv) e) (fun _ s'' => R (.error e) s'') (fun e' s'' => R (.error e') s'') s')
        { s with heap := h₁, toks := tk })
    (hco : scope.isCoroutine = false) (hgen : scope.isGenerator = false) (hk : scope.kind = .function) : codeG (model prog w) A (.call (.ref f) args) R s := by
  refine codeG_call_function hroom (X₀ _ _ ho) rfl hco hgen rfl (codeRec_of X₀ hcd) (hbind _ _ _ _ ?_)
  refine wpAny_newFunctionEnv_cells hk (kindsX hkind _) fun env' he s' x => ?_
  subst he
  refine ⟨T.nolimit.keeps x.toInCall.keep, codeG_func ?_⟩
  obtain ⟨h₁, tk, rfl, _⟩ := x.done
  have hk₁ := x.toInCall.keep
  obtain ⟨cells, NC, Y⟩ := Cl.news (h₀ := s.heap) (Nat.le_refl _) fun n c hm => ⟨x.cell n c (lookup_of_mem_nodup (cellsFrom_names scope.names 0 (s.heap.objs.size + 1) [] [] rfl ▸ hnd) hm), x.above n c hm⟩
  exact h s.heap.objs.size h₁ tk cells ⟨x.toInCall.ns, fun b o e => hk₁ b o e, Nat.le_refl _⟩ NC Y ⟨hA, fun _ _ e => e, trivial⟩
end
theorem enter_callG {M : Model} {A : Around} {s : Shared} {f : Value} {pos : List Value} {kw : List (Str × Value)} {c : ClaimW} {cl : Str → Option Addr} {mean : ExcName → Option Value} {args : List WData} {s₁ : Shared}
    (h : codeG M A (.call f ⟨pos, kw⟩) (GoodWG c cl mean args s₁) s) : wpG M A (PySem.call f pos kw) (fun v s' => GoodWG c cl mean args s₁ (.ok (.ret v)) s') (fun e s' => GoodWG c cl mean args s₁ (.error e) s') s :=
  wpG_call (codeG_mono h fun res s' g => by rcases g.1 with ⟨v, _, _, rfl, _⟩ | ⟨e, _, _, rfl, _⟩ <;> exact g)
section
variable {w : World} {A₀ : Around} {E : Value → Shared → Prop} {s' : Shared} {h₀ h : Heap} {outer : List Env} {L a e t : Addr} {m : Str → Option Value} {cn : Str} {cs : Scope} {ccd : Value} {cl : List (Str × Addr)}
  {vs : List Value} {b₀ : Stmt} {suite : List Stmt} {pos np : Pos} {rest : List ExceptHandler} {Q : Flow → Shared → Prop} {news : List (Addr × Obj)} {loose : List Str} {mean : ExcName → Option Value} {mg mb : Str → Option Value}
/-- a TableFault is taken by its name -/
theorem caught_tf (K : Below A₀ h₀ outer h₀) (F : Fr h₀ L h m) (hsm : h.UpToSlots s'.heap) (R : RaisedK h₀ (envX cn cs L a ccd cl :: outer) e (.ref 61) t vs news s'.heap)
    (X : (KK w).In h₀) (T : Top VW loose mean mg mb h₀) (ex : nsIn (KK w) mainGlobals "TableFault" = some (some (.ref 61)))
    (k : ∀ h', Fr h₀ L h' m → News h₀ L h' news → wpAny (model Pr w) ((A₀.deeper (envX cn cs L a ccd cl)).mark (some (.ref e))) (execs (b₀ :: suite) (envX cn cs L a ccd cl)) Q (fun _ _ => False) { s' with heap := h' })
    (hk : cs.kind = .function) (hx : (envX cn cs L a ccd cl).kindOf "TableFault" = some .globalImplicit) :
    wpAny (model Pr w) (A₀.deeper (envX cn cs L a ccd cl)) (noteFrame (.ref e) (envX cn cs L a ccd cl))
      (fun _ s₂ => wpAny (model Pr w) (A₀.deeper (envX cn cs L a ccd cl)) (setFlight (.ref e) none) (fun _ s₃ =>
        wpAny (model Pr w) (A₀.deeper (envX cn cs L a ccd cl)) (handleBy (.ref e) (envX cn cs L a ccd cl) (.ExceptHandler (some (.Name "TableFault" np)) none (b₀ :: suite) pos :: rest)) Q E s₃) E s₂) E s' := by
  obtain ⟨⟨B, hB, hl, hfl, hnew⟩, htup⟩ := R
  have hL : B.get? L = none := by
    obtain ⟨_, ⟨L', _, hf, hn', _⟩, _⟩ := hfl.2.2.1
    obtain rfl : L = L' := Option.some.inj hf
    exact hn'
  refine wpAny_looks_onW (Around.frames_deeper K.stack) rfl hfl fun h₄ hheld₄ hsm₄ => ?_
  refine wpAny_landsW hheld₄ fun h₅ hheld hsm₅' => ?_
  have hsm₅ := hsm₄.trans hsm₅'
  have hheld' := flyingW_base hB hheld
  have F₅ := F.of_stays hheld'.1 (hsm.trans hsm₅)
  obtain ⟨ob, hob, hobc⟩ := hheld'.there
  refine wpAny_handleBy_cons (codeAny_handlers_test (nameX_K F₅ X (topRead_of T) ex ?_ hk hx (by decide))) (by intro q; cases q)
  have hC : h₅.get? 61 = _ := X.keeps F₅.keep 61 _ rfl
  refine wpAny_excMatches_sub_self (bm := [.ref 48, .type "Exception", .type "BaseException", .type "object"]) hC hob hobc (by decide) (codeAny_handlers_suite ?_)
  refine lands_againW hheld fun h₆ hfl₆ hsm₆ => ?_
  have hfl₆' := flyingW_base hB hfl₆
  have F₆ := F.of_stays hfl₆'.1 ((hsm.trans hsm₅).trans hsm₆)
  exact wpAny_mono (k h₆ F₆ fun q hq => ⟨hfl₆.1 _ _ (hl q hq).1, (fun z => by have := (hl q hq).1; rw [z, hL] at this; cases this), (hl q hq).2⟩) (fun _ _ x => x) fun _ _ x => x.elim
end
end
section
theorem offPlain3 : True := by w_top off; trivial
theorem mem_step {S : List Int} {k x : Int} : x ∈ step_dedup S k ↔ x ∈ S ∨ x = k := by
  unfold step_dedup
  split
  · rename_i h
    have h' : k ∈ S := by simpa using h
    constructor
    · exact .inl
    · rintro (h | rfl)
      · exact h
      · exact h'
  · simp
theorem mem_dedup {ns : List Int} {x : Int} : x ∈ dedup ns ↔ x ∈ ns := by
  have key : ∀ (l S : List Int), x ∈ l.foldl step_dedup S ↔ x ∈ S ∨ x ∈ l := by
    intro l
    induction l with
    | nil => intro S; simp
    | cons k r ih =>
      intro S
      rw [List.foldl_cons, ih, mem_step, List.mem_cons]
      constructor
      · rintro ((h | h) | h)
        · exact .inl h
        · exact .inr (.inl h)
        · exact .inr (.inr h)
      · rintro (h | h | h)
        · exact .inl (.inl h)
        · exact .inl (.inr h)
        · exact .inr h
  rw [dedup, key]
  simp
theorem dedup_one {l : List Int} {δ : Int} (h : ∀ x ∈ l, x = δ) : l.foldl step_dedup [δ] = [δ] := by
  induction l with
  | nil => rfl
  | cons k r ih =>
    rw [List.foldl_cons]
    have e : step_dedup [δ] k = [δ] := by
      rw [h k (.head _)]
      unfold step_dedup
      simp
    rw [e]
    exact ih fun x hx => h x (.tail _ hx)
/-- the sorted list of the deltas -/
def deltasL (ps : List (Int × Int)) : List Int := sortL (dedup (ps.map dl))
theorem deltasL_cases (ps : List (Int × Int)) : (deltasL ps = [] ∧ deltaOf ps = some 0) ∨ (∃ δ, deltasL ps = [δ] ∧ deltaOf ps = some δ) ∨ (2 ≤ (deltasL ps).length ∧ deltaOf ps = none) := by
  cases ps with
  | nil => exact .inl ⟨by simp [deltasL, dedup, sortL], rfl⟩
  | cons p r =>
    right
    by_cases h : r.all (fun q => decide (dl q = dl p)) = true
    · left
      refine ⟨dl p, ?_, by simp only [deltaOf]; rw [if_pos h]⟩
      have hall : ∀ x ∈ r.map dl, x = dl p := fun x hx => by
        obtain ⟨q, hq, rfl⟩ := List.mem_map.mp hx
        rw [List.all_eq_true] at h
        simpa using h q hq
      have e : dedup ((p :: r).map dl) = [dl p] := by
        unfold dedup
        rw [List.map_cons, List.foldl_cons]
        have e1 : step_dedup [] (dl p) = [dl p] := by unfold step_dedup; simp
        rw [e1]
        exact dedup_one hall
      unfold deltasL
      rw [e]
      exact List.perm_singleton.mp (sortL_perm _)
    · right
      refine ⟨?_, by simp only [deltaOf]; rw [if_neg h]⟩
      unfold deltasL
      rw [(sortL_perm _).length_eq]
      have hp : dl p ∈ dedup ((p :: r).map dl) := mem_dedup.mpr (by simp)
      obtain ⟨q, hq, hne⟩ : ∃ q ∈ r, dl q ≠ dl p := by
        rw [Bool.not_eq_true, List.all_eq_false] at h
        obtain ⟨q, hq, hne⟩ := h
        exact ⟨q, hq, by simpa using hne⟩
      have hq' : dl q ∈ dedup ((p :: r).map dl) := mem_dedup.mpr (by
        rw [List.map_cons]
        exact .tail _ (List.mem_map_of_mem hq))
      generalize dedup ((p :: r).map dl) = D at hp hq'
      match D, hp, hq' with
      | [], hp, _ => cases hp
      | [y], hp, hq' =>
        rw [List.mem_singleton] at hp hq'
        exact absurd (hq'.trans hp.symm) hne
      | _ :: _ :: _, _, _ => simp
def Byte (l : List Int) : Prop := ∀ x ∈ l, 0 ≤ x ∧ x < 256
theorem byte_app {a b : List Int} (ha : Byte a) (hb : Byte b) : Byte (a ++ b) := fun x hx => (List.mem_append.mp hx).elim (ha x) (hb x)
theorem byte_oct {n : Int} (h : 0 ≤ n ∧ n < 65536) : Byte (oct2 n) := oct2_byte h
theorem byte_flat {l : List Int} {f : Int → Int} (h : ∀ g ∈ l, 0 ≤ f g ∧ f g < 65536) : Byte (l.flatMap fun g => oct2 (f g)) := fun x hx => by
  obtain ⟨g, hg, hx⟩ := List.mem_flatMap.mp hx
  exact oct2_byte (h g hg) x hx
theorem coverL_byte {gs : List Int} (hl : gs.length ≤ 64) (hr : ∀ g ∈ gs, 0 ≤ g ∧ g < 65536) : Byte (coverL gs) := by
  have hs := spansOf_len gs
  unfold coverL
  split
  · exact byte_app (byte_app (byte_oct (by decide)) (byte_oct (by omega))) (byte_flat (f := fun g => g) hr)
  · have key : ∀ i, i ≤ (spansOf gs).length → Byte (((spansOf gs).take i).foldl spanFold (oct2 2 ++ oct2 (spansOf gs).length, 0)).1 := by
      intro i
      induction i with
      | zero => intro _; exact byte_app (byte_oct (by decide)) (byte_oct (by omega))
      | succ i ih =>
        intro hi
        have h1 := ih (by omega)
        have h2 := index_range gs (oct2 2 ++ oct2 (spansOf gs).length) i hl
        obtain ⟨p, hp⟩ : ∃ p, (spansOf gs)[i]? = some p := ⟨_, List.getElem?_eq_getElem (by omega)⟩
        have hm := spans_mem gs p (List.mem_of_getElem? hp)
        rw [List.take_add_one, hp, List.foldl_append]
        exact byte_app h1 (byte_app (byte_app (byte_oct (hr _ hm.1)) (byte_oct (hr _ hm.2.1))) (byte_oct h2))
    have := key _ (Nat.le_refl _)
    rwa [List.take_of_length_le (Nat.le_refl _)] at this
section
variable {ps : List (Int × Int)} (hlen : ps.length ≤ 7) (hr : ∀ p ∈ ps, 0 ≤ p.1 ∧ p.1 < 65536 ∧ 0 ≤ p.2 ∧ p.2 < 65536) (hn : (ps.map (·.1)).Nodup)
include hlen hr in
theorem cover_byte : Byte (coverL (keysL ps)) := coverL_byte (by rw [keysL_len]; omega) fun g hg => by
  obtain ⟨p, hp, rfl⟩ := List.mem_map.mp (keysL_mem hg)
  exact ⟨(hr p hp).1, (hr p hp).2.1⟩
include hlen hr hn in
theorem dueAll_byte : Byte (dueAll ps) := by
  have hk := keysL_len ps
  refine byte_app (byte_app (byte_app (byte_app (byte_oct (by decide)) (byte_oct (by omega))) (byte_oct (by omega))) (byte_flat fun g hg => ?_)) (cover_byte hlen hr)
  obtain ⟨p, hp, rfl⟩ := List.mem_map.mp (keysL_mem hg)
  rw [look_self hn hp]
  exact (hr p hp).2.2
include hlen hr in
theorem dueOne_byte {δ : Int} (hd : 0 ≤ δ ∧ δ < 65536) : Byte (dueOne ps δ) :=
  byte_app (byte_app (byte_app (byte_oct (by decide)) (byte_oct (by decide))) (byte_oct hd)) (cover_byte hlen hr)
end
end
section
theorem offGJoin : True := by w_top off; trivial
section
variable {prog : Program} {w : World} {A : Around} {E : Value → Shared → Prop} {s : Shared} {env : Env}
theorem wpG_join {α : Type} {t : Sem α} {Q : α → Shared → Prop} (P : α → Shared → Prop) (h1 : ∀ Q' : α → Shared → Prop, (∀ v s', P v s' → Q' v s') → wpG (model prog w) A t Q' E s) (h2 : ∀ v s', P v s' → Q v s') :
    wpG (model prog w) A t Q E s := wpG_mono (h1 P fun _ _ h => h) (fun v s' h => h2 v s' h) fun _ _ e => e
end
inductive LwB (h₀ : Heap) (L : Addr) (m : Str → Option Value) (led : List (Addr × Obj)) (g : Array GenState) (dr : Drawn) (os : OsState) (b : Bool) (s' : Shared) : Prop
  | mk : b = false → ∀ h' tk, s' = { heap := h', gens := g, drawn := dr, toks := tk, os := os } → Fr h₀ L h' m → News h₀ L h' led → LwB h₀ L m led g dr os b s'
inductive LwF (h₀ : Heap) (L : Addr) (led : List (Addr × Obj)) (D5 : Addr) (ps : List (Int × Int)) (g : Array GenState) (dr : Drawn) (os : OsState) (f : Flow) (s' : Shared) : Prop
  | mk : f = .next → ∀ dv h' tk m', OptV (deltaOf ps) dv → s' = { heap := h', gens := g, drawn := dr, toks := tk, os := os } → Fr h₀ L h' m' → m' (Str.ofString "held") = some (.ref D5) → m' (Str.ofString "delta") = some dv → News h₀ L h' led → LwF h₀ L led D5 ps g dr os f s'
end
section
theorem offEqP : True := by w_top off; trivial
/-- a list of pairs of ints as data -/
def pairD (p : Int × Int) : PyData := .tuple [.int p.1, .int p.2]
theorem reads_pairs {h : Heap} {tl : List (Addr × Obj)} {ps : List (Int × Int)} (hp : Pairs2 tl ps) (hm : ∀ q ∈ tl, h.get? q.1 = some q.2) : ∃ as, ReadsAll h (refs tl) (ps.map pairD) as := by
  induction hp with
  | nil => exact ⟨_, .nil⟩
  | @cons q p tl ps f _ ih =>
    obtain ⟨as, hr⟩ := ih fun q hq => hm q (.tail _ hq)
    obtain ⟨t1, t2, e⟩ := f
    have h1 := hm q (.head _)
    rw [e] at h1
    exact ⟨_, .cons (reads_tuple_at h1 rfl rfl (.cons (.int _ _) (.cons (.int _ _) .nil))) hr⟩
theorem lay_pairs : ∀ ps : List (Int × Int), PyData.canLayAll0 (ps.map pairD) = true
  | [] => rfl
  | _ :: r => by simp [PyData.canLayAll0, PyData.canLay0, pairD, lay_pairs r]
theorem depth_pairs : ∀ ps : List (Int × Int), PyData.depthAll (ps.map pairD) ≤ 1
  | [] => by simp [PyData.depthAll]
  | _ :: r => by
    have := depth_pairs r
    simp [PyData.depthAll, PyData.depth, pairD]
    omega
theorem shaped_pairs (ps : List (Int × Int)) : SeqAt.shaped (.list (ps.map pairD)) = true := by
  have := depth_pairs ps
  simp [SeqAt.shaped, PyData.canLay0, PyData.depth, lay_pairs]
  omega
section
variable {prog : Program} {w : World} {A : Around} {E : Value → Shared → Prop} {s : Shared} {h₀ : Heap} {L : Addr} {news : List (Addr × Obj)} {D D2 : Addr} {tl tl2 : List (Addr × Obj)} {ps : List (Int × Int)} {k k2 : Nat} {Q : Value → Shared → Prop}
/-- two lists of the same pairs are the same -/
theorem eq_pairs (N : News h₀ L s.heap news) (h1 : (D, PySem.W.listOf (refs tl).toArray k) ∈ news) (h2 : (D2, PySem.W.listOf (refs tl2).toArray k2) ∈ news) (s1 : ∀ q ∈ tl, q ∈ news) (s2 : ∀ q ∈ tl2, q ∈ news)
    (hp : Pairs2 tl ps) (hp2 : Pairs2 tl2 ps) (hu : A.units + 64 < cLine) (h : Q (.bool true) s) : wpAny (model prog w) A (compareOp .Eq (.ref D) (.ref D2)) Q E s := by
  obtain ⟨as, r1⟩ := reads_pairs hp fun q hq => (N q (s1 q hq)).1
  obtain ⟨bs, r2⟩ := reads_pairs hp2 fun q hq => (N q (s2 q hq)).1
  refine eq_dataH (reads_list_at (N _ h1).1 rfl rfl r1) (reads_list_at (N _ h2).1 rfl rfl r2) (shaped_pairs ps) (shaped_pairs ps) hu ?_
  rw [SeqAt.eqv_refl _ (by simp [PyData.canLay0, lay_pairs])]
  exact h
end
end
section
set_option maxHeartbeats 8000000
theorem offLawJ : True := by w_top off; trivial
local macro_rules | `(tactic| k_all) => `(tactic| assumption)
local macro_rules | `(tactic| walk_at "newTuple") => `(tactic| ((fail_if_success (fail_if_success (with_reducible rename InElt _ _ => e9))); refine wpAny_newTuple ?_))
local macro_rules | `(tactic| walk_at "compareOp Eq ref ref") => `(tactic| refine eq_pairs (by with_reducible assumption) (by with_reducible assumption) (by with_reducible assumption) (by with_reducible assumption) (by with_reducible assumption) (by with_reducible assumption) (by with_reducible assumption) (by ke_room) ?_)
theorem lawx : PySem.Challenge.rw_pb0180_01.Holds := by
  refine hd ?_
  k_fill
  intro w s₀ s₁ mg mb G Y fa o pm cd doc dV kV ho hd hcd hD hmg hg args vals as hpre hlay hrd hwl hlo
  have KX := kIn_of Y
  have X := (Ground.X G).1
  have V := (Ground.X G).2
  refine Ground.open G ?_
  intro T B D TE TW
  have e305 : mg "law" = some (.ref 305) := mg_of KX T.g (by k_is)
  have hfa : fa = 305 := by
    have e := hmg.symm.trans e305
    injection e with e
    injection e
  subst hfa
  clear ho hd hcd hD hmg e305 B D TE TW V X G Y
  wrow_args hpre hlay hrd hwl hlo
  refine enter_callG ?_
  k_dflt (refine' top_callGC ?k3 ?k5 ?kA ?k6 ?k7 ?k8 ?k9 ?kB ?kD ?_ ?c2 ?c3 ?c4; (case kA => exact rfl); (case k3 => exact KX); (case k5 => exact T); (case k6 => k_is); (case k7 => k_is); (case k8 => decide +kernel); (case k9 => exact BindsTo.of_eq rfl); (case kB => exact rfl); (case kD => decide); (case c2 => exact rfl); (case c3 => exact rfl); (case c4 => exact rfl))
  k_whole
  intro L1 h1 tk1 cells F1 N1 Y1 B1
  refine post_varGE fun Q1 E1 hQ1 => ?_
  k_cells Y1
  (try simp only [List.cons_append, List.nil_append] at N1)
  (try dsimp only)
  rename_i hL _ _ _ hI _ _ _ oc hoc
  have hoc1 := (N1 (L1 + 1, oc) (.head _)).1
  obtain ⟨m1, F1, hm1⟩ : ∃ m, Fr s₁.heap L1 h1 m ∧ m (Str.ofString "script") = some _ := ⟨_, F1, by with_unfolding_all rfl⟩
  replace F1 := fr_know F1 hm1
  refine wpG_execs_cons (wpG_any ?_)
  walk_at "glyph walk"
  have hLs := hL.at fun o e => F1.keep _ o e
  (refine' ct_use (ct_pot w _ _ _ hI (by omega)) ?k1x75 ?k2x75 ?k3x75 ?k4x75 ?k5x75 ?kKx75 ?kPx75 ?kdx75 ?kux75 ?_; (case k1x75 => k_asm); (case k2x75 => k_asm); (case k3x75 => k_asm); (case k4x75 => k_asm); (case k5x75 => k_asm); (case kKx75 => first | exact rfl | assumption); (case kdx75 => (first | exact room0 (by assumption) | exact room2 (by assumption) (by decide) | ktr_room)); (case kux75 => (first | exact units2 (by assumption) (by decide) | ktr_units)); (try (case kPx75 => trivial)))
  rintro v h2 tk2 kp2 F2 N2 ⟨P, C, rfl, hPn, hCn, hpot⟩
  obtain ⟨oP0, oC0, hp1, hp2, hpot⟩ := potAt_of hpot
  replace N2 : News s₁.heap L1 h2 [(P, oP0), (C, oC0), (L1 + 1, oc)] := by
    have z1 := fresh_off F1 hPn
    have z2 := fresh_off F1 hCn
    intro p hp
    rcases List.mem_cons.mp hp with rfl | hp
    · exact ⟨hp1, z1.2, z1.1⟩
    · rcases List.mem_cons.mp hp with rfl | hp
      · exact ⟨hp2, z2.2, z2.1⟩
      · exact N2 p hp
  walk_at "glyph walk"
  rename_i h3 F3 N3
  have hT3 : ∀ b ∈ [P, C], s₁.heap.get? b = none ∧ b ≠ L1 := fun b hb => by
    simp only [List.mem_cons, List.not_mem_nil, or_false] at hb
    rcases hb with rfl | rfl
    · exact ⟨(N3 _ (.head _)).2.2, (N3 _ (.head _)).2.1⟩
    · exact ⟨(N3 _ (.tail _ (.head _))).2.2, (N3 _ (.tail _ (.head _))).2.1⟩
  refine wpG_execs_cons (wpG_any ?_)
  walk_at "glyph walk"
  refine ct_mapping w P C _ _ _ _ _ _ _ _ _ _ _ _ _ _ _ _ _ _ _ _ _ B1 F3 KX T rfl hT3 (of_potO (N3 _ (.head _)).1 (N3 _ (.tail _ (.head _))).1 hpot) (by first | exact room2 (by assumption) (by decide) | ktr_room) (by first | exact units2 (by assumption) (by decide) | ktr_units) ?_
  have hoC : ∀ p ∈ [(P, oP0), (C, oC0)], p.1 ≠ L1 + 1 := by
    have hlt : ∀ b o, h1.get? b = some o → b ≠ P ∧ b ≠ C := fun b o e => ⟨fun q => (by rw [q, hPn] at e; cases e), fun q => (by rw [q, hCn] at e; cases e)⟩
    intro p hp
    simp only [List.mem_cons, List.not_mem_nil, or_false] at hp
    rcases hp with rfl | rfl
    · exact (hlt _ _ hoc1).1.symm
    · exact (hlt _ _ hoc1).2.symm
  rintro v h4 tk4 hX4 ⟨d, ps, o, kvs, rfl, hdn, hdo, lo, hoi, hps, hps7, hpsr⟩
  obtain ⟨F4, N4⟩ := ext_keep (news := [(L1 + 1, oc)]) F3 (fun p hp => N3 p (.tail _ (.tail _ hp))) hX4 hT3 (fun p hp hm => by
    rw [List.mem_singleton.mp hp] at hm
    have z0 := (N3 (L1 + 1, oc) (.tail _ (.tail _ (.head _)))).1
    simp only [List.mem_cons, List.not_mem_nil, or_false] at hm
    rcases hm with e | e
    · exact absurd e (hoC (P, oP0) (.head _)).symm
    · exact absurd e (hoC (C, oC0) (.tail _ (.head _))).symm)
  replace N4 : News s₁.heap L1 h4 [(d, o), (L1 + 1, oc)] := by
    have z1 := fresh_off F3 hdn
    intro p hp
    rcases List.mem_cons.mp hp with rfl | hp
    · exact ⟨hdo, z1.2, z1.1⟩
    · exact N4 p hp
  have hD : DObj w o kvs := by
    obtain ⟨o', e, hD⟩ := dobj_of (Heap.dictOf_iff.mpr ⟨o, hdo, hoi⟩)
    have q := Option.some.inj (hdo.symm.trans e)
    rw [q]; exact hD
  have hcl : ∀ p ∈ [(d, o)], p.1 ≠ L1 + 1 := fun p hp q => by
    rw [List.mem_singleton.mp hp] at q
    have z0 := (N3 (L1 + 1, oc) (.tail _ (.tail _ (.head _)))).1
    have q' : d = L1 + 1 := q
    rw [← q', hdn] at z0; cases z0
  clear hpot hT3 hX4 hdn hdo hoi hoC hoc1 F3 N3 hLs kp2 hPn hCn hp1 hp2
  have hdL : d ≠ L1 + 1 := hcl (d, o) (.head _)
  walk_at "glyph walk"
  rename_i h5 oc5 F5 N5 hoc5
  try simp only [List.cons_append, List.nil_append] at N5
  have mapAt : ∀ {g' : Heap} {L' : Addr} {h' : Heap} {news : List (Addr × Obj)}, News g' L' h' news → (d, o) ∈ news → Maps w h' d ps := fun N' hm => ⟨lo, kvs, of_dobj (N' _ hm).1 hD, hps⟩
  refine wpG_execs_cons (wpG_any (comp_objs_assign (h₀ := s₁.heap) (cl := [(Str.ofString "mapping", L1 + 1)]) (fun v ob => ∃ n t t1 t2, v = .int n t ∧ ob = pairObj (.int n t1) (.int (look ps n) t2)) (by with_unfolding_all rfl) (by with_unfolding_all rfl) (by decide) rfl (by decide) rfl (by with_unfolding_all rfl) (by with_unfolding_all rfl) ?_ (by intro _; with_unfolding_all rfl)))
  walk_at "glyph walk"
  refine ⟨[d], ps.length, _, _, _, rfl, iter_map (mapAt N5 (.head _)), ?_, ?_, F5, N5, ?_, ?_, ?_⟩
  · exact fun q => (N5 _ (.head _)).2.1 (List.mem_singleton.mp q).symm
  · exact Nat.le_trans (Nat.le_trans hps7 (by decide) : _ ≤ 1000) (by size_fits)
  · intro b hb
    rw [List.mem_singleton.mp hb]
    exact ⟨_, (N5 _ (.head _)).1⟩
  · intro C' i x' s₃ m₃ E' hC' hP' hn' hm' hk'
    obtain ⟨p, tp, hpi, rfl⟩ := hP'
    have hnk : p.1 ∈ ps.map (·.1) := List.mem_map_of_mem (List.mem_of_getElem? hpi)
    walk_at "glyph walkS"
    rename_i cF cN cE
    refine sub_map (mapAt cN (.head _)) hnk fun t' tk' => ?_
    walk_at "glyph walk"
    · exact ⟨_, _, rfl, Heap.get?_none_of_le (Nat.le_refl _), Heap.get?_push_size _ rfl, p.1, _, _, _, rfl, rfl⟩
    · exact ⟨_, _, rfl, fun b o e => Heap.get?_push_of_some _ e⟩
  · intro vs' tl hpr hlen2 hP2 D5 h6 tk6 k6 F6 N6 hD5 htl
    replace F6 : Fr s₁.heap L1 h6 _ := F6
    replace N6 : News s₁.heap L1 h6 _ := N6
    have hnd := (mapAt N6 (by simp)).nodup
    have hpt : Pairs2 tl ps := by
      refine paired_get (by rw [← hpr.length, hlen2]) fun i q p hq hpi => ?_
      obtain ⟨v, hv, n, t, t1, t2, rfl, e2⟩ := paired_at' hpr hq
      obtain ⟨p', t3, hp3, e3⟩ := hP2 _ _ hv
      rw [hpi] at hp3
      cases hp3
      injection e3 with e3
      exact ⟨t1, t2, by rw [e2, e3, look_self hnd (List.mem_of_getElem? hpi)]⟩
    replace N6 : News s₁.heap L1 h6 ((d, o) :: (L1 + 1, oc5) :: (D5, PySem.W.listOf (refs tl).toArray k6) :: tl) := fun p hp => N6 p (by
      simp only [List.mem_cons, List.mem_append, List.not_mem_nil, or_false] at hp ⊢
      rcases hp with h | h | h | h <;> simp [h])
    clear hpr hlen2 hP2 hD5 htl N5 F5
    dsimp only
    dsimp only at F6
    refine wpG_execs_cons (wpG_any ?_)
    walk_at "glyph walk"
    refine comp_vals (h₀ := s₁.heap) (L := L1) (cl := [(Str.ofString "mapping", L1 + 1)]) (fun v y => ∃ n t t', v = .int n t ∧ y = .int ((look ps n - n).fmod 65536) t') (by with_unfolding_all rfl) (by decide) rfl (by decide) rfl ?_ (by intro _; with_unfolding_all rfl)
    walk_at "glyph walk"
    refine ⟨[d], ps.length, _, _, _, rfl, iter_map (mapAt N6 (.head _)), ?_, ?_, F6, N6, ?_, ?_, ?_⟩
    · exact fun q => (N6 _ (.head _)).2.1 (List.mem_singleton.mp q).symm
    · exact Nat.le_trans (Nat.le_trans hps7 (by decide) : _ ≤ 1000) (by size_fits)
    · intro b hb
      rw [List.mem_singleton.mp hb]
      exact ⟨_, (N6 _ (.head _)).1⟩
    · intro C' i x' s₃ m₃ E' hC' hP' hn' hm' hk'
      obtain ⟨p, tp, hpi, rfl⟩ := hP'
      have hnk : p.1 ∈ ps.map (·.1) := List.mem_map_of_mem (List.mem_of_getElem? hpi)
      walk_at "glyph walkS"
      rename_i cF cN cE
      refine sub_map (mapAt cN (.head _)) hnk fun t' tk' => ?_
      walk_at "glyph walk"
      exact ⟨_, _, rfl, fun b o e => e⟩
    · intro vs' ys hpr hlen2 hP2 D7 h7 tk7 k7 F7 N7 hD7
      replace F7 : Fr s₁.heap L1 h7 _ := F7
      replace N7 : News s₁.heap L1 h7 _ := N7
      have hyi : IntsAre ys (ps.map dl) := by
        refine ints_of (by rw [← hpr.length, hlen2, List.length_map]) fun j v n hv hn => ?_
        obtain ⟨v0, hv0, n0, t1, t2, rfl, rfl⟩ := paired_at' hpr hv
        obtain ⟨p, t3, hn', e⟩ := hP2 j _ hv0
        injection e with e
        subst e
        rw [List.getElem?_map, hn'] at hn
        cases hn
        refine ⟨t2, ?_⟩
        rw [look_self hnd (List.mem_of_getElem? hn'), Int.fmod_eq_emod_of_nonneg _ (by decide)]; rfl
      walk_at "glyph walk"
      have hyl := hyi.length
      rw [List.length_map] at hyl
      refine si_call rfl (listOf_is N7 (.head _)) (by simpa using hyi) (Nat.lt_of_lt_of_le (by rw [List.length_map]; omega : _ < 100) (by unfold scanBound; decide)) ?_
      intro h8 tk8 hS8 kp8
      replace F7 := F7.keeps kp8
      replace N7 := N7.grown kp8
      walk_at "glyph walk"
      have hdl : (dedup (ps.map dl)).length ≤ 7 := by
        have := dedup_le (ps.map dl)
        rw [List.length_map] at this
        omega
      refine si_sorted hS8 rfl F7 (news := (d, o) :: (L1 + 1, oc5) :: (D5, PySem.W.listOf (refs tl).toArray k6) :: tl) (fun p hp => N7 p (.tail _ hp)) (by omega) fun D9 vs9 c9 h9 tk9 dr9 F9 N9 l9 hi9 => ?_
      replace hi9 : IntsAre vs9 (deltasL ps) := hi9
      walk_at "glyph walk"
      rename_i h10 F10 N10
      clear hpr hlen2 hP2 hD7 hyi hyl hS8 kp8 l9 hdl
      obtain ⟨m10, F10, hmH, hmD⟩ : ∃ m, Fr s₁.heap L1 h10 m ∧ m (Str.ofString "held") = some (.ref D5) ∧ m (Str.ofString "deltas") = some (.ref D9) := ⟨_, F10, by with_unfolding_all rfl, by with_unfolding_all rfl⟩
      replace F10 := fr_know2 F10 hmH hmD
      refine wpG_execs_cons (wpG_any ?_)
      refine wpAny_join (LwF s₁.heap L1 ((d, o) :: (L1 + 1, oc5) :: (D5, PySem.W.listOf (refs tl).toArray k6) :: tl) D5 ps s₁.gens dr9 s₁.os) (fun Q' hq => ?_) ?_
      · rcases deltasL_cases ps with ⟨e1, e2⟩ | ⟨δ, e1, e2⟩ | ⟨e1, e2⟩
        · rw [e1] at hi9
          cases hi9
          walk_at "glyph walk"
          rename_i F12 N12
          exact hq _ _ ⟨rfl, _, _, _, _, .inr ⟨0, _, e2, rfl⟩, rfl, F12, by with_unfolding_all rfl, by with_unfolding_all rfl, fun p hp => N12 p (.tail _ (.tail _ hp))⟩
        · rw [e1] at hi9
          obtain ⟨t9, rfl⟩ : ∃ t, vs9 = [.int δ t] := by
            cases hi9 with
            | cons _ _ h => cases h; exact ⟨_, rfl⟩
          walk_at "glyph walk"
          · rename_i hbad _ _ _
            simp at hbad
          · rename_i F12 N12
            exact hq _ _ ⟨rfl, _, _, _, _, .inr ⟨δ, _, e2, rfl⟩, rfl, F12, by with_unfolding_all rfl, by with_unfolding_all rfl, fun p hp => N12 p (.tail _ (.tail _ hp))⟩
        · have hvl := hi9.length
          have hdl9 : (deltasL ps).length ≤ 7 := by
            have := dedup_le (ps.map dl)
            rw [List.length_map] at this
            unfold deltasL
            rw [(sortL_perm _).length_eq]
            omega
          walk_at "glyph walk"
          · rename_i hbad _ _ _
            have hbad := of_decide_eq_true hbad
            rw [hbad] at e1
            simp at e1
          · exfalso
            omega
          · rename_i F12 N12
            exact hq _ _ ⟨rfl, _, _, _, _, .inl ⟨e2, rfl⟩, rfl, F12, by with_unfolding_all rfl, by with_unfolding_all rfl, fun p hp => N12 p (.tail _ (.tail _ hp))⟩
      · rintro _ _ ⟨rfl, dv, h11, tk11, m11, hdv, rfl, F11, hm11, hm11', N11⟩
        have F0 := F11
        replace F11 := fr_know2 F11 hm11 hm11'
        dsimp only
        have hmap := mapAt N11 (.head _)
        clear N10 hi9 F10
        refine wpG_execs_cons (wpG_If (wpAny_join (LwB s₁.heap L1 m11 ((d, o) :: (L1 + 1, oc5) :: (D5, PySem.W.listOf (refs tl).toArray k6) :: tl) s₁.gens dr9 s₁.os) (fun Q' hq => ?_) ?_))
        · walk_at "glyph walk"
          (refine' ct_use (ct_delta w d ps) ?k1x76 ?k2x76 ?k3x76 ?k4x76 ?k5x76 ?kKx76 ?kPx76 ?kdx76 ?kux76 ?_; (case k1x76 => k_asm); (case k2x76 => k_asm); (case k3x76 => k_asm); (case k4x76 => k_asm); (case k5x76 => k_asm); (case kKx76 => first | exact rfl | assumption); (case kdx76 => (first | exact room0 (by assumption) | exact room2 (by assumption) (by decide) | ktr_room)); (case kux76 => (first | exact units2 (by assumption) (by decide) | ktr_units)); (try (case kPx76 => trivial)))
          intro dv2 h12 tk12 kp12 F12 N12 hdv2
          have FF := F0.keeps kp12
          rcases hdv with ⟨hn, rfl⟩ | ⟨δ, t1, hn, rfl⟩ <;> rcases hdv2 with ⟨hn2, rfl⟩ | ⟨δ2, t2, hn2, rfl⟩
          · walk_at "glyph walk"
            exact hq _ _ ⟨rfl, _, _, rfl, FF, N12⟩
          · rw [hn] at hn2; cases hn2
          · rw [hn] at hn2; cases hn2
          · obtain rfl : δ = δ2 := by rw [hn] at hn2; exact Option.some.inj hn2
            walk_at "glyph walk"
            exact hq _ _ ⟨by simp, _, _, rfl, FF, N12⟩
        · rintro _ _ ⟨rfl, h12, tk12, rfl, F12, N12⟩
          simp only [Bool.false_eq_true, if_false]
          refine wpG_execs_nil ?_
          dsimp only
          clear F11 N11 F0 hmap
          refine wpG_execs_cons (for_iterG s₁.heap ?_ (by intro _; with_unfolding_all rfl))
          walk_at "glyph walk"
          rename_i D13 h13 F13 N13 l13
          refine ⟨[D13], _, _, m11, (d, o) :: (L1 + 1, oc5) :: (D5, PySem.W.listOf (refs tl).toArray k6) :: tl, fun i m news => m (Str.ofString "held") = some (.ref D5) ∧ m (Str.ofString "delta") = some dv ∧ news = (d, o) :: (L1 + 1, oc5) :: (D5, PySem.W.listOf (refs tl).toArray k6) :: tl,
            rfl, iter_tuple ⟨_, (N13 _ (.head _)).1, rfl, _, rfl⟩, ?_, F13, fun p hp => N13 p (.tail _ hp), ?_, ⟨hm11, hm11', rfl⟩, ?_, ?_⟩
          · exact fun q => (N13 _ (.head _)).2.1 (List.mem_singleton.mp q).symm
          · intro p hp q
            rw [List.mem_singleton] at q
            simp only [List.mem_cons] at hp
            rcases hp with rfl | rfl | rfl | hp
            · exact Nat.ne_of_lt l13.1 q
            · exact Nat.ne_of_lt l13.2.1 q
            · exact Nat.ne_of_lt l13.2.2.1 q
            · exact Nat.ne_of_lt (allLt_mem l13.2.2.2 p hp) q
          · rintro i x' m₁ news₁ own h tk hin hPx ⟨hm1, hm2, rfl⟩ hsep F N
            obtain ⟨t, rfl⟩ : ∃ t, x' = .int i t := by
              match i, hPx with
              | 0, hPx => exact ⟨_, (Option.some.inj hPx).symm⟩
              | 1, hPx => exact ⟨_, (Option.some.inj hPx).symm⟩
              | 2, hPx => exact ⟨_, (Option.some.inj hPx).symm⟩
            have hi3 : (i : Int) < 3 := by
              have : i < 3 := hin
              omega
            replace F : Fr s₁.heap L1 h _ := fr_know2 F hm1 hm2
            replace N : News s₁.heap L1 h ((d, o) :: (L1 + 1, oc5) :: ((D5, PySem.W.listOf (refs tl).toArray k6) :: tl ++ own)) := N
            generalize hrest : (D5, PySem.W.listOf (refs tl).toArray k6) :: tl ++ own = rest at N
            clear N13 F13 l13
            walk_at "glyph walk"
            refine post_varG fun Q2 hQ2 => ?_
            refine wpG_execs_cons (wpG_Try ?_)
            refine wpG_execs_cons (wpG_Assign_Name (CallG_Name ?_) (by with_unfolding_all rfl))
            walk_at "glyph walk"
            refine callWithG_K (K := Glyph.hd.heap_39 w.params) (by k_is) ?_
            walk_at "glyph walk"
            rename_i h14 F14 N14
            (refine' call_cls ?k1x74 ?k2x74 ?k3x74 ?k4x74 ?k5x74 ?k6x74 ?_; (case k1x74 => k_asm); (case k2x74 => k_asm); (case k3x74 => k_asm); (case k4x74 => k_is); (case k5x74 => k_is); (case k6x74 => k_is); k_whole)
            intro x dx h15 F15 N15 l15 l16
            have hrx : ∀ p ∈ (d, o) :: (L1 + 1, oc5) :: rest, p.1 ≠ dx := fun p hp => Nat.ne_of_lt (l15 p hp)
            have hrx' : ∀ p ∈ rest, p.1 ≠ dx := fun p hp => hrx p (.tail _ (.tail _ hp))
            have hrx1 : d ≠ dx := hrx _ (.head _)
            have hrx2 : L1 + 1 ≠ dx := hrx _ (.tail _ (.head _))
            k_lt2 l16
            k_dflt (refine' own_call (binds := [(Str.ofString "self", Value.ref x), (Str.ofString "mapping", Value.ref d)]) ?k1x73 ?k2x73 ?k3x73 ?k4x73 ?k5x73 ?kAx73 ?kFx73 ?kKx73 ?k6x73 ?k7x73 ?k8x73 ?k9x73 ?kBx73 ?_ ?c2x73 ?c3x73 ?c4x73 ?c5x73; (case kAx73 => exact rfl); (case kFx73 => exact rfl); (case kKx73 => exact rfl); (case k1x73 => k_asm); (case k2x73 => k_asm); (case k3x73 => k_asm); (case k4x73 => k_asm); (case k5x73 => k_asm); (case k6x73 => k_is); (case k7x73 => k_is); (case k8x73 => (first | exact room0 (by assumption) | exact room2 (by assumption) (by decide) | ktr_room)); (case k9x73 => exact BindsTo.of_eq rfl); (case c5x73 => decide); (case kBx73 => exact locs rfl); (case c2x73 => exact rfl); (case c3x73 => exact rfl); (case c4x73 => exact rfl); k_whole; intro _ _ _ _ _ _ _ _ _ _; (try dsimp only); (try k_fold))
            rename_i g2 L2 h16 hX2 hXr2 F16 N16 B2 X2 Tp2
            walk_at "glyph walk"
            rename_i F17 N17
            have F18 := fr_back F15 N15 hX2 F17
            have N18 := news_back N15 N17 (same_addrs rfl)
            refine ⟨rfl, ?_⟩
            clear B2 X2 Tp2 hX2 hXr2 F17 N17 F15 N15 F14 N14 hrx hrx' hrx1 hrx2 l15 l16
            walk_at "glyph walk"
            refine ws_use x dx d _ o kvs i t ps hps7 hpsr B1 F18 KX T N18 hD hps lo rfl (by first | exact room2 (by assumption) (by decide) | ktr_room) (by first | exact units2 (by assumption) (by decide) | ktr_units) ?_ ?_
            · rintro v h19 tk19 hno F19 N19 ⟨tb, rfl⟩
              clear F18 N18
              dsimp only [tabLed] at N19
              replace N19 : News s₁.heap L1 h19 ((d, o) :: (L1 + 1, oc5) :: rest) := fun p hp => N19 p (.tail _ (.tail _ hp))
              walk_at "glyph walk"
              refine wpG_execs_nil ?_
              dsimp only
              refine wpG_execs_nil ?_
              dsimp only
              rename_i h20 F20 N20
              have hi0 : (0 : Int) ≤ i := Int.natCast_nonneg i
              have hmapN := mapAt N20 (.head _)
              obtain ⟨m20, F20, hq1, hq2, hq3, hq4⟩ : ∃ m, Fr s₁.heap L1 h20 m ∧ m (Str.ofString "octets") = some (Value.bytes (toB (dueF ps i)) tb) ∧ m (Str.ofString "form") = some (Value.int i t) ∧ m (Str.ofString "held") = some (.ref D5) ∧ m (Str.ofString "delta") = some dv :=
                ⟨_, F20, by with_unfolding_all rfl, by with_unfolding_all rfl, by with_unfolding_all rfl, by with_unfolding_all rfl⟩
              have F0 := F20
              replace F20 := fr_know2 (fr_know2 F20 hq1 hq2) (a := Str.ofString "held") (b := Str.ofString "delta") (v := .ref D5) (u := dv) (by (repeat rw [if_neg (by decide)]); exact hq3) (by (repeat rw [if_neg (by decide)]); exact hq4)
              refine wpG_execs_cons (wpG_If (wpAny_join (LwB s₁.heap L1 m20 ((d, o) :: (L1 + 1, oc5) :: rest) s₁.gens dr9 s₁.os) (fun Q' hq => ?_) ?_))
              · walk_at "glyph walk"
                rcases hdv with ⟨hn, rfl⟩ | ⟨δ, t1, hn, rfl⟩
                · have e9 : dueF ps i = dueAll ps := by unfold dueF; rw [hn]
                  (refine' ct_use (ct_due_all w d ps i .none t (.inl ⟨rfl, fun q => hno ⟨q, hn⟩⟩) (by omega) (dueAll_byte hps7 hpsr hnd)) ?k1x77 ?k2x77 ?k3x77 ?k4x77 ?k5x77 ?kKx77 ?kPx77 ?kdx77 ?kux77 ?_; (case k1x77 => k_asm); (case k2x77 => k_asm); (case k3x77 => k_asm); (case k4x77 => k_asm); (case k5x77 => k_asm); (case kKx77 => first | exact rfl | assumption); (case kdx77 => (first | exact room0 (by assumption) | exact room2 (by assumption) (by decide) | ktr_room)); (case kux77 => (first | exact units2 (by assumption) (by decide) | ktr_units)); (try (case kPx77 => trivial)))
                  rintro v2 h21 tk21 kp21 F21 N21 ⟨tb2, rfl⟩
                  have FF := F0.keeps kp21
                  walk_at "glyph walk"
                  exact hq _ _ ⟨by rw [e9]; simp, _, _, rfl, FF, N21⟩
                · by_cases hi2 : (i : Int) = 2
                  · have e9 : dueF ps i = dueAll ps := by unfold dueF; rw [hn]; dsimp only; rw [if_pos hi2]
                    (refine' ct_use (ct_due_all w d ps i (.int δ t1) t (.inr ⟨hi2, _, _, rfl⟩) (by omega) (dueAll_byte hps7 hpsr hnd)) ?k1x78 ?k2x78 ?k3x78 ?k4x78 ?k5x78 ?kKx78 ?kPx78 ?kdx78 ?kux78 ?_; (case k1x78 => k_asm); (case k2x78 => k_asm); (case k3x78 => k_asm); (case k4x78 => k_asm); (case k5x78 => k_asm); (case kKx78 => first | exact rfl | assumption); (case kdx78 => (first | exact room0 (by assumption) | exact room2 (by assumption) (by decide) | ktr_room)); (case kux78 => (first | exact units2 (by assumption) (by decide) | ktr_units)); (try (case kPx78 => trivial)))
                    rintro v2 h21 tk21 kp21 F21 N21 ⟨tb2, rfl⟩
                    have FF := F0.keeps kp21
                    walk_at "glyph walk"
                    exact hq _ _ ⟨by rw [e9]; simp, _, _, rfl, FF, N21⟩
                  · have e9 : dueF ps i = dueOne ps δ := by unfold dueF; rw [hn]; dsimp only; rw [if_neg hi2]
                    (refine' ct_use (ct_due_one w d ps i δ t t1 hi2 (by omega) (dueOne_byte hps7 hpsr (delta_range hn))) ?k1x79 ?k2x79 ?k3x79 ?k4x79 ?k5x79 ?kKx79 ?kPx79 ?kdx79 ?kux79 ?_; (case k1x79 => k_asm); (case k2x79 => k_asm); (case k3x79 => k_asm); (case k4x79 => k_asm); (case k5x79 => k_asm); (case kKx79 => first | exact rfl | assumption); (case kdx79 => (first | exact room0 (by assumption) | exact room2 (by assumption) (by decide) | ktr_room)); (case kux79 => (first | exact units2 (by assumption) (by decide) | ktr_units)); (try (case kPx79 => trivial)))
                    rintro v2 h21 tk21 kp21 F21 N21 ⟨tb2, rfl⟩
                    have FF := F0.keeps kp21
                    walk_at "glyph walk"
                    exact hq _ _ ⟨by rw [e9]; simp, _, _, rfl, FF, N21⟩
              · rintro _ _ ⟨rfl, h22, tk22, rfl, F22, N22⟩
                simp only [Bool.false_eq_true, if_false]
                refine wpG_execs_nil ?_
                dsimp only
                refine wpG_execs_nil ?_
                subst hrest
                refine turnEndV (hQ2 .next _) ((d, o) :: (L1 + 1, oc5) :: (D5, PySem.W.listOf (refs tl).toArray k6) :: tl) F22 N22 (fun p hp => ?_) (fun p hp => ?_) hsep ⟨hq3, hq4, rfl⟩
                · simp only [List.mem_cons, List.cons_append, List.mem_append] at hp ⊢
                  rcases hp with hp | hp | hp | hp <;> simp [hp]
                · simp only [List.mem_cons, List.cons_append, List.mem_append]
                  exact .inr (.inr (.inr (.inr hp)))
            · intro e t9 vs g h19 tk19 hf hdn Fg hU hR
              refine caught_tf B1 Fg hU hR KX T (show nsIn (Glyph.hd.heap_39 w.params) mainGlobals "TableFault" = some (some (.ref 61)) by k_is) (fun h20 F20 N20 => ?_) rfl (by with_unfolding_all rfl)
              clear F18 N18
              dsimp only [tabLed] at N20
              replace N20 : News s₁.heap L1 h20 ((d, o) :: (L1 + 1, oc5) :: rest) := fun p hp => N20 p (.tail _ (.tail _ hp))
              walk_at "glyph walk"
              dsimp only
              rename_i h21 F20 N20
              have hmapN := mapAt N20 (.head _)
              have hdvn : dv = .none := by
                rcases hdv with ⟨_, e⟩ | ⟨δ, _, e, _⟩
                · exact e
                · rw [hdn] at e; cases e
              subst hdvn
              obtain ⟨m20, F20, hq1, hq2, hq3, hq4⟩ : ∃ m, Fr s₁.heap L1 h21 m ∧ m (Str.ofString "octets") = some Value.none ∧ m (Str.ofString "form") = some (Value.int i t) ∧ m (Str.ofString "held") = some (.ref D5) ∧ m (Str.ofString "delta") = some Value.none :=
                ⟨_, F20, by with_unfolding_all rfl, by with_unfolding_all rfl, by with_unfolding_all rfl, by with_unfolding_all rfl⟩
              rw [hf] at hq2
              have F0 := F20
              replace F20 := fr_know2 (fr_know2 F20 hq1 hq2) (a := Str.ofString "held") (b := Str.ofString "delta") (v := .ref D5) (u := .none) (by (repeat rw [if_neg (by decide)]); exact hq3) (by (repeat rw [if_neg (by decide)]); exact hq4)
              refine wpG_execs_cons (wpG_If (wpAny_join (LwB s₁.heap L1 m20 ((d, o) :: (L1 + 1, oc5) :: rest) s₁.gens dr9 s₁.os) (fun Q' hq => ?_) ?_))
              · walk_at "glyph walk"
                (refine' ct_use (ct_due_none w d ps t (by omega)) ?k1x80 ?k2x80 ?k3x80 ?k4x80 ?k5x80 ?kKx80 ?kPx80 ?kdx80 ?kux80 ?_; (case k1x80 => k_asm); (case k2x80 => k_asm); (case k3x80 => k_asm); (case k4x80 => k_asm); (case k5x80 => k_asm); (case kKx80 => first | exact rfl | assumption); (case kdx80 => (first | exact room0 (by assumption) | exact room2 (by assumption) (by decide) | ktr_room)); (case kux80 => (first | exact units2 (by assumption) (by decide) | ktr_units)); (try (case kPx80 => trivial)))
                rintro v2 h22 tk22 kp22 F22 N22 rfl
                have FF := F0.keeps kp22
                walk_at "glyph walk"
                exact hq _ _ ⟨rfl, _, _, rfl, FF, N22⟩
              · rintro _ _ ⟨rfl, h22, tk22, rfl, F22, N22⟩
                simp only [Bool.false_eq_true, if_false]
                refine wpG_execs_nil ?_
                dsimp only
                refine wpG_execs_nil ?_
                subst hrest
                refine turnEndV (hQ2 .next _) ((d, o) :: (L1 + 1, oc5) :: (D5, PySem.W.listOf (refs tl).toArray k6) :: tl) F22 N22 (fun p hp => ?_) (fun p hp => ?_) hsep ⟨hq3, hq4, rfl⟩
                · simp only [List.mem_cons, List.cons_append, List.mem_append] at hp ⊢
                  rcases hp with hp | hp | hp | hp <;> simp [hp]
                · simp only [List.mem_cons, List.cons_append, List.mem_append]
                  exact .inr (.inr (.inr (.inr hp)))
          · rintro m' news' h tk ⟨hm1, hm2, rfl⟩ F N
            replace F : Fr s₁.heap L1 h _ := fr_know F hm1
            replace N : News s₁.heap L1 h _ := N
            clear N13 F13 l13
            dsimp only
            refine wpG_execs_cons (wpG_any ?_)
            walk_at "glyph walk"
            refine comp_objs (h₀ := s₁.heap) (L := L1) (cl := [(Str.ofString "mapping", L1 + 1)]) (fun v ob => ∃ n t t1 t2, v = .int n t ∧ ob = pairObj (.int n t1) (.int (look ps n) t2)) (by with_unfolding_all rfl) (by decide) rfl (by decide) rfl ?_ (by intro _; with_unfolding_all rfl)
            walk_at "glyph walk"
            refine ⟨[d], ps.length, _, _, _, rfl, iter_map (mapAt N (.head _)), ?_, ?_, F, N, ?_, ?_, ?_⟩
            · exact fun q => (N _ (.head _)).2.1 (List.mem_singleton.mp q).symm
            · exact Nat.le_trans (Nat.le_trans hps7 (by decide) : _ ≤ 1000) (by size_fits)
            · intro b hb
              rw [List.mem_singleton.mp hb]
              exact ⟨_, (N _ (.head _)).1⟩
            · intro C' i x' s₃ m₃ E' hC' hP' hn' hm' hk'
              obtain ⟨p, tp, hpi, rfl⟩ := hP'
              have hnk : p.1 ∈ ps.map (·.1) := List.mem_map_of_mem (List.mem_of_getElem? hpi)
              walk_at "glyph walkS"
              rename_i cF cN cE
              refine sub_map (mapAt cN (.head _)) hnk fun t' tk' => ?_
              walk_at "glyph walk"
              · exact ⟨_, _, rfl, Heap.get?_none_of_le (Nat.le_refl _), Heap.get?_push_size _ rfl, p.1, _, _, _, rfl, rfl⟩
              · exact ⟨_, _, rfl, fun b o e => Heap.get?_push_of_some _ e⟩
            · intro vs9 tl9 hpr hlen2 hP2 D25 h26 tk26 k26 F26 N26 hD25 htl
              replace F26 : Fr s₁.heap L1 h26 _ := F26
              replace N26 : News s₁.heap L1 h26 _ := N26
              have hpt2 : Pairs2 tl9 ps := by
                refine paired_get (by rw [← hpr.length, hlen2]) fun i q p hq hpi => ?_
                obtain ⟨v, hv, n, t, t1, t2, rfl, e2⟩ := paired_at' hpr hq
                obtain ⟨p', t3, hp3, e3⟩ := hP2 _ _ hv
                rw [hpi] at hp3
                cases hp3
                injection e3 with e3
                exact ⟨t1, t2, by rw [e2, e3, look_self hnd (List.mem_of_getElem? hpi)]⟩
              clear hpr hlen2 hP2 hD25 htl
              generalize hL27 : (D25, PySem.W.listOf (refs tl9).toArray k26) :: (tl9 ++ (d, o) :: (L1 + 1, oc5) :: (D5, PySem.W.listOf (refs tl).toArray k6) :: tl) = led at N26
              have a1 : (D25, PySem.W.listOf (refs tl9).toArray k26) ∈ led := by rw [← hL27]; exact .head _
              have a2 : (D5, PySem.W.listOf (refs tl).toArray k6) ∈ led := by rw [← hL27]; simp
              have a3 : ∀ q ∈ tl9, q ∈ led := fun q hq => by rw [← hL27]; simp [hq]
              have a4 : ∀ q ∈ tl, q ∈ led := fun q hq => by rw [← hL27]; simp [hq]
              clear hL27
              walk_at "glyph walk"
              dsimp only
              refine hQ1 _ _ (GoodW.toG (goodW_bool F26 hg (raisesW_false ?_) ?_))
              · wrow_none_raised
              · wrow_post
end
end Glyph
theorem PySem.Challenge.cw_pb0180_01_holds : PySem.Challenge.rw_pb0180_01.Holds := by
  exact Glyph.lawx
