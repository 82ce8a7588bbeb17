import PyProof.Rows.All
import Wide.All
import OpenK.AllK
import Wide.FinOn
import HandS.ForMost
import HandS.Exc
import HandS.Defaults
import HandS.Wide
import HandS.Gcd
import HandS.WordsExc
import HandS.ExcCtx
import HandS.IsInst
import HandS.Small
import HandS.RaiseMore
import KE.KOpsOwn
import PyProof.NeKinds
import KE.KCallOwn
import PyProof.Conv_bool
import HandS.ExcInit
import HandS.ExcIs
import HandS.ExcField
import HandS.HotCalls
import HandS.Text
import HandS.StrMore
import HandS.FStr
import HandS.MakeKw
import HandS.Iter
import HandS.Walk
import KE.KStateDown
import HandS.Base
import HandS.Call
import HandS.Head0
import HandS.Head1
import HandS.Head2
import HandS.Head3
import HandS.HeadEnd
import HandS.HeadHook1
import HandS.HeadHook2
import HandS.HeadNt
import HandS.EndBits
import PyProof.FitsInt
import PyProof.Fits
import KE.IntTextText
import PyProof.StrLawsAffix
import PyProof.Rows.StrLawsPart
import PyProof.Rows.StrFirst
import PyProof.Rows.ReprOcc
import PySem.Challenge.RW_stayorsway_k00_fractions
set_option Elab.async false
set_option linter.all false
set_option maxRecDepth 100000
set_option maxHeartbeats 4000000
namespace FL
open PySem L2

structure FTy (α : Type) where
  r : Hp → V → α → Prop
  mono : ∀ {I I' : Hp} {v : V} {x : α}, Same I I' → r I v x → r I' v x
structure FV where
  α : Type
  T : FTy α
  x : α
abbrev FV.of {α : Type} (T : FTy α) (x : α) : FV := ⟨α, T, x⟩
abbrev Gm := List (Option FV)
def tInt : FTy Int := ⟨fun _ v i => v = .int i, fun _ h => h⟩
def tBl : FTy Bool := ⟨fun _ v i => v = .bl i, fun _ h => h⟩
def tStr : FTy Str := ⟨fun _ v i => v = .str i, fun _ h => h⟩
def tNon : FTy Unit := ⟨fun _ v _ => v = .non, fun _ h => h⟩
def tAdr : FTy Addr := ⟨fun _ v a => v = .ref a, fun _ h => h⟩
theorem paired_mono {α : Type} {T : FTy α} {I I' : Hp} (e : Same I I') : ∀ {us : List V} {xs : List α}, Paired (T.r I) us xs → Paired (T.r I') us xs
  | _, _, .nil => .nil
  | _, _, .cons a b => .cons (T.mono e a) (paired_mono e b)
def tLs {α : Type} (T : FTy α) : FTy (List α) := ⟨fun I v xs => ∃ a us, v = .ref a ∧ I a = some (.lst us) ∧ Paired (T.r I) us xs, fun e ⟨a, us, h1, h2, h3⟩ => ⟨a, us, h1, e _ _ h2, paired_mono e h3⟩⟩
def tTp {α : Type} (T : FTy α) : FTy (List α) := ⟨fun I v xs => ∃ a us, v = .ref a ∧ I a = some (.tup us) ∧ Paired (T.r I) us xs, fun e ⟨a, us, h1, h2, h3⟩ => ⟨a, us, h1, e _ _ h2, paired_mono e h3⟩⟩

def FR (I : Hp) (v : V) (t : FV) : Prop := t.T.r I v t.x
theorem FR.mono {I I' : Hp} {v : V} {t : FV} (e : Same I I') (h : FR I v t) : FR I' v t := t.T.mono e h
def OR (I : Hp) (ov : Option V) (og : Option FV) : Prop := ∀ t, og = some t → ∃ v, ov = some v ∧ FR I v t
inductive EnvR (I : Hp) : L2.St → Gm → Prop
  | nil : EnvR I [] []
  | cons {ov : Option V} {og : Option FV} {σ : L2.St} {Γ : Gm} : OR I ov og → EnvR I σ Γ → EnvR I (ov :: σ) (og :: Γ)
theorem EnvR.mono {I I' : Hp} (e : Same I I') : ∀ {σ : L2.St} {Γ : Gm}, EnvR I σ Γ → EnvR I' σ Γ
  | _, _, .nil => .nil
  | _, _, .cons a b => .cons (fun t h => let ⟨v, h1, h2⟩ := a t h; ⟨v, h1, h2.mono e⟩) (EnvR.mono e b)
theorem EnvR.get {I : Hp} {t : FV} : ∀ {σ : L2.St} {Γ : Gm} {i : Nat}, EnvR I σ Γ → Γ[i]? = some (some t) → ∃ v, σ[i]? = some (some v) ∧ FR I v t
  | _, _, 0, .cons a b, h => by
    simp at h
    obtain ⟨v, h1, h2⟩ := a t h
    exact ⟨v, by simp [h1], h2⟩
  | _, _, i + 1, .cons a b, h => by
    simp at h
    obtain ⟨v, h1, h2⟩ := EnvR.get (i := i) b h
    exact ⟨v, by simpa using h1, h2⟩
  | _, _, i, .nil, h => by simp at h
theorem EnvR.set {I : Hp} {v : V} {t : FV} (h : FR I v t) : ∀ {σ : L2.St} {Γ : Gm} (i : Nat), EnvR I σ Γ → EnvR I (σ.set i (some v)) (Γ.set i (some t))
  | _, _, _, .nil => .nil
  | _, _, 0, .cons _ b => .cons (fun t' e => by cases e; exact ⟨v, rfl, h⟩) b
  | _, _, i + 1, .cons a b => .cons a (EnvR.set h i b)
theorem EnvR.unset {I : Hp} : ∀ {σ : L2.St} {Γ : Gm} (i : Nat), EnvR I σ Γ → EnvR I (σ.set i none) (Γ.set i none)
  | _, _, _, .nil => .nil
  | _, _, 0, .cons _ b => .cons (fun t' e => by cases e) b
  | _, _, i + 1, .cons a b => .cons a (EnvR.unset i b)
def wipeG (Γ : Gm) : List Nat → Gm
  | [] => Γ
  | v :: vs => (wipeG Γ vs).set v none
theorem EnvR.wipe {I : Hp} {σ : L2.St} {Γ : Gm} (h : EnvR I σ Γ) : ∀ vs : List Nat, EnvR I (L2.wipe σ vs) (wipeG Γ vs)
  | [] => h
  | v :: vs => EnvR.unset v (EnvR.wipe h vs)
theorem EnvR.weak {I : Hp} {σ : L2.St} {Γ Γ' : Gm} (h : EnvR I σ Γ) (hl : Γ'.length = Γ.length) (w : ∀ (i : Nat) t, Γ'[i]? = some (some t) → Γ[i]? = some (some t)) : EnvR I σ Γ' := by
  induction h generalizing Γ' with
  | nil =>
    cases Γ' with
    | nil => exact .nil
    | cons a b => simp at hl
  | @cons ov og σ Γ a b ih =>
    cases Γ' with
    | nil => simp at hl
    | cons g Γ' =>
      refine .cons (fun t e => a t ?_) (ih (by simpa using hl) fun i t e => ?_)
      · have := w 0 t (by simp [e])
        simpa using this
      · have := w (i + 1) t (by simpa using e)
        simpa using this

structure FC (α : Type) where
  r : Hp → HO → α → Prop
  mono : ∀ {I I' : Hp} {o : HO} {x : α}, Same I I' → r I o x → r I' o x
structure FCell where
  a : Addr
  α : Type
  C : FC α
  x : α
abbrev Mem := List FCell
abbrev dom (M : Mem) : List Addr := M.map (·.a)
def cLst {α : Type} (T : FTy α) : FC (List α) := ⟨fun I o xs => ∃ us, o = .lst us ∧ Paired (T.r I) us xs, fun e ⟨us, h1, h2⟩ => ⟨us, h1, paired_mono e h2⟩⟩
def WfO : HO → Prop
  | .lst xs => xs.length ≤ sizeLine
  | .tup xs => xs.length ≤ sizeLine
  | _ => True
def WfH (H : Hp) : Prop := ∀ a o, H a = some o → WfO o
theorem WfH.upd {H : Hp} {a : Addr} {o : HO} (h : WfH H) (ho : WfO o) : WfH (L2.upd H a o) := fun b u e => by
  by_cases q : b = a
  · subst q; rw [upd_same] at e; cases e; exact ho
  · rw [upd_ne q] at e; exact h b u e
structure Own (M : Mem) (I H : Hp) : Prop where
  nd : (dom M).Nodup
  at_ : ∀ c ∈ M, I c.a = none ∧ ∃ o, H c.a = some o ∧ c.C.r I o c.x
  wf : WfH H
theorem Own.nil {I H : Hp} (w : WfH H) : Own [] I H := ⟨List.nodup_nil, fun _ h => absurd h (by simp), w⟩

structure Go (I H : Hp) (M : Mem) (I' H' : Hp) (M' : Mem) : Prop where
  ii : Same I I'
  ih : Same I' H'
  own : Own M' I' H'
  fr : ∀ b o, H b = some o → b ∉ dom M → H' b = some o
  nw : ∀ b o, I' b = some o → I b = some o ∨ H b = none ∨ b ∈ dom M
  dm : ∀ b ∈ dom M', b ∈ dom M ∨ H b = none
  al : ∀ b, H' b = none → H b = none
theorem Own.some {M : Mem} {I H : Hp} (o : Own M I H) {b : Addr} (h : b ∈ dom M) : I b = none ∧ ∃ u, H b = some u := by
  obtain ⟨c, hc, rfl⟩ := List.mem_map.mp h
  obtain ⟨h1, u, h2, _⟩ := o.at_ c hc
  exact ⟨h1, u, h2⟩
theorem Go.refl {I H : Hp} {M : Mem} (s : Same I H) (o : Own M I H) : Go I H M I H M := ⟨Same.refl _, s, o, fun _ _ h _ => h, fun _ _ h => .inl h, fun _ h => .inl h, fun _ h => h⟩
theorem Go.trans {I H I1 H1 I2 H2 : Hp} {M M1 M2 : Mem} (o : Own M I H) (a : Go I H M I1 H1 M1) (b : Go I1 H1 M1 I2 H2 M2) : Go I H M I2 H2 M2 where
  ii := a.ii.trans b.ii
  ih := b.ih
  own := b.own
  fr := fun c u h n => b.fr c u (a.fr c u h n) fun hm => by
    rcases a.dm c hm with h1 | h1
    · exact n h1
    · rw [h] at h1; cases h1
  nw := fun c u h => by
    rcases b.nw c u h with h1 | h1 | h1
    · exact a.nw c u h1
    · cases e : H c with
      | none => exact .inr (.inl rfl)
      | some u' =>
        refine .inr (.inr ?_)
        refine Decidable.byContradiction fun n => ?_
        rw [a.fr c u' e n] at h1
        cases h1
    · exact .inr (by
        rcases a.dm c h1 with h2 | h2
        · exact .inr h2
        · exact .inl h2)
  dm := fun c h => by
    rcases b.dm c h with h1 | h1
    · exact a.dm c h1
    · cases e : H c with
      | none => exact .inr rfl
      | some u' =>
        refine .inl (Decidable.byContradiction fun n => ?_)
        rw [a.fr c u' e n] at h1
        cases h1
  al := fun c h => a.al c (b.al c h)
theorem Go.new {I H : Hp} {M : Mem} {p : Addr} {u : HO} (s : Same I H) (o : Own M I H) (hp : H p = none) (hw : WfO u) : Go I H M (upd I p u) (upd H p u) M where
  ii := fun b w h => by
    rw [upd_ne (ne_of_none (s b w h) hp)]; exact h
  ih := fun b w h => by
    by_cases e : b = p
    · subst e; rw [upd_same] at h ⊢; exact h
    · rw [upd_ne e] at h ⊢; exact s b w h
  own := ⟨o.nd, fun c hc => by
    obtain ⟨h1, w, h2, h3⟩ := o.at_ c hc
    have ne : c.a ≠ p := ne_of_none h2 hp
    refine ⟨by rw [upd_ne ne]; exact h1, w, by rw [upd_ne ne]; exact h2, c.C.mono (fun b w h => ?_) h3⟩
    rw [upd_ne (ne_of_none (s b w h) hp)]; exact h, o.wf.upd hw⟩
  fr := fun b w h _ => by rw [upd_ne (ne_of_none h hp)]; exact h
  nw := fun b w h => by
    by_cases e : b = p
    · subst e; exact .inr (.inl hp)
    · rw [upd_ne e] at h; exact .inl h
  dm := fun _ h => .inl h
  al := fun b h => by
    by_cases e : b = p
    · subst e; exact hp
    · rw [upd_ne e] at h; exact h
theorem Go.newO {α : Type} {C : FC α} {x : α} {I H : Hp} {M : Mem} {p : Addr} {u : HO} (s : Same I H) (o : Own M I H) (hp : H p = none) (hu : C.r I u x) (hw : WfO u) : Go I H M I (upd H p u) (⟨p, α, C, x⟩ :: M) where
  ii := Same.refl _
  ih := fun b w h => by rw [upd_ne (ne_of_none (s b w h) hp)]; exact s b w h
  own := by
    refine ⟨?_, fun c hc => ?_, o.wf.upd hw⟩
    · refine List.nodup_cons.mpr ⟨fun hm => ?_, o.nd⟩
      obtain ⟨_, w, h⟩ := o.some hm
      rw [show H p = some w from h] at hp; cases hp
    · rcases List.mem_cons.mp hc with rfl | hc
      · refine ⟨?_, u, upd_same, hu⟩
        cases e : I p with
        | none => rfl
        | some w => rw [s p w e] at hp; cases hp
      · obtain ⟨h1, w, h2, h3⟩ := o.at_ c hc
        exact ⟨h1, w, by rw [upd_ne (ne_of_none h2 hp)]; exact h2, h3⟩
  fr := fun b w h _ => by rw [upd_ne (ne_of_none h hp)]; exact h
  nw := fun b w h => .inl h
  dm := fun b h => by
    rcases List.mem_cons.mp h with e | h
    · exact .inr (by rw [e]; exact hp)
    · exact .inl h
  al := fun b h => by
    by_cases e : b = p
    · subst e; exact hp
    · rw [upd_ne e] at h; exact h
theorem Go.freeze {α : Type} {T : FTy α} {xs : List α} {I H I' H' : Hp} {M M' : Mem} {p : Addr} (g : Go I H M I' H' (⟨p, _, cLst T, xs⟩ :: M')) :
    ∃ us, H' p = some (.lst us) ∧ Go I H M (upd I' p (.lst us)) H' M' ∧ (tLs T).r (upd I' p (.lst us)) (.ref p) xs := by
  obtain ⟨h1, w, h2, us, rfl, h3⟩ := g.own.at_ _ List.mem_cons_self
  have h1 : I' p = none := h1
  have h2 : H' p = some (.lst us) := h2
  have ss : Same I' (upd I' p (.lst us)) := fun b w h => by rw [upd_ne (ne_of_none h h1)]; exact h
  have nd := List.nodup_cons.mp g.own.nd
  refine ⟨us, h2, ⟨g.ii.trans ss, fun b w h => ?_, ⟨nd.2, fun c hc => ?_, g.own.wf⟩, g.fr, fun b w h => ?_, fun b hb => g.dm b (List.mem_cons_of_mem _ hb), g.al⟩, p, us, rfl, upd_same, paired_mono ss h3⟩
  · by_cases e : b = p
    · subst e; rw [upd_same] at h; cases h; exact h2
    · rw [upd_ne e] at h; exact g.ih b w h
  · obtain ⟨q1, w, q2, q3⟩ := g.own.at_ c (List.mem_cons_of_mem _ hc)
    have ne : c.a ≠ p := fun e => nd.1 (by
      have q : c.a ∈ dom M' := List.mem_map_of_mem hc
      rw [e] at q; exact q)
    exact ⟨by rw [upd_ne ne]; exact q1, w, q2, c.C.mono ss q3⟩
  · by_cases e : b = p
    · subst e
      rcases g.dm b List.mem_cons_self with h4 | h4
      · exact .inr (.inr h4)
      · exact .inr (.inl h4)
    · rw [upd_ne e] at h; exact g.nw b w h
theorem Go.put1 {I H : Hp} {c c' : FCell} {u : HO} (s : Same I H) (o : Own [c] I H) (ha : c'.a = c.a) (hu : c'.C.r I u c'.x) (hw : WfO u) : Go I H [c] I (upd H c.a u) [c'] where
  ii := Same.refl _
  ih := fun b w h => by
    have n : b ≠ c.a := fun e => by
      have := (o.at_ c List.mem_cons_self).1
      rw [← e, h] at this; cases this
    rw [upd_ne n]; exact s b w h
  own := ⟨List.nodup_cons.mpr ⟨by simp, List.nodup_nil⟩, fun d hd => by
    obtain rfl : d = c' := List.mem_singleton.mp hd
    rw [ha]
    exact ⟨(o.at_ c List.mem_cons_self).1, u, upd_same, hu⟩, o.wf.upd hw⟩
  fr := fun b w h n => by
    have n' : b ≠ c.a := fun e => n (by rw [e]; exact List.mem_cons_self)
    rw [upd_ne n']; exact h
  nw := fun b w h => .inl h
  dm := fun b h => .inl (by
    obtain rfl : b = c'.a := List.mem_singleton.mp h
    rw [ha]; exact List.mem_cons_self)
  al := fun b h => by
    by_cases e : b = c.a
    · rw [e, upd_same] at h; cases h
    · rw [upd_ne e] at h; exact h
end FL
set_option maxHeartbeats 4000000
namespace FL
open PySem L2

section
variable {X : Cx}
structure RdE (X : Cx) (e : Expr) (σ : L2.St) (H : Hp) (Q : VK) : Prop where
  run : ∀ (pins : List (Addr × Obj)) (s : Shared), Inv X pins σ H s → wpAny (model X.prog X.w) X.A (eval e X.env) (EP X pins σ Q) X.xe s
def rdE (X : Cx) (e : Expr) : TE := fun σ H Q => RdE X e σ H Q
structure RdT (X : Cx) (e : Expr) (σ : L2.St) (H : Hp) (Q : Bool → Hp → Prop) : Prop where
  run : ∀ (pins : List (Addr × Obj)) (s : Shared), Inv X pins σ H s → wpAny (model X.prog X.w) X.A (isTrue e X.env (eval e X.env)) (TP X pins σ Q) X.xe s
def rdT (X : Cx) (e : Expr) : TT := fun σ H Q => RdT X e σ H Q
structure RdA (X : Cx) (es : List Expr) (σ : L2.St) (H : Hp) (Q : List V → Hp → Prop) : Prop where
  run : ∀ (pos : Pos) (pins : List (Addr × Obj)) (s : Shared), Inv X pins σ H s → wpAny (model X.prog X.w) X.A (spliced (backTo pos (starEach es X.env))) (AP X pins σ Q) X.xe s
def rdA (X : Cx) (es : List Expr) : TA := fun σ H Q => RdA X es σ H Q
structure RdS (X : Cx) (st : Stmt) (D : Ends) (σ : L2.St) (H : Hp) : Prop where
  run : ∀ (pins : List (Addr × Obj)) (s : Shared), Inv X pins σ H s → wpAny (model X.prog X.w) X.A (exec st X.env) (SP X pins D) X.xe s
def rdS (X : Cx) (st : Stmt) : TS := fun D σ H => RdS X st D σ H
structure RdSs (X : Cx) (st : List Stmt) (D : Ends) (σ : L2.St) (H : Hp) : Prop where
  run : ∀ (pins : List (Addr × Obj)) (s : Shared), Inv X pins σ H s → wpAny (model X.prog X.w) X.A (execs st X.env) (SP X pins D) X.xe s
def rdSs (X : Cx) (st : List Stmt) : TS := fun D σ H => RdSs X st D σ H
theorem pe_rd {e : Expr} : PE X e (rdE X e) := ⟨fun pins s _ _ _ I h => h.run pins s I⟩
theorem pt_rd {e : Expr} : PT X e (rdT X e) := ⟨fun pins s _ _ _ I h => h.run pins s I⟩
theorem pa_rd {es : List Expr} : PA X es (rdA X es) := ⟨fun pos pins s _ _ _ I h => h.run pos pins s I⟩
theorem ps_rd {st : Stmt} : PS X st (rdS X st) := ⟨fun pins s _ _ _ I h => h.run pins s I⟩
theorem pss_rd {st : List Stmt} : PSs X st (rdSs X st) := ⟨fun pins s _ _ _ I h => h.run pins s I⟩
theorem rd_of {e : Expr} {t : TE} (p : PE X e t) {σ : L2.St} {H : Hp} {Q : VK} (h : t σ H Q) : rdE X e σ H Q := ⟨fun pins s I => p.run pins s σ H Q I h⟩
theorem rdT_of {e : Expr} {t : TT} (p : PT X e t) {σ : L2.St} {H : Hp} {Q : Bool → Hp → Prop} (h : t σ H Q) : rdT X e σ H Q := ⟨fun pins s I => p.run pins s σ H Q I h⟩
theorem rdA_of {es : List Expr} {t : TA} (p : PA X es t) {σ : L2.St} {H : Hp} {Q : List V → Hp → Prop} (h : t σ H Q) : rdA X es σ H Q := ⟨fun pos pins s I => p.run pos pins s σ H Q I h⟩
theorem rdS_of {st : Stmt} {t : TS} (p : PS X st t) {σ : L2.St} {H : Hp} {D : Ends} (h : t D σ H) : rdS X st D σ H := ⟨fun pins s I => p.run pins s σ H D I h⟩
theorem rdSs_of {st : List Stmt} {t : TS} (p : PSs X st t) {σ : L2.St} {H : Hp} {D : Ends} (h : t D σ H) : rdSs X st D σ H := ⟨fun pins s I => p.run pins s σ H D I h⟩
end

def EV {α : Type} (X : Cx) (e : Expr) (Γ : Gm) (M : Mem) (T : FTy α) (x : α) (M' : Mem) : Prop :=
  ∀ (σ : L2.St) (I H : Hp) (Q : VK), EnvR I σ Γ → Same I H → Own M I H → (∀ v I' H', Go I H M I' H' M' → T.r I' v x → Q v H') → rdE X e σ H Q
def EVL {α : Type} (X : Cx) (e : Expr) (Γ : Gm) (M : Mem) (T : FTy α) (xs : List α) (M' : Mem) : Prop :=
  ∀ (σ : L2.St) (I H : Hp) (Q : VK), EnvR I σ Γ → Same I H → Own M I H → (∀ p I' H', H p = none → Go I H M I' H' (⟨p, _, cLst T, xs⟩ :: M') → Q (.ref p) H') → rdE X e σ H Q
def ET (X : Cx) (e : Expr) (Γ : Gm) (M : Mem) (b : Bool) (M' : Mem) : Prop :=
  ∀ (σ : L2.St) (I H : Hp) (Q : Bool → Hp → Prop), EnvR I σ Γ → Same I H → Own M I H → (∀ I' H', Go I H M I' H' M' → Q b H') → rdT X e σ H Q
theorem EV.mk {α : Type} {X : Cx} {e : Expr} {Γ : Gm} {M : Mem} {T : FTy α} {x : α} {M' : Mem} (h : ∀ (σ : L2.St) (I H : Hp) (Q : VK), EnvR I σ Γ → Same I H → Own M I H → (∀ v I' H', Go I H M I' H' M' → T.r I' v x → Q v H') → ∀ (pins : List (Addr × Obj)) (s : Shared), Inv X pins σ H s → wpAny (model X.prog X.w) X.A (eval e X.env) (EP X pins σ Q) X.xe s) : EV X e Γ M T x M' := fun σ I H Q g s o k => ⟨h σ I H Q g s o k⟩
theorem EV.go {α : Type} {X : Cx} {e : Expr} {Γ : Gm} {M : Mem} {T : FTy α} {x : α} {M' : Mem} (h : EV X e Γ M T x M') (σ : L2.St) (I H : Hp) (Q : VK) (g : EnvR I σ Γ) (s : Same I H) (o : Own M I H) (k : ∀ v I' H', Go I H M I' H' M' → T.r I' v x → Q v H') (pins : List (Addr × Obj)) (sh : Shared) (iv : Inv X pins σ H sh) : wpAny (model X.prog X.w) X.A (eval e X.env) (EP X pins σ Q) X.xe sh := (h σ I H Q g s o k).run pins sh iv
theorem ET.mk {X : Cx} {e : Expr} {Γ : Gm} {M : Mem} {b : Bool} {M' : Mem} (h : ∀ (σ : L2.St) (I H : Hp) (Q : Bool → Hp → Prop), EnvR I σ Γ → Same I H → Own M I H → (∀ I' H', Go I H M I' H' M' → Q b H') → ∀ (pins : List (Addr × Obj)) (s : Shared), Inv X pins σ H s → wpAny (model X.prog X.w) X.A (isTrue e X.env (eval e X.env)) (TP X pins σ Q) X.xe s) : ET X e Γ M b M' := fun σ I H Q g s o k => ⟨h σ I H Q g s o k⟩
def FRs (I : Hp) : List V → List FV → Prop
  | [], [] => True
  | v :: vs, t :: ts => FR I v t ∧ FRs I vs ts
  | _, _ => False
theorem FRs.mono {I I' : Hp} (e : Same I I') : ∀ {vs : List V} {ts : List FV}, FRs I vs ts → FRs I' vs ts
  | [], [], _ => trivial
  | _ :: _, _ :: _, h => ⟨h.1.mono e, FRs.mono e h.2⟩
  | [], _ :: _, h => h
  | _ :: _, [], h => h
theorem FRs.length {I : Hp} : ∀ {vs : List V} {ts : List FV}, FRs I vs ts → vs.length = ts.length
  | [], [], _ => rfl
  | _ :: _, _ :: _, h => congrArg (· + 1) (FRs.length h.2)
  | [], _ :: _, h => h.elim
  | _ :: _, [], h => h.elim
def EA (X : Cx) (es : List Expr) (Γ : Gm) (M : Mem) (ts : List FV) (M' : Mem) : Prop :=
  ∀ (σ : L2.St) (I H : Hp) (Q : List V → Hp → Prop), EnvR I σ Γ → Same I H → Own M I H → (∀ vs I' H', Go I H M I' H' M' → FRs I' vs ts → Q vs H') → rdA X es σ H Q
theorem EA.go {X : Cx} {es : List Expr} {Γ : Gm} {M : Mem} {ts : List FV} {M' : Mem} (h : EA X es Γ M ts M') (σ : L2.St) (I H : Hp) (Q : List V → Hp → Prop) (g : EnvR I σ Γ) (s : Same I H) (o : Own M I H) (k : ∀ vs I' H', Go I H M I' H' M' → FRs I' vs ts → Q vs H') (pos : Pos) (pins : List (Addr × Obj)) (sh : Shared) (iv : Inv X pins σ H sh) : wpAny (model X.prog X.w) X.A (spliced (backTo pos (starEach es X.env))) (AP X pins σ Q) X.xe sh := (h σ I H Q g s o k).run pos pins sh iv
section
variable {X : Cx} {Γ : Gm} {M M' M1 M2 M3 : Mem} {α β γ : Type} {T : FTy α} {a b c e : Expr} {es : List Expr} {pos : Pos}
theorem EVL.frz {xs : List α} (h : EVL X e Γ M T xs M') : EV X e Γ M (tLs T) xs M' := fun σ I H Q g s o k => h σ I H Q g s o fun p I' H' _ go =>
  let ⟨_, _, go', r⟩ := go.freeze
  k _ _ H' go' r
theorem ev_var (i : Nat) {x : α} {n : Str} (hΓ : Γ[i]? = some (some ⟨α, T, x⟩) := by rfl) (hN : X.N[i]? = some n := by rfl) (hv : Vis X.env.scope n := by first | exact Or.inl rfl | exact Or.inr (Or.inl rfl) | exact Or.inr (Or.inr rfl))
    (hd : (n == ("__debug__" : Str)) = false := by decide) (hcd : (n == ("__classdict__" : Str)) = false := by decide) : EV X (.Name n pos) Γ M T x M := fun σ I H Q g s o k =>
  let ⟨v, h1, h2⟩ := g.get hΓ
  rd_of (pe_var hN hv hd hcd) ⟨v, h1, k v I H (Go.refl s o) h2⟩
theorem ev_int {i : Int} {j : Nat} : EV X (.Constant (.int i) j pos) Γ M tInt i M := fun σ I H Q g s o k => rd_of pe_int (k _ I H (Go.refl s o) rfl)
theorem ev_bl {i : Bool} {j : Nat} : EV X (.Constant (.bool i) j pos) Γ M tBl i M := fun σ I H Q g s o k => rd_of pe_bl (k _ I H (Go.refl s o) rfl)
theorem ev_str {i : Str} {j : Nat} : EV X (.Constant (.str i) j pos) Γ M tStr i M := fun σ I H Q g s o k => rd_of pe_str (k _ I H (Go.refl s o) rfl)
theorem ev_non {j : Nat} : EV X (.Constant .none j pos) Γ M tNon () M := fun σ I H Q g s o k => rd_of pe_non (k _ I H (Go.refl s o) rfl)
def rdO (X : Cx) (f : Value → Value → Sem Value) : R2 := fun v w H Q => ∀ (pins : List (Addr × Obj)) (s : Shared) (σ : L2.St) (v' w' : Value), Inv X pins σ H s → RelV v v' → RelV w w' → wpAny (model X.prog X.w) X.A (f v' w') (EP X pins σ Q) X.xe s
theorem rdO_ok {f : Value → Value → Sem Value} : OpR X f (rdO X f) := fun pins s σ H x y v u Q I rx ry h => h pins s σ v u I rx ry
theorem rdO_of {f : Value → Value → Sem Value} {r : R2} (o : OpR X f r) {v w : V} {H : Hp} {Q : VK} (h : r v w H Q) : rdO X f v w H Q := fun pins s σ v' w' I r1 r2 => o pins s σ H v w v' w' Q I r1 r2 h
def OV {α β γ : Type} (X : Cx) (f : Value → Value → Sem Value) (M : Mem) (T : FTy α) (x : α) (T' : FTy β) (y : β) (T'' : FTy γ) (z : γ) (M' : Mem) : Prop :=
  ∀ (I H : Hp) (v w : V) (Q : VK), Same I H → Own M I H → T.r I v x → T'.r I w y → (∀ u I' H', Go I H M I' H' M' → T''.r I' u z → Q u H') → rdO X f v w H Q
def rdU (X : Cx) (f : Value → Sem Value) : V → Hp → VK → Prop := fun v H Q => ∀ (pins : List (Addr × Obj)) (s : Shared) (σ : L2.St) (v' : Value), Inv X pins σ H s → RelV v v' → wpAny (model X.prog X.w) X.A (f v') (EP X pins σ Q) X.xe s
theorem rdU_ok {f : Value → Sem Value} : UnR X f (rdU X f) := fun pins s σ H x v Q I rx h => h pins s σ v I rx
theorem rdU_of {f : Value → Sem Value} {r : V → Hp → VK → Prop} (o : UnR X f r) {v : V} {H : Hp} {Q : VK} (h : r v H Q) : rdU X f v H Q := fun pins s σ v' I r1 => o pins s σ H v v' Q I r1 h
def UV {α γ : Type} (X : Cx) (f : Value → Sem Value) (M : Mem) (T : FTy α) (x : α) (T'' : FTy γ) (z : γ) (M' : Mem) : Prop :=
  ∀ (I H : Hp) (v : V) (Q : VK), Same I H → Own M I H → T.r I v x → (∀ u I' H', Go I H M I' H' M' → T''.r I' u z → Q u H') → rdU X f v H Q
section
variable {T' : FTy β} {T'' : FTy γ} {x : α} {y : β} {z : γ}
theorem ev_two {r : R2} (ha : EV X a Γ M T x M1) (hb : EV X b Γ M1 T' y M2) (hp : PE X e (tOp r (rdE X a) (rdE X b)))
    (hr : ∀ (I H : Hp) (v w : V) (Q : VK), Same I H → Own M2 I H → T.r I v x → T'.r I w y → (∀ u I' H', Go I H M2 I' H' M3 → T''.r I' u z → Q u H') → r v w H Q) : EV X e Γ M T'' z M3 := fun σ I H Q g s o k =>
  rd_of hp (ha σ I H _ g s o fun v I1 H1 g1 r1 => hb σ I1 H1 _ (g.mono g1.ii) g1.ih g1.own fun w I2 H2 g2 r2 =>
    hr I2 H2 v w Q g2.ih g2.own (T.mono g2.ii r1) r2 fun u I3 H3 g3 r3 => k u I3 H3 ((g1.trans o g2).trans o g3) r3)
theorem ev_op {op : Operator} (ho : OV X (binaryOp op) M2 T x T' y T'' z M3) (ha : EV X a Γ M T x M1) (hb : EV X b Γ M1 T' y M2) : EV X (.BinOp a op b pos) Γ M T'' z M3 := ev_two ha hb (pe_op rdO_ok pe_rd pe_rd) ho
theorem ev_un {op : UnaryOp} (ho : UV X (unaryOp op) M1 T x T'' z M2) (ha : EV X a Γ M T x M1) : EV X (.UnaryOp op a pos) Γ M T'' z M2 := fun σ I H Q g s o k =>
  rd_of (pe_un rdU_ok pe_rd) (ha σ I H _ g s o fun v I1 H1 g1 r1 => ho I1 H1 v Q g1.ih g1.own r1 fun u I2 H2 g2 r2 => k u I2 H2 (g1.trans o g2) r2)
theorem ev_cmp {op : CmpOp} (ho : OV X (compareOp op) M2 T x T' y T'' z M3) (ha : EV X a Γ M T x M1) (hb : EV X b Γ M1 T' y M2) (hm : behindInMarks op b = false := by first | exact nomark _ | rfl | with_unfolding_all rfl) : EV X (.Compare a [op] [b] pos) Γ M T'' z M3 := ev_two ha hb (pe_cmpR rdO_ok pe_rd pe_rd hm) ho
theorem et_cmp {op : CmpOp} {k : Bool} (ho : OV X (compareOp op) M2 T x T' y tBl k M3) (ha : EV X a Γ M T x M1) (hb : EV X b Γ M1 T' y M2) (hm : behindInMarks op b = false := by first | exact nomark _ | rfl | with_unfolding_all rfl) : ET X (.Compare a [op] [b] pos) Γ M k M3 := fun σ I H Q g s o q =>
  rdT_of (pt_cmpR rdO_ok pe_rd pe_rd hm) (ha σ I H _ g s o fun v I1 H1 g1 r1 => hb σ I1 H1 _ (g.mono g1.ii) g1.ih g1.own fun w I2 H2 g2 r2 =>
    ho I2 H2 v w _ g2.ih g2.own (T.mono g2.ii r1) r2 fun u I3 H3 g3 r3 => ⟨k, r3, q I3 H3 ((g1.trans o g2).trans o g3)⟩)
theorem ov_of {f : Value → Value → Sem Value} {r : R2} (ho : OpR X f r) (h : ∀ (I H : Hp) (v w : V) (Q : VK), Same I H → Own M I H → T.r I v x → T'.r I w y → (∀ u, T''.r I u z → Q u H) → r v w H Q) : OV X f M T x T' y T'' z M := fun I H v w Q s o r1 r2 k =>
  rdO_of ho (h I H v w Q s o r1 r2 fun u r3 => k u I H (Go.refl s o) r3)
theorem uv_of {f : Value → Sem Value} {r : V → Hp → VK → Prop} (ho : UnR X f r) (h : ∀ (I H : Hp) (v : V) (Q : VK), Same I H → Own M I H → T.r I v x → (∀ u, T''.r I u z → Q u H) → r v H Q) : UV X f M T x T'' z M := fun I H v Q s o r1 k =>
  rdU_of ho (h I H v Q s o r1 fun u r3 => k u I H (Go.refl s o) r3)
end
section
variable {x y : Int} {i j : Bool} {p q : Str}
theorem ov_I {C : Int → Int → Prop} {g : Int → Int → Int} {f : Value → Value → Sem Value} (ho : OpR X f (rI C fun i j => .int (g i j))) (hc : C x y) : OV X f M tInt x tInt y tInt (g x y) M := ov_of ho fun I H v w Q s o r1 r2 k => ⟨x, y, r1, r2, hc, k _ rfl⟩
theorem ov_I0 {g : Int → Int → Int} {f : Value → Value → Sem Value} (ho : OpR X f (rI0 fun i j => .int (g i j))) : OV X f M tInt x tInt y tInt (g x y) M := ov_of ho fun I H v w Q s o r1 r2 k => ⟨x, y, r1, r2, k _ rfl⟩
theorem ov_B0 {g : Int → Int → Bool} {f : Value → Value → Sem Value} (ho : OpR X f (rI0 fun i j => .bl (g i j))) : OV X f M tInt x tInt y tBl (g x y) M := ov_of ho fun I H v w Q s o r1 r2 k => ⟨x, y, r1, r2, k _ rfl⟩
theorem ov_add : OV X (binaryOp .Add) M tInt x tInt y tInt (x + y) M := ov_I0 op_add
theorem ov_sub : OV X (binaryOp .Sub) M tInt x tInt y tInt (x - y) M := ov_I0 op_sub
theorem ov_mul (hc : CMulW x y) : OV X (binaryOp .Mult) M tInt x tInt y tInt (x * y) M := ov_I op_mulW hc
theorem ov_mod (hc : y ≠ 0) : OV X (binaryOp .Mod) M tInt x tInt y tInt (x.fmod y) M := ov_I op_modN hc
theorem ov_lt : OV X (compareOp .Lt) M tInt x tInt y tBl (decide (x < y)) M := ov_B0 op_lt
theorem ov_le : OV X (compareOp .LtE) M tInt x tInt y tBl (decide (x ≤ y)) M := ov_B0 op_le
theorem ov_gt : OV X (compareOp .Gt) M tInt x tInt y tBl (decide (y < x)) M := ov_B0 op_gt
theorem ov_ge : OV X (compareOp .GtE) M tInt x tInt y tBl (decide (y ≤ x)) M := ov_B0 op_ge
theorem ov_eqI : OV X (compareOp .Eq) M tInt x tInt y tBl (decide (x = y)) M := ov_of op_eq fun I H v w Q s o r1 r2 k => by
  cases r1; cases r2
  exact ⟨rfl, k _ (congrArg V.bl (by by_cases h : x = y <;> simp [h]))⟩
theorem ov_neI : OV X (compareOp .NotEq) M tInt x tInt y tBl (!decide (x = y)) M := ov_of op_ne fun I H v w Q s o r1 r2 k => by
  cases r1; cases r2
  exact ⟨rfl, k _ (congrArg V.bl (by by_cases h : x = y <;> simp [h]))⟩
theorem ov_eqB : OV X (compareOp .Eq) M tBl i tBl j tBl (decide (i = j)) M := ov_of op_eq fun I H v w Q s o r1 r2 k => by
  cases r1; cases r2
  exact ⟨rfl, k _ (congrArg V.bl (by by_cases h : i = j <;> simp [h]))⟩
theorem ov_neB : OV X (compareOp .NotEq) M tBl i tBl j tBl (!decide (i = j)) M := ov_of op_ne fun I H v w Q s o r1 r2 k => by
  cases r1; cases r2
  exact ⟨rfl, k _ (congrArg V.bl (by by_cases h : i = j <;> simp [h]))⟩
theorem ov_eqS : OV X (compareOp .Eq) M tStr p tStr q tBl (decide (p = q)) M := ov_of op_eq fun I H v w Q s o r1 r2 k => by
  cases r1; cases r2
  exact ⟨rfl, k _ (congrArg V.bl (by by_cases h : p = q <;> simp [h]))⟩
theorem ov_neS : OV X (compareOp .NotEq) M tStr p tStr q tBl (!decide (p = q)) M := ov_of op_ne fun I H v w Q s o r1 r2 k => by
  cases r1; cases r2
  exact ⟨rfl, k _ (congrArg V.bl (by by_cases h : p = q <;> simp [h]))⟩
theorem ov_addS (hz : p.length + q.length ≤ sizeLine) : OV X (binaryOp .Add) M tStr p tStr q tStr (p ++ q) M := ov_of op_add_str fun I H v w Q s o r1 r2 k => ⟨p, q, r1, r2, hz, k _ rfl⟩
theorem uv_neg : UV X (unaryOp .USub) M tInt x tInt (-x) M := uv_of un_neg fun I H v Q s o r1 k => ⟨x, r1, k _ rfl⟩
end
theorem et_val {k : Bool} (h : EV X e Γ M tBl k M1) (he : ∀ whole, isTrue e X.env whole = (do let v ← whole; standAt e.pos; holding [v] (truthy v)) := by intro _; rfl) : ET X e Γ M k M1 := fun σ I H Q g s o q =>
  rdT_of (pt_val pe_rd he) (h σ I H _ g s o fun v I1 H1 g1 r1 => ⟨k, r1, q I1 H1 g1⟩)
theorem et_int {i : Int} (h : EV X e Γ M tInt i M1) (he : ∀ whole, isTrue e X.env whole = (do let v ← whole; standAt e.pos; holding [v] (truthy v)) := by intro _; rfl) : ET X e Γ M (i != 0) M1 := fun σ I H Q g s o q =>
  rdT_of (pt_truth pe_rd he) (h σ I H _ g s o fun v I1 H1 g1 r1 => ⟨_, (by cases r1; rfl), q I1 H1 g1⟩)
theorem et_str {i : Str} (h : EV X e Γ M tStr i M1) (hz : i.length ≤ sizeLine) (he : ∀ whole, isTrue e X.env whole = (do let v ← whole; standAt e.pos; holding [v] (truthy v)) := by intro _; rfl) : ET X e Γ M ((i.length : Int) != 0) M1 := fun σ I H Q g s o q =>
  rdT_of (pt_truth pe_rd he) (h σ I H _ g s o fun v I1 H1 g1 r1 => ⟨_, (by cases r1; exact ⟨hz, rfl⟩), q I1 H1 g1⟩)
theorem et_not {k : Bool} (h : ET X e Γ M k M1) : ET X (.UnaryOp .Not e pos) Γ M (!k) M1 := fun σ I H Q g s o q => rdT_of (pt_not pt_rd) (h σ I H _ g s o fun I1 H1 g1 => q I1 H1 g1)
theorem PW_rd {e : Expr} {t : TT} (h : PW X e t) : PT X e t := h.pt
def EW (X : Cx) (e : Expr) (Γ : Gm) (M : Mem) (b : Bool) : Prop :=
  ∀ (σ : L2.St) (I H : Hp) (Q : Bool → Hp → Prop), EnvR I σ Γ → Same I H → Own M I H → (∀ I' H', Go I H M I' H' M → Q b H') → ∀ (whole : Sem Value) (pins : List (Addr × Obj)) (s : Shared), Inv X pins σ H s → wpAny (model X.prog X.w) X.A (isTrue e X.env whole) (TP X pins σ Q) X.xe s
def rdW (X : Cx) (e : Expr) : TT := fun σ H Q => ∀ (whole : Sem Value) (pins : List (Addr × Obj)) (s : Shared), Inv X pins σ H s → wpAny (model X.prog X.w) X.A (isTrue e X.env whole) (TP X pins σ Q) X.xe s
theorem pw_rd {e : Expr} : PW X e (rdW X e) := ⟨fun whole pins s _ _ _ I h => h whole pins s I⟩
theorem ew_and1 {k : Bool} {p : Pos} (h : ET X e Γ M k M) : EW X (.BoolOp .And [e] p) Γ M k := fun σ I H Q g s o q whole pins sh iv => (pw_and1 pt_rd).run whole pins sh σ H Q iv (h σ I H _ g s o q)
theorem ew_or1 {k : Bool} {p : Pos} (h : ET X e Γ M k M) : EW X (.BoolOp .Or [e] p) Γ M k := fun σ I H Q g s o q whole pins sh iv => (pw_or1 pt_rd).run whole pins sh σ H Q iv (h σ I H _ g s o q)
theorem ew_and {k l : Bool} {p : Pos} {rest : List Expr} (h : ET X e Γ M k M) (h2 : k = true → EW X (.BoolOp .And (b :: rest) p) Γ M l) : EW X (.BoolOp .And (e :: b :: rest) p) Γ M (k && l) := fun σ I H Q g s o q whole pins sh iv => by
  refine (pw_and pt_rd pw_rd).run whole pins sh σ H Q iv (h σ I H _ g s o fun I1 H1 g1 => ?_)
  cases k with
  | true => exact iteT (h2 rfl σ I1 H1 Q (g.mono g1.ii) g1.ih g1.own fun I2 H2 g2 => q I2 H2 (g1.trans o g2))
  | false => exact iteF (q I1 H1 g1)
theorem ew_or {k l : Bool} {p : Pos} {rest : List Expr} (h : ET X e Γ M k M) (h2 : k = false → EW X (.BoolOp .Or (b :: rest) p) Γ M l) : EW X (.BoolOp .Or (e :: b :: rest) p) Γ M (k || l) := fun σ I H Q g s o q whole pins sh iv => by
  refine (pw_or pt_rd pw_rd).run whole pins sh σ H Q iv (h σ I H _ g s o fun I1 H1 g1 => ?_)
  cases k with
  | true => exact iteT (q I1 H1 g1)
  | false => exact iteF (h2 rfl σ I1 H1 Q (g.mono g1.ii) g1.ih g1.own fun I2 H2 g2 => q I2 H2 (g1.trans o g2))
theorem EW.t {k : Bool} (h : EW X e Γ M k) : ET X e Γ M k M := fun σ I H Q g s o q => rdT_of (pw_rd (e := e)).pt (h σ I H Q g s o q)
theorem ev_one {op : BoolOp} {k : Bool} {p : Pos} (h : EV X e Γ M tBl k M) : EV X (.BoolOp op [e] p) Γ M tBl k M := fun σ I H Q g s o q => rd_of (pe_one pe_rd) (h σ I H Q g s o q)
theorem ev_and {k l : Bool} {p : Pos} {rest : List Expr} (h : EV X e Γ M tBl k M) (h2 : k = true → EV X (.BoolOp .And (b :: rest) p) Γ M tBl l M) : EV X (.BoolOp .And (e :: b :: rest) p) Γ M tBl (k && l) M := fun σ I H Q g s o q => by
  refine rd_of (pe_and pe_rd pe_rd) (h σ I H _ g s o fun v I1 H1 g1 r1 => ⟨k, r1, ?_⟩)
  cases k with
  | true => exact iteT (h2 rfl σ I1 H1 Q (g.mono g1.ii) g1.ih g1.own fun v I2 H2 g2 r2 => q v I2 H2 (g1.trans o g2) r2)
  | false => exact iteF (q _ I1 H1 g1 rfl)
theorem ev_or {k l : Bool} {p : Pos} {rest : List Expr} (h : EV X e Γ M tBl k M) (h2 : k = false → EV X (.BoolOp .Or (b :: rest) p) Γ M tBl l M) : EV X (.BoolOp .Or (e :: b :: rest) p) Γ M tBl (k || l) M := fun σ I H Q g s o q => by
  refine rd_of (pe_or pe_rd pe_rd) (h σ I H _ g s o fun v I1 H1 g1 r1 => ⟨k, r1, ?_⟩)
  cases k with
  | true => exact iteT (q _ I1 H1 g1 rfl)
  | false => exact iteF (h2 rfl σ I1 H1 Q (g.mono g1.ii) g1.ih g1.own fun v I2 H2 g2 r2 => q v I2 H2 (g1.trans o g2) r2)
theorem ev_not {k : Bool} (h : EV X e Γ M tBl k M1) : EV X (.UnaryOp .Not e pos) Γ M tBl (!k) M1 := fun σ I H Q g s o q => rd_of (pe_not pe_rd) (h σ I H _ g s o fun v I1 H1 g1 r1 => ⟨k, r1, q _ I1 H1 g1 rfl⟩)
theorem ev_if {t : Expr} {k : Bool} {x y : α} {M' : Mem} (ht : ET X t Γ M k M1) (ha : k = true → EV X a Γ M1 T x M') (hb : k = false → EV X b Γ M1 T y M') : EV X (.IfExp t a b pos) Γ M T (if k = true then x else y) M' := fun σ I H Q g s o q => by
  refine rd_of (pe_ifExp pt_rd pe_rd pe_rd) (ht σ I H _ g s o fun I1 H1 g1 => ?_)
  cases k with
  | true => exact iteT (ha rfl σ I1 H1 Q (g.mono g1.ii) g1.ih g1.own fun v I2 H2 g2 r2 => q v I2 H2 (g1.trans o g2) r2)
  | false => exact iteF (hb rfl σ I1 H1 Q (g.mono g1.ii) g1.ih g1.own fun v I2 H2 g2 r2 => q v I2 H2 (g1.trans o g2) r2)
theorem ea_nil : EA X [] Γ M [] M := fun σ I H Q g s o k => rdA_of pa_nil (k [] I H (Go.refl s o) trivial)
theorem ea_cons {x : α} {ts : List FV} (ha : EV X e Γ M T x M1) (hr : EA X es Γ M1 ts M') (hs : starEach (e :: es) X.env = (false, eval e X.env) :: starEach es X.env := by rfl) : EA X (e :: es) Γ M (⟨α, T, x⟩ :: ts) M' := fun σ I H Q g s o k =>
  rdA_of (pa_cons pe_rd pa_rd hs) (ha σ I H _ g s o fun v I1 H1 g1 r1 => hr σ I1 H1 _ (g.mono g1.ii) g1.ih g1.own fun vs I2 H2 g2 r2 => k (v :: vs) I2 H2 (g1.trans o g2) ⟨T.mono g2.ii r1, r2⟩)
end
end FL
set_option maxHeartbeats 4000000
namespace FL
open PySem L2

theorem Go.frame {I H I' H' : Hp} {A B M M' : Mem} (o : Own (A ++ M ++ B) I H) (g : Go I H M I' H' M') : Go I H (A ++ M ++ B) I' H' (A ++ M' ++ B) := by
  have dA : dom (A ++ M ++ B) = dom A ++ dom M ++ dom B := by simp [dom]
  have dA' : dom (A ++ M' ++ B) = dom A ++ dom M' ++ dom B := by simp [dom]
  have nd := o.nd
  rw [dA] at nd
  have nd1 := List.nodup_append.mp nd
  have nd2 := List.nodup_append.mp nd1.1
  have liveA : ∀ b ∈ dom A, ∃ u, H b = some u := fun b hb => (o.some (by rw [dA]; simp [hb])).2
  have liveB : ∀ b ∈ dom B, ∃ u, H b = some u := fun b hb => (o.some (by rw [dA]; simp [hb])).2
  have offM' : ∀ b, (∃ u, H b = some u) → b ∉ dom M → b ∉ dom M' := fun b ⟨u, hu⟩ hn hm => by
    rcases g.dm b hm with h | h
    · exact hn h
    · rw [hu] at h; cases h
  have apA : ∀ b ∈ dom A, b ∉ dom M := fun b hb hm => nd2.2.2 b hb b hm rfl
  have apB : ∀ b ∈ dom B, b ∉ dom M := fun b hb hm => nd1.2.2 b (by simp [hm]) b hb rfl
  have apAB : ∀ b ∈ dom A, b ∉ dom B := fun b hb hm => nd1.2.2 b (by simp [hb]) b hm rfl
  have kept : ∀ c : FCell, c ∈ A ++ M ++ B → c.a ∉ dom M → I' c.a = none ∧ ∃ u, H' c.a = some u ∧ c.C.r I' u c.x := fun c hc hn => by
    obtain ⟨h1, u, h2, h3⟩ := o.at_ c hc
    refine ⟨?_, u, g.fr _ _ h2 hn, c.C.mono g.ii h3⟩
    cases e : I' c.a with
    | none => rfl
    | some w =>
      rcases g.nw _ _ e with h | h | h
      · rw [h1] at h; cases h
      · rw [h2] at h; cases h
      · exact absurd h hn
  refine ⟨g.ii, g.ih, ⟨?_, fun c hc => ?_, g.own.wf⟩, fun b u h hn => g.fr b u h fun hm => hn (by rw [dA]; simp [hm]), fun b u h => ?_, fun b hb => ?_, g.al⟩
  · rw [dA']
    refine List.nodup_append.mpr ⟨List.nodup_append.mpr ⟨nd2.1, g.own.nd, fun a ha b hb e => ?_⟩, nd1.2.1, fun a ha b hb e => ?_⟩
    · subst e; exact offM' a (liveA a ha) (apA a ha) hb
    · subst e
      rcases List.mem_append.mp ha with h | h
      · exact apAB a h hb
      · exact offM' a (liveB a hb) (apB a hb) h
  · rcases List.mem_append.mp hc with h | h
    · rcases List.mem_append.mp h with h | h
      · exact kept c (by simp [h]) (apA _ (List.mem_map_of_mem h))
      · exact g.own.at_ c h
    · exact kept c (by simp [h]) (apB _ (List.mem_map_of_mem h))
  · rcases g.nw b u h with h | h | h
    · exact .inl h
    · exact .inr (.inl h)
    · exact .inr (.inr (by rw [dA]; simp [h]))
  · rw [dA'] at hb
    rcases List.mem_append.mp hb with h | h
    · rcases List.mem_append.mp h with h | h
      · exact .inl (by rw [dA]; simp [h])
      · rcases g.dm b h with h | h
        · exact .inl (by rw [dA]; simp [h])
        · exact .inr h
    · exact .inl (by rw [dA]; simp [h])
theorem Own.part {I H : Hp} {A B M : Mem} (o : Own (A ++ M ++ B) I H) : Own M I H := by
  have dA : dom (A ++ M ++ B) = dom A ++ dom M ++ dom B := by simp [dom]
  have nd := o.nd
  rw [dA] at nd
  exact ⟨(List.nodup_append.mp (List.nodup_append.mp nd).1).2.1, fun c hc => o.at_ c (by simp [hc]), o.wf⟩

structure Exn where
  C : Addr
  fs : List (Str × FV)
def ExnR (I H : Hp) (cls : Value) (d : Option Addr) (x : Exn) : Prop := cls = .ref x.C ∧ ((x.fs = [] ∧ d = none) ∨ ∃ dd vs, d = some dd ∧ I dd = some (.xd vs) ∧ vs.map (·.1) = x.fs.map (·.1) ∧ FRs I (vs.map (·.2)) (x.fs.map (·.2)))
inductive Out where
  | next (Γ : Gm) (M : Mem)
  | ret (t : FV) (M : Mem)
  | brk (Γ : Gm) (M : Mem)
  | cont (Γ : Gm) (M : Mem)
  | exc (x : Exn) (Γ : Gm) (M : Mem)
def Acc (D : Ends) (W : WX) (I H : Hp) (M : Mem) : Out → Prop
  | .next Γ' M' => ∀ σ' I' H', Go I H M I' H' M' → EnvR I' σ' Γ' → D.nx σ' H'
  | .ret t M' => ∀ v I' H', Go I H M I' H' M' → FR I' v t → D.rt v H'
  | .brk Γ' M' => ∀ σ' I' H', Go I H M I' H' M' → EnvR I' σ' Γ' → D.bk σ' H'
  | .cont Γ' M' => ∀ σ' I' H', Go I H M I' H' M' → EnvR I' σ' Γ' → D.ct σ' H'
  | .exc x Γ' M' => ∀ cls d σ' I' H', Go I H M I' H' M' → EnvR I' σ' Γ' → ExnR I' H' cls d x → W cls d σ' H'
theorem Acc.after {D : Ends} {W : WX} {I H I1 H1 : Hp} {M M1 : Mem} (ow : Own M I H) (g : Go I H M I1 H1 M1) : ∀ {o : Out}, Acc D W I H M o → Acc D W I1 H1 M1 o
  | .next _ _, h => fun σ' I' H' g' => h σ' I' H' (g.trans ow g')
  | .ret _ _, h => fun v I' H' g' => h v I' H' (g.trans ow g')
  | .brk _ _, h => fun σ' I' H' g' => h σ' I' H' (g.trans ow g')
  | .cont _ _, h => fun σ' I' H' g' => h σ' I' H' (g.trans ow g')
  | .exc _ _ _, h => fun c d σ' I' H' g' => h c d σ' I' H' (g.trans ow g')
def S1 (X : Cx) (W : WX) (st : Stmt) (Γ : Gm) (M : Mem) (Φ : Out → Prop) : Prop :=
  ∀ (σ : L2.St) (I H : Hp) (D : Ends), EnvR I σ Γ → Same I H → Own M I H → (∀ o, Φ o → Acc D W I H M o) → rdS X st D σ H
def SV (X : Cx) (W : WX) (sts : List Stmt) (Γ : Gm) (M : Mem) (Φ : Out → Prop) : Prop :=
  ∀ (σ : L2.St) (I H : Hp) (D : Ends), EnvR I σ Γ → Same I H → Own M I H → (∀ o, Φ o → Acc D W I H M o) → rdSs X sts D σ H
theorem S1.mk {X : Cx} {W : WX} {st : Stmt} {Γ : Gm} {M : Mem} {Φ : Out → Prop} (h : ∀ (σ : L2.St) (I H : Hp) (D : Ends), EnvR I σ Γ → Same I H → Own M I H → (∀ o, Φ o → Acc D W I H M o) → ∀ (pins : List (Addr × Obj)) (s : Shared), Inv X pins σ H s → wpAny (model X.prog X.w) X.A (exec st X.env) (SP X pins D) X.xe s) : S1 X W st Γ M Φ := fun σ I H D g s o k => ⟨h σ I H D g s o k⟩
theorem SV.go {X : Cx} {W : WX} {sts : List Stmt} {Γ : Gm} {M : Mem} {Φ : Out → Prop} (h : SV X W sts Γ M Φ) (σ : L2.St) (I H : Hp) (D : Ends) (g : EnvR I σ Γ) (s : Same I H) (o : Own M I H) (k : ∀ o, Φ o → Acc D W I H M o) (pins : List (Addr × Obj)) (sh : Shared) (iv : Inv X pins σ H sh) : wpAny (model X.prog X.w) X.A (execs sts X.env) (SP X pins D) X.xe sh := (h σ I H D g s o k).run pins sh iv
def Then (X : Cx) (W : WX) (rest : List Stmt) (Φ : Out → Prop) : Out → Prop
  | .next Γ M => SV X W rest Γ M Φ
  | o => Φ o
section
variable {X : Cx} {W : WX} {Γ Γ' : Gm} {M M' M1 M2 M3 : Mem} {α β γ : Type} {T : FTy α} {a b c e : Expr} {es : List Expr} {pos : Pos} {st : Stmt} {sts rest : List Stmt} {Φ Ψ : Out → Prop}
theorem sv_nil (h : Φ (.next Γ M)) : SV X W [] Γ M Φ := fun σ I H D g s o k => rdSs_of pss_nil ((k _ h) σ I H (Go.refl s o) g)
theorem sv_cons (h : S1 X W st Γ M (Then X W rest Φ)) : SV X W (st :: rest) Γ M Φ := fun σ I H D g s o k =>
  rdSs_of (pss_cons ps_rd pss_rd) (h σ I H { D with nx := rdSs X rest D } g s o fun out ho => by
    cases out with
    | next Γ' M' => exact fun σ' I' H' g' e' => (show SV X W rest Γ' M' Φ from ho) σ' I' H' D e' g'.ih g'.own fun o2 h2 => (k o2 h2).after o g'
    | ret t M' => exact k (.ret t M') ho
    | brk Γ' M' => exact k (.brk Γ' M') ho
    | cont Γ' M' => exact k (.cont Γ' M') ho
    | exc x Γ' M' => exact k (.exc x Γ' M') ho)
theorem sv_one (h : S1 X W st Γ M Φ) : SV X W [st] Γ M Φ := fun σ I H D g s o k => rdSs_of (pss_one ps_rd) (h σ I H D g s o k)
theorem s_weak (h : S1 X W st Γ M Ψ) (i : ∀ o, Ψ o → Φ o) : S1 X W st Γ M Φ := fun σ I H D g s o k => h σ I H D g s o fun out ho => k out (i out ho)
theorem sv_weak (h : SV X W sts Γ M Ψ) (i : ∀ o, Ψ o → Φ o) : SV X W sts Γ M Φ := fun σ I H D g s o k => h σ I H D g s o fun out ho => k out (i out ho)
theorem sv_forget (h : SV X W sts Γ' M Φ) (hl : Γ'.length = Γ.length) (w : ∀ (i : Nat) t, Γ'[i]? = some (some t) → Γ[i]? = some (some t)) : SV X W sts Γ M Φ := fun σ I H D g s o k => h σ I H D (g.weak hl w) s o k
theorem s_pass (h : Φ (.next Γ M)) : S1 X W (.Pass pos) Γ M Φ := fun σ I H D g s o k => rdS_of ps_pass ((k _ h) σ I H (Go.refl s o) g)
theorem s_brk (h : Φ (.brk Γ M)) : S1 X W (.Break pos) Γ M Φ := fun σ I H D g s o k => rdS_of ps_break ((k _ h) σ I H (Go.refl s o) g)
theorem s_cont (h : Φ (.cont Γ M)) : S1 X W (.Continue pos) Γ M Φ := fun σ I H D g s o k => rdS_of ps_continue ((k _ h) σ I H (Go.refl s o) g)
theorem s_ret {x : α} (h : EV X e Γ M T x M1) (k : Φ (.ret ⟨α, T, x⟩ M1)) : S1 X W (.Return (some e) pos) Γ M Φ := fun σ I H D g s o q => rdS_of (ps_ret pe_rd) (h σ I H _ g s o fun v I1 H1 g1 r1 => (q _ k) v I1 H1 g1 r1)
theorem s_retN (k : Φ (.ret ⟨Unit, tNon, ()⟩ M)) : S1 X W (.Return none pos) Γ M Φ := fun σ I H D g s o q => rdS_of ps_retN ((q _ k) _ I H (Go.refl s o) rfl)
theorem s_retL {xs : List α} (h : EVL X e Γ M T xs M1) (k : ∀ p, Φ (.ret ⟨Addr, tAdr, p⟩ (⟨p, _, cLst T, xs⟩ :: M1))) : S1 X W (.Return (some e) pos) Γ M Φ := fun σ I H D g s o q => rdS_of (ps_ret pe_rd) (h σ I H _ g s o fun p I1 H1 hp g1 => (q _ (k p)) _ I1 H1 g1 rfl)
theorem s_expr {x : α} (h : EV X e Γ M T x M1) (k : Φ (.next Γ M1)) (hs : swapsWith e none pos.line X.env = pure false := by rfl) : S1 X W (.Expr e pos) Γ M Φ := fun σ I H D g s o q => rdS_of (ps_expr pe_rd hs) (h σ I H _ g s o fun v I1 H1 g1 r1 => (q _ k) σ I1 H1 g1 (g.mono g1.ii))
theorem s_doc {z : Str} {j : Nat} {p : Pos} (k : Φ (.next Γ M)) : S1 X W (.Expr (.Constant (.str z) j p) pos) Γ M Φ := fun σ I H D g s o q => rdS_of ps_doc ((q _ k) σ I H (Go.refl s o) g)
theorem s_set (i : Nat) {n : Str} {p : Pos} {x : α} (hN : X.N.Nodup) (h : EV X e Γ M T x M1) (k : Φ (.next (Γ.set i (some ⟨α, T, x⟩)) M1)) (hi : X.N[i]? = some n := by rfl) (hx : Loc X.env.scope n := by first | exact Or.inl rfl | exact Or.inr rfl)
    (hs : swapsWith e (some (.Name n p)) pos.line X.env = pure false := by rfl) (hf : X.fn n = true ∨ X.env.scope.names.lookup n = some .local := by first | exact .inl rfl | exact .inr rfl) : S1 X W (.Assign [.Name n p] e pos) Γ M Φ := fun σ I H D g s o q =>
  rdS_of (ps_set hN hi hx pe_rd hs hf) (h σ I H _ g s o fun v I1 H1 g1 r1 => (q _ k) _ I1 H1 g1 ((g.mono g1.ii).set (t := ⟨α, T, x⟩) r1 i))
theorem s_setL (i : Nat) {n : Str} {p : Pos} {xs : List α} (hN : X.N.Nodup) (h : EVL X e Γ M T xs M1) (k : ∀ q, Φ (.next (Γ.set i (some ⟨Addr, tAdr, q⟩)) (⟨q, _, cLst T, xs⟩ :: M1))) (hi : X.N[i]? = some n := by rfl) (hx : Loc X.env.scope n := by first | exact Or.inl rfl | exact Or.inr rfl)
    (hs : swapsWith e (some (.Name n p)) pos.line X.env = pure false := by rfl) (hf : X.fn n = true ∨ X.env.scope.names.lookup n = some .local := by first | exact .inl rfl | exact .inr rfl) : S1 X W (.Assign [.Name n p] e pos) Γ M Φ := fun σ I H D g s o q =>
  rdS_of (ps_set hN hi hx pe_rd hs hf) (h σ I H _ g s o fun v I1 H1 hp g1 => (q _ (k v)) _ I1 H1 g1 ((g.mono g1.ii).set (t := ⟨Addr, tAdr, v⟩) rfl i))
theorem s_if {k : Bool} {A B : List Stmt} (h : ET X e Γ M k M1) (h1 : k = true → SV X W A Γ M1 Φ) (h2 : k = false → SV X W B Γ M1 Φ) : S1 X W (.If e A B pos) Γ M Φ := fun σ I H D g s o q => by
  refine rdS_of (ps_if pt_rd pss_rd pss_rd) (h σ I H _ g s o fun I1 H1 g1 => ?_)
  cases k with
  | true => exact iteT (h1 rfl σ I1 H1 D (g.mono g1.ii) g1.ih g1.own fun out ho => (q out ho).after o g1)
  | false => exact iteF (h2 rfl σ I1 H1 D (g.mono g1.ii) g1.ih g1.own fun out ho => (q out ho).after o g1)
def Turn1 (Φ : Out → Prop) (K : Gm → Mem → Prop) : Out → Prop
  | .next Γ M => K Γ M
  | .cont Γ M => K Γ M
  | .brk Γ M => Φ (.next Γ M)
  | o => Φ o
def LV (X : Cx) (W : WX) (i : Nat) (body : List Stmt) (T : FTy α) (Φ : Out → Prop) : List α → Gm → Mem → Prop
  | [], Γ, M => Φ (.next Γ M)
  | x :: xs, Γ, M => SV X W body (Γ.set i (some ⟨α, T, x⟩)) M (Turn1 Φ fun Γ' M' => LV X W i body T Φ xs Γ' M')
theorem paired_get {R : V → α → Prop} : ∀ {us : List V} {xs : List α} {i : Nat} {u : V}, Paired R us xs → us[i]? = some u → ∃ x, xs[i]? = some x ∧ R u x
  | _, _, 0, u, .cons h _, e => by simp at e; subst e; exact ⟨_, rfl, h⟩
  | _, _, i + 1, u, .cons _ t, e => by
    obtain ⟨x, h1, h2⟩ := paired_get (i := i) t (by simpa using e)
    exact ⟨x, by simpa using h1, h2⟩
  | _, _, i, u, .nil, e => by simp at e
theorem drop_at {xs : List α} {i : Nat} {x : α} (h : xs[i]? = some x) : xs.drop i = x :: xs.drop (i + 1) := by
  obtain ⟨hi, e⟩ := List.getElem?_eq_some_iff.mp h
  rw [List.drop_eq_getElem_cons hi, e]
section
variable {iter : Expr} {body : List Stmt} {i : Nat} {n : Str} {p : Pos} {xs : List α}
theorem turn_acc {D : Ends} {I H I1 H1 : Hp} {Pn : L2.St → Hp → Prop} {K : Gm → Mem → Prop} (o : Own M I H) (g : Go I H M I1 H1 M1) (q : ∀ out, Φ out → Acc D W I H M out) (hk : ∀ Γ' M' σ' I' H', K Γ' M' → Go I H M I' H' M' → EnvR I' σ' Γ' → Same I1 I' → Pn σ' H') :
    ∀ out, Turn1 Φ K out → Acc { D with nx := Pn, ct := Pn, bk := D.nx } W I1 H1 M1 out := fun out ho => by
  cases out with
  | next Γ' M' => exact fun σ' I' H' g' e' => hk Γ' M' σ' I' H' ho (g.trans o g') e' g'.ii
  | cont Γ' M' => exact fun σ' I' H' g' e' => hk Γ' M' σ' I' H' ho (g.trans o g') e' g'.ii
  | brk Γ' M' => exact fun σ' I' H' g' e' => (q _ (show Φ (.next Γ' M') from ho)) σ' I' H' (g.trans o g') e'
  | ret t M' => exact (q _ (show Φ (.ret t M') from ho)).after (D := D) o g
  | exc x Γ' M' => exact (q _ (show Φ (.exc x Γ' M') from ho)).after (D := D) o g
theorem s_for (i : Nat) (hp : PassesOwn (model X.prog X.w) X.A X.env X.xe) (hc : X.calm = true) (hN : X.N.Nodup) (h : EV X iter Γ M (tLs T) xs M1) (k : LV X W i body T Φ xs Γ M1)
    (hi : X.N[i]? = some n := by rfl) (hx : Loc X.env.scope n := by first | exact Or.inl rfl | exact Or.inr rfl) (hf : X.fn n = true ∨ X.env.scope.names.lookup n = some .local := by first | exact .inl rfl | exact .inr rfl) (hfs : ∀ x, foldedSetIterable iter X.env x = pure x := by intro _; rfl) :
    S1 X W (.For (.Name n p) iter body [] pos) Γ M Φ := fun σ I H D g s o q => by
  refine rdS_of (ps_for hp hc (pi_list pe_rd) (pg_name hN hi hx hf) pss_rd hfs) (h σ I H _ g s o fun v I1 H1 g1 r1 => ?_)
  obtain ⟨a, us, rfl, h2, h3⟩ := r1
  refine ⟨a, rfl, ⟨us, SqL.of (g1.ih _ _ h2)⟩, for_list (xs := us) (fun j σ' H' => ∃ I' Γ' M', EnvR I' σ' Γ' ∧ Go I H M I' H' M' ∧ Same I1 I' ∧ LV X W i body T Φ (xs.drop j) Γ' M') ⟨I1, Γ, M1, g.mono g1.ii, g1, Same.refl _, k⟩ ?_ ?_ ?_⟩
  · rintro j σ' H' _ ⟨I', Γ', M', e', g', s', k'⟩
    exact SqL.of (g'.ih _ _ (s' _ _ h2))
  · rintro j u σ' H' hu ⟨I', Γ', M', e', g', s', k'⟩
    obtain ⟨x, hx', rx⟩ := paired_get h3 hu
    rw [drop_at hx'] at k'
    exact (show SV X W body _ _ _ from k') _ I' H' _ (e'.set (t := ⟨α, T, x⟩) (T.mono s' rx) i) g'.ih g'.own (turn_acc o g' q fun Γ2 M2 σ2 I2 H2 k2 g2 e2 s2 => ⟨I2, Γ2, M2, e2, g2, s'.trans s2, k2⟩)
  · rintro σ' H' ⟨I', Γ', M', e', g', s', k'⟩
    have hl : us.length = xs.length := Paired.length h3
    rw [List.drop_eq_nil_of_le (by omega)] at k'
    exact (q _ (show Φ (.next Γ' M') from k')) σ' I' H' g' e'
theorem s_forT (i : Nat) (hp : PassesOwn (model X.prog X.w) X.A X.env X.xe) (hc : X.calm = true) (hN : X.N.Nodup) (h : EV X iter Γ M (tTp T) xs M1) (k : LV X W i body T Φ xs Γ M1)
    (hi : X.N[i]? = some n := by rfl) (hx : Loc X.env.scope n := by first | exact Or.inl rfl | exact Or.inr rfl) (hf : X.fn n = true ∨ X.env.scope.names.lookup n = some .local := by first | exact .inl rfl | exact .inr rfl) (hfs : ∀ x, foldedSetIterable iter X.env x = pure x := by intro _; rfl) :
    S1 X W (.For (.Name n p) iter body [] pos) Γ M Φ := fun σ I H D g s o q => by
  refine rdS_of (ps_for hp hc (pi_tup pe_rd) (pg_name hN hi hx hf) pss_rd hfs) (h σ I H _ g s o fun v I1 H1 g1 r1 => ?_)
  obtain ⟨a, us, rfl, h2, h3⟩ := r1
  refine ⟨a, rfl, ⟨us, SqT.of (g1.ih _ _ h2)⟩, for_tup (xs := us) (fun j σ' H' => ∃ I' Γ' M', EnvR I' σ' Γ' ∧ Go I H M I' H' M' ∧ Same I1 I' ∧ LV X W i body T Φ (xs.drop j) Γ' M') ⟨I1, Γ, M1, g.mono g1.ii, g1, Same.refl _, k⟩ ?_ ?_ ?_⟩
  · rintro j σ' H' _ ⟨I', Γ', M', e', g', s', k'⟩
    exact SqT.of (g'.ih _ _ (s' _ _ h2))
  · rintro j u σ' H' hu ⟨I', Γ', M', e', g', s', k'⟩
    obtain ⟨x, hx', rx⟩ := paired_get h3 hu
    rw [drop_at hx'] at k'
    exact (show SV X W body _ _ _ from k') _ I' H' _ (e'.set (t := ⟨α, T, x⟩) (T.mono s' rx) i) g'.ih g'.own (turn_acc o g' q fun Γ2 M2 σ2 I2 H2 k2 g2 e2 s2 => ⟨I2, Γ2, M2, e2, g2, s'.trans s2, k2⟩)
  · rintro σ' H' ⟨I', Γ', M', e', g', s', k'⟩
    have hl : us.length = xs.length := Paired.length h3
    rw [List.drop_eq_nil_of_le (by omega)] at k'
    exact (q _ (show Φ (.next Γ' M') from k')) σ' I' H' g' e'
def rng (lo : Int) : Nat → List Int
  | 0 => []
  | n + 1 => lo :: rng (lo + 1) n
theorem rng_len : ∀ {lo : Int} {n : Nat}, (rng lo n).length = n
  | _, 0 => rfl
  | _, n + 1 => congrArg (· + 1) rng_len
theorem rng_at : ∀ {lo : Int} {n i : Nat}, i < n → (rng lo n)[i]? = some (lo + i)
  | lo, 0, i, h => absurd h (by omega)
  | lo, n + 1, 0, _ => by show some lo = _; simp
  | lo, n + 1, i + 1, h => by
    show (rng (lo + 1) n)[i]? = _
    rw [rng_at (by omega)]
    congr 1
    omega
theorem s_for_rg {ar : Expr} {lo : Int} {m : Nat} (i : Nat) (hp : PassesOwn (model X.prog X.w) X.A X.env X.xe) (hc : X.calm = true) (hN : X.N.Nodup)
    (h : ∀ (σ : L2.St) (I H : Hp) (R : It → Hp → Prop), EnvR I σ Γ → Same I H → Own M I H → (∀ I' H', Go I H M I' H' M1 → R (Itr lo m) H') → ∃ wi : TI, PI X (.Name n p) iter wi ∧ wi σ H R) (k : LV X W i body tInt Φ (rng lo m) Γ M1)
    (hi : X.N[i]? = some n) (hx : Loc X.env.scope n) (hf : X.fn n = true ∨ X.env.scope.names.lookup n = some .local) (hfs : ∀ x, foldedSetIterable iter X.env x = pure x) :
    S1 X W (.For (.Name n p) iter body [] pos) Γ M Φ := fun σ I H D g s o q => by
  obtain ⟨wi, hw, hr⟩ := h σ I H (fun J H1 => ∃ W : Nat → Nat → L2.St → Hp → Prop, (∃ m, W 0 m σ H1) ∧ ∀ i' m σ H, W i' m σ H → (J.stop i' H ∧ D.nx σ H) ∨ (J.go i' H ∧ ∃ N : L2.St → Hp → Prop, (∀ σ' H', N σ' H' → ∃ m', m' < m ∧ W (i' + 1) m' σ' H') ∧ ∀ x H', J.yld i' H x H' → gName i x σ H' fun σ2 H2 => rdSs X body { D with nx := N, ct := N, bk := D.nx } σ2 H2)) g s o fun I1 H1 g1 => by
    refine for_range (lo := lo) (n := m) (fun j σ' H' => ∃ I' Γ' M', EnvR I' σ' Γ' ∧ Go I H M I' H' M' ∧ LV X W i body tInt Φ ((rng lo m).drop j) Γ' M') ⟨I1, Γ, M1, g.mono g1.ii, g1, k⟩ ?_ ?_
    · rintro j σ' H' hj ⟨I', Γ', M', e', g', k'⟩
      rw [drop_at (rng_at hj)] at k'
      exact (show SV X W body _ _ _ from k') _ I' H' _ (e'.set (t := ⟨Int, tInt, lo + j⟩) rfl i) g'.ih g'.own (turn_acc o g' q fun Γ2 M2 σ2 I2 H2 k2 g2 e2 s2 => ⟨I2, Γ2, M2, e2, g2, k2⟩)
    · rintro σ' H' ⟨I', Γ', M', e', g', k'⟩
      rw [List.drop_eq_nil_of_le (by rw [rng_len]; omega)] at k'
      exact (q _ (show Φ (.next Γ' M') from k')) σ' I' H' g' e'
  exact rdS_of (ps_for hp hc hw (pg_name hN hi hx hf) pss_rd hfs) hr
theorem s_for_r1 {ar : Expr} {rp cp : Pos} {j : Int} (i : Nat) (hp : PassesOwn (model X.prog X.w) X.A X.env X.xe) (hc : X.calm = true) (hN : X.N.Nodup) (hm : X.mg "range" = none) (h : EV X ar Γ M tInt j M1) (k : LV X W i body tInt Φ (rng 0 j.toNat) Γ M1)
    (h1 : -(2 ^ 62) ≤ j) (h2 : j < 2 ^ 62) (hg : Gl X "range" := by rfl) (hi : X.N[i]? = some n := by rfl) (hx : Loc X.env.scope n := by first | exact Or.inl rfl | exact Or.inr rfl) (hf : X.fn n = true ∨ X.env.scope.names.lookup n = some .local := by first | exact .inl rfl | exact .inr rfl)
    (hs : starEach [ar] X.env = [(false, eval ar X.env)] := by rfl) :
    S1 X W (.For (.Name n p) (.Call (.Name "range" rp) [ar] [] cp) body [] pos) Γ M Φ :=
  s_for_rg (ar := ar) i hp hc hN (fun σ I H R g s o q => ⟨_, pi_range1 hg hm (pa_cons pe_rd pa_nil hs) hs, h σ I H _ g s o fun v I1 H1 g1 r1 => ⟨j, by cases r1; rfl, h1, h2, q I1 H1 g1⟩⟩) k hi hx hf (by intro _; rfl)
theorem s_for_r2 {ar br : Expr} {rp cp : Pos} {lo hi' : Int} (i : Nat) (hp : PassesOwn (model X.prog X.w) X.A X.env X.xe) (hc : X.calm = true) (hN : X.N.Nodup) (hm : X.mg "range" = none) (h : EV X ar Γ M tInt lo M1) (h' : EV X br Γ M1 tInt hi' M2) (k : LV X W i body tInt Φ (rng lo (hi' - lo).toNat) Γ M2)
    (h1 : -(2 ^ 62) ≤ lo ∧ lo < 2 ^ 62 ∧ -(2 ^ 62) ≤ hi' ∧ hi' < 2 ^ 62) (hg : Gl X "range" := by rfl) (hi : X.N[i]? = some n := by rfl) (hx : Loc X.env.scope n := by first | exact Or.inl rfl | exact Or.inr rfl) (hf : X.fn n = true ∨ X.env.scope.names.lookup n = some .local := by first | exact .inl rfl | exact .inr rfl)
    (hs : starEach [ar, br] X.env = [(false, eval ar X.env), (false, eval br X.env)] := by rfl) (hs2 : starEach [br] X.env = [(false, eval br X.env)] := by rfl) :
    S1 X W (.For (.Name n p) (.Call (.Name "range" rp) [ar, br] [] cp) body [] pos) Γ M Φ :=
  s_for_rg (ar := ar) i hp hc hN (fun σ I H R g s o q => ⟨_, pi_range2 hg hm (pa_cons pe_rd (pa_cons pe_rd pa_nil hs2) (by rw [hs, hs2])) hs hs2, h σ I H _ g s o fun v I1 H1 g1 r1 => h' σ I1 H1 _ (g.mono g1.ii) g1.ih g1.own fun v2 I2 H2 g2 r2 => ⟨lo, hi', by cases r1; cases r2; rfl, h1, q I2 H2 (g1.trans o g2)⟩⟩) k hi hx hf (by intro _; rfl)
end
end
end FL
set_option maxHeartbeats 4000000
namespace FL
open PySem L2 PyProof.Rows

def EVN {α : Type} (X : Cx) (e : Expr) (Γ : Gm) (M : Mem) (C : FC α) (x : α) (M' : Mem) : Prop :=
  ∀ (σ : L2.St) (I H : Hp) (Q : VK), EnvR I σ Γ → Same I H → Own M I H → (∀ p I' H', H p = none → Go I H M I' H' (⟨p, α, C, x⟩ :: M') → Q (.ref p) H') → rdE X e σ H Q
theorem EVN.mk {α : Type} {X : Cx} {e : Expr} {Γ : Gm} {M : Mem} {C : FC α} {x : α} {M' : Mem} (h : ∀ (σ : L2.St) (I H : Hp) (Q : VK), EnvR I σ Γ → Same I H → Own M I H → (∀ p I' H', H p = none → Go I H M I' H' (⟨p, α, C, x⟩ :: M') → Q (.ref p) H') → ∀ (pins : List (Addr × Obj)) (s : Shared), Inv X pins σ H s → wpAny (model X.prog X.w) X.A (eval e X.env) (EP X pins σ Q) X.xe s) : EVN X e Γ M C x M' := fun σ I H Q g s o k => ⟨h σ I H Q g s o k⟩
theorem Go.frz {I H I' H' : Hp} {M M' : Mem} {c : FCell} (g : Go I H M I' H' (c :: M')) :
    ∃ o, H' c.a = some o ∧ c.C.r I' o c.x ∧ I' c.a = none ∧ Same I' (upd I' c.a o) ∧ Go I H M (upd I' c.a o) H' M' := by
  obtain ⟨h1, w, h2, h3⟩ := g.own.at_ _ List.mem_cons_self
  have ss : Same I' (upd I' c.a w) := fun b u h => by rw [upd_ne (ne_of_none h h1)]; exact h
  have nd := List.nodup_cons.mp g.own.nd
  refine ⟨w, h2, h3, h1, ss, ⟨g.ii.trans ss, fun b u h => ?_, ⟨nd.2, fun d hd => ?_, g.own.wf⟩, g.fr, fun b u h => ?_, fun b hb => g.dm b (List.mem_cons_of_mem _ hb), g.al⟩⟩
  · by_cases e : b = c.a
    · subst e; rw [upd_same] at h; cases h; exact h2
    · rw [upd_ne e] at h; exact g.ih b u h
  · obtain ⟨q1, u, q2, q3⟩ := g.own.at_ d (List.mem_cons_of_mem _ hd)
    have ne : d.a ≠ c.a := fun e => nd.1 (by
      have q : d.a ∈ dom M' := List.mem_map_of_mem hd
      rw [e] at q; exact q)
    exact ⟨by rw [upd_ne ne]; exact q1, u, q2, d.C.mono ss q3⟩
  · by_cases e : b = c.a
    · subst e
      rcases g.dm c.a List.mem_cons_self with h4 | h4
      · exact .inr (.inr h4)
      · exact .inr (.inl h4)
    · rw [upd_ne e] at h; exact g.nw b u h
theorem Go.perm {I H I' H' : Hp} {M M' M2 : Mem} (g : Go I H M I' H' M') (p : List.Perm M' M2) : Go I H M I' H' M2 :=
  ⟨g.ii, g.ih, ⟨(List.Perm.nodup_iff (p.map _)).mp g.own.nd, fun c hc => g.own.at_ c (p.mem_iff.mpr hc), g.own.wf⟩, g.fr, g.nw, fun b hb => g.dm b ((p.map _).mem_iff.mpr hb), g.al⟩
structure Frz {α : Type} (C : FC α) (T : FTy α) : Prop where
  to : ∀ {I : Hp} {p : Addr} {o : HO} {x : α}, I p = none → C.r I o x → T.r (upd I p o) (.ref p) x
theorem same_upd {I : Hp} {p : Addr} {o : HO} (h : I p = none) : Same I (upd I p o) := fun b u e => by rw [upd_ne (ne_of_none e h)]; exact e
theorem frz_ls {α : Type} {T : FTy α} : Frz (cLst T) (tLs T) := ⟨fun {I p o x} h ⟨us, e, r⟩ => ⟨p, us, rfl, by rw [upd_same, e], paired_mono (same_upd h) r⟩⟩
def cHet (ts : List FV) : FC Unit := ⟨fun I o _ => ∃ us, o = .lst us ∧ FRs I us ts, fun e ⟨us, h1, h2⟩ => ⟨us, h1, FRs.mono e h2⟩⟩
theorem frs_get {I : Hp} : ∀ {us : List V} {ts : List FV} {i : Nat} {t : FV}, FRs I us ts → ts[i]? = some t → ∃ u, us[i]? = some u ∧ FR I u t
  | [], [], i, t, _, e => by simp at e
  | u :: us, t0 :: ts, 0, t, h, e => by simp at e; subst e; exact ⟨u, rfl, h.1⟩
  | u :: us, t0 :: ts, i + 1, t, h, e => by
    obtain ⟨u', h1, h2⟩ := frs_get (i := i) h.2 (by simpa using e)
    exact ⟨u', by simpa using h1, h2⟩
  | [], _ :: _, _, _, h, _ => h.elim
  | _ :: _, [], _, _, h, _ => h.elim
theorem frs_set {I : Hp} {v : V} {t : FV} (r : FR I v t) : ∀ {us : List V} {ts : List FV} (i : Nat), FRs I us ts → FRs I (us.set i v) (ts.set i t)
  | [], [], _, _ => trivial
  | u :: us, t0 :: ts, 0, h => ⟨r, h.2⟩
  | u :: us, t0 :: ts, i + 1, h => ⟨h.1, frs_set r i h.2⟩
  | [], _ :: _, _, h => h.elim
  | _ :: _, [], _, h => h.elim
theorem frs_append {I : Hp} : ∀ {us ws : List V} {ts qs : List FV}, FRs I us ts → FRs I ws qs → FRs I (us ++ ws) (ts ++ qs)
  | [], _, [], _, _, h => h
  | _ :: _, _, _ :: _, _, h, h' => ⟨h.1, frs_append h.2 h'⟩
  | [], _, _ :: _, _, h, _ => h.elim
  | _ :: _, _, [], _, h, _ => h.elim

def CV {α : Type} (X : Cx) (callee : Value) (ts : List FV) (M : Mem) (T : FTy α) (x : α) (M' : Mem) : Prop :=
  ∀ (I H : Hp) (vs : List V) (Q : VK), Same I H → Own M I H → FRs I vs ts → (∀ u I' H', Go I H M I' H' M' → T.r I' u x → Q u H') →
    ∀ (pins : List (Addr × Obj)) (s : Shared) (σ : L2.St) (us : List Value), Inv X pins σ H s → Vals vs us → wpAny (model X.prog X.w) X.A (call callee us) (EP X pins σ Q) X.xe s
def CVN {α : Type} (X : Cx) (callee : Value) (ts : List FV) (M : Mem) (C : FC α) (x : α) (M' : Mem) : Prop :=
  ∀ (I H : Hp) (vs : List V) (Q : VK), Same I H → Own M I H → FRs I vs ts → (∀ p I' H', H p = none → Go I H M I' H' (⟨p, α, C, x⟩ :: M') → Q (.ref p) H') →
    ∀ (pins : List (Addr × Obj)) (s : Shared) (σ : L2.St) (us : List Value), Inv X pins σ H s → Vals vs us → wpAny (model X.prog X.w) X.A (call callee us) (EP X pins σ Q) X.xe s
def CVX (X : Cx) (W : WX) (callee : Value) (ts : List FV) (M : Mem) (x : Exn) (M' : Mem) : Prop :=
  ∀ (I H : Hp) (vs : List V) (Q : VK), Same I H → Own M I H → FRs I vs ts →
    ∀ (pins : List (Addr × Obj)) (s : Shared) (σ : L2.St) (us : List Value), (∀ cls d I' H', Go I H M I' H' M' → ExnR I' H' cls d x → W cls d σ H') → Inv X pins σ H s → Vals vs us → wpAny (model X.prog X.w) X.A (call callee us) (EP X pins σ Q) X.xe s
def AccF (Q : VK) (E : XK) (I H : Hp) (M : Mem) : Out → Prop
  | .ret t M' => ∀ v I' H', Go I H M I' H' M' → FR I' v t → Q v H'
  | .exc x _ M' => ∀ cls d I' H', Go I H M I' H' M' → ExnR I' H' cls d x → E cls d H'
  | _ => True
def spF {ι : Type} (pre : ι → Prop) (args : ι → List FV) (mem : ι → Mem) (post : ι → Out → Prop) : Sp := fun vs H Q E =>
  ∃ (i : ι) (I : Hp), pre i ∧ Same I H ∧ Own (mem i) I H ∧ FRs I vs (args i) ∧ ∀ o, post i o → AccF Q E I H (mem i) o
def startG (N : List Str) (ts : List FV) : Gm := ts.map some ++ List.replicate (N.length - ts.length) none
theorem envR_append {I : Hp} : ∀ {σ σ' : L2.St} {Γ Γ' : Gm}, EnvR I σ Γ → EnvR I σ' Γ' → EnvR I (σ ++ σ') (Γ ++ Γ')
  | _, _, _, _, .nil, h => h
  | _, _, _, _, .cons a b, h => .cons a (envR_append b h)
theorem envR_none {I : Hp} : ∀ n : Nat, EnvR I (List.replicate n none) (List.replicate n none)
  | 0 => .nil
  | n + 1 => .cons (fun t e => by cases e) (envR_none n)
theorem envR_args {I : Hp} : ∀ {vs : List V} {ts : List FV}, FRs I vs ts → EnvR I (vs.map some) (ts.map some)
  | [], [], _ => .nil
  | v :: vs, t :: ts, h => .cons (fun t' e => by cases e; exact ⟨v, rfl, h.1⟩) (envR_args h.2)
  | [], _ :: _, h => h.elim
  | _ :: _, [], h => h.elim
theorem envR_start {I : Hp} {N : List Str} {vs : List V} {ts : List FV} (h : FRs I vs ts) : EnvR I (L2.start N vs) (startG N ts) := by
  unfold L2.start startG
  rw [h.length]
  exact envR_append (envR_args h) (envR_none _)
def retN (post : Out → Prop) : Out → Prop
  | .next _ M => post (.ret ⟨Unit, tNon, ()⟩ M)
  | .brk _ _ => False
  | .cont _ _ => False
  | .exc x _ M => post (.exc x [] M)
  | .ret t M => post (.ret t M)
theorem passN {X : Cx} : Passes (L2N.CX X.prog X.w) X E0 := fun _ _ _ _ _ _ _ h => by
  obtain ⟨_, _, _, _, _, _, _, _, _, _, _, _, z⟩ := h
  exact z.elim
section
variable {P : Program} {w : World} {K : PySem.W.Frag} {mg : Str → Option Value} {base : Heap} {x qual : Str} {params : Arguments} {body : List Stmt} {scope : Scope} {dvs : List V} {kws : List (Str × V)} {f : Addr} {fd : FuncData}
  {N ps : List Str} {k : Nat} {ι : Type} {pre : ι → Prop} {args : ι → List FV} {mem : ι → Mem} {post : ι → Out → Prop}
theorem fn_sv (F : FunD K x qual params body scope dvs kws f fd) (S : FnScope N ps scope) (len : ∀ i, (args i).length = ps.length)
    (h : ∀ i, pre i → ∀ (cdv : Value) (A : Around) (outer : List Env) (s : Shared) (H : Hp) (E : XK), Room k (A.deeper (envOfC qual scope s.heap.objs.size f cdv)) →
      SV (cxOf (L2N.CX P w) P w K mg base N qual scope f cdv A outer s H E) (fun cls d _ H' => E cls d H') body (startG N (args i)) (mem i) (retN (post i))) :
    FnOk P w K mg base (L2N.CX P w) (k + 1) f fd ps (spF pre args mem post) := by
  refine F.ok S (fun vs H Q E hs => ?_) fun cdv A outer s H vs Q E hr hs => ?_
  · obtain ⟨i, I, _, _, _, r, _⟩ := hs
    rw [r.length, len i]
  · obtain ⟨i, I, hp, ss, ow, r, k⟩ := hs
    refine ⟨_, pss_rd, h i hp cdv A outer s H E hr (L2.start N vs) I H _ (envR_start r) ss ow fun o ho => ?_⟩
    cases o with
    | next Γ M => exact fun σ' I' H' g e => (k _ (show post i (.ret ⟨Unit, tNon, ()⟩ M) from ho)) .non I' H' g rfl
    | ret t M => exact (k (.ret t M) ho)
    | brk Γ M => exact (show False from ho).elim
    | cont Γ M => exact (show False from ho).elim
    | exc x Γ M => exact fun cls d σ' I' H' g _ e => (k (.exc x [] M) ho) cls d I' H' g e
end
section
variable {X : Cx} {Γ : Gm} {M M' M1 M2 M3 A B : Mem} {α β γ : Type} {T : FTy α} {C : FC α} {e o : Expr} {es : List Expr} {pos p : Pos} {f : Addr} {fd : FuncData} {ps : List Str} {k : Nat} {ι : Type} {pre : ι → Prop} {args : ι → List FV} {mem : ι → Mem} {post : ι → Out → Prop}
  {dvs : List V} {ds : List Value} {dts ts : List FV} {x : α} {W : WX}
theorem cv_fn (F : FnOk X.prog X.w X.K X.mg X.base (L2N.CX X.prog X.w) k f fd ps (spF pre args mem post)) (hr : Room k X.A) (hb : Binds X.K fd ps ds) (hd : Vals dvs ds) (hdt : ∀ I, FRs I dvs dts) (i : ι) (hp : pre i) (ha : args i = ts ++ dts) {Mo : Mem}
    (hq : ∀ o, post i o → o = .ret ⟨α, T, x⟩ Mo) (A B : Mem) : CV X (.ref f) ts (A ++ mem i ++ B) T x (A ++ Mo ++ B) := fun I H vs Q s o r k pins sh σ us iv rv =>
  run_fn (E := E0) F hr hb hd passN iv rv ⟨i, I, hp, s, o.part, by rw [ha]; exact frs_append r (hdt I), fun out ho => by
    rw [hq out ho]
    exact fun v I' H' g rr => k v I' H' (g.frame o) rr⟩
theorem cvn_fn (F : FnOk X.prog X.w X.K X.mg X.base (L2N.CX X.prog X.w) k f fd ps (spF pre args mem post)) (hr : Room k X.A) (hb : Binds X.K fd ps ds) (hd : Vals dvs ds) (hdt : ∀ I, FRs I dvs dts) (i : ι) (hp : pre i) (ha : args i = ts ++ dts) {Mo : Mem}
    (hq : ∀ o, post i o → ∃ p, o = .ret ⟨Addr, tAdr, p⟩ (⟨p, α, C, x⟩ :: Mo)) (hm : ∀ b ∈ dom (mem i), b ∈ dom Mo) (A B : Mem) : CVN X (.ref f) ts (A ++ mem i ++ B) C x (A ++ Mo ++ B) := fun I H vs Q s o r k pins sh σ us iv rv =>
  run_fn (E := E0) F hr hb hd passN iv rv ⟨i, I, hp, s, o.part, by rw [ha]; exact frs_append r (hdt I), fun out ho => by
    obtain ⟨p, rfl⟩ := hq out ho
    rintro v I' H' g rr
    obtain rfl : v = .ref p := rr
    have hn : H p = none := by
      rcases g.dm p List.mem_cons_self with h | h
      · exact absurd (hm p h) (List.nodup_cons.mp g.own.nd).1
      · exact h
    refine k p I' H' hn ((g.frame o).perm ?_)
    rw [List.append_assoc, List.append_assoc]
    exact List.perm_middle⟩
theorem cvx_fn (F : FnOk X.prog X.w X.K X.mg X.base (L2N.CX X.prog X.w) k f fd ps (spF pre args mem post)) (tk : L2N.Takes X W) (hr : Room k X.A) (hb : Binds X.K fd ps []) (i : ι) (hp : pre i) (ha : args i = ts) {Mo : Mem} {ex : Exn}
    (hq : ∀ o, post i o → o = .exc ex [] Mo) (A B : Mem) : CVX X W (.ref f) ts (A ++ mem i ++ B) ex (A ++ Mo ++ B) := fun I H vs Q s o r pins sh σ us kx iv rv =>
  run_fnS (E := fun σ => WE W σ) F hr hb (L2N.passAt tk σ) iv rv ⟨i, I, hp, s, o.part, by rw [ha]; exact r, fun out ho => by
    rw [hq out ho]
    exact fun cls d I' H' g rr => kx cls d I' H' (g.frame o) rr⟩
theorem cv_R {callee : Value} {r : List V → Hp → VK → Prop} (hc : CallR X callee r) (h : ∀ (I H : Hp) (vs : List V) (Q : VK), Same I H → Own M I H → FRs I vs ts → (∀ u I' H', Go I H M I' H' M' → T.r I' u x → Q u H') → r vs H Q) : CV X callee ts M T x M' := fun I H vs Q s o rr k pins sh σ us iv rv =>
  hc pins sh σ H vs us Q iv rv (h I H vs Q s o rr k)
theorem cvn_R {callee : Value} {r : List V → Hp → VK → Prop} (hc : CallR X callee r) (h : ∀ (I H : Hp) (vs : List V) (Q : VK), Same I H → Own M I H → FRs I vs ts → (∀ p I' H', H p = none → Go I H M I' H' (⟨p, α, C, x⟩ :: M') → Q (.ref p) H') → r vs H Q) : CVN X callee ts M C x M' := fun I H vs Q s o rr k pins sh σ us iv rv =>
  hc pins sh σ H vs us Q iv rv (h I H vs Q s o rr k)
theorem EVN.frz {T : FTy α} (h : EVN X e Γ M C x M') (z : Frz C T) : EV X e Γ M T x M' := fun σ I H Q g s o k => h σ I H Q g s o fun p I' H' _ go => by
  obtain ⟨w, _, h3, h1, _, go'⟩ := go.frz
  exact k _ _ H' go' (z.to h1 h3)
theorem EVL.n {xs : List α} (h : EVL X e Γ M T xs M') : EVN X e Γ M (cLst T) xs M' := h
theorem EVN.l {xs : List α} (h : EVN X e Γ M (cLst T) xs M') : EVL X e Γ M T xs M' := h

theorem ev_call {n : Str} (hm : X.mg n = some (.ref f)) (hk : PySem.W.keepIn X.K (.ref f) = true) (ha : EA X (e :: es) Γ M ts M1) (hc : CV X (.ref f) ts M1 T x M2) (hg : Gl X n := by rfl)
    (hdb : (n == ("__debug__" : Str)) = false := by decide) (he : starEach (e :: es) X.env = (false, eval e X.env) :: starEach es X.env := by rfl) (hpl : (backTo pos (starEach es X.env)).any (·.1) = false := by rfl) :
    EV X (.Call (.Name n p) (e :: es) [] pos) Γ M T x M2 := EV.mk fun σ I H Q g s o k pins sh iv =>
  wpAny_Call_Name_kw (ld_glob iv hg hm (PySem.W.callWith_K (h₀ := X.base) iv.ok.mod.kin hk (thn (EA.go ha σ I H (fun vs H1 => ∀ (pins : List (Addr × Obj)) (s : Shared) (σ : L2.St) (us : List Value), Inv X pins σ H1 s → Vals vs us → wpAny (model X.prog X.w) X.A (call (.ref f) us) (EP X pins σ Q) X.xe s) g s o
    (fun vs I1 H1 g1 r1 => hc I1 H1 vs Q g1.ih g1.own r1 fun u I2 H2 g2 r2 => k u I2 H2 (g1.trans o g2) r2) pos pins sh iv) fun us s1 ⟨vs, H1, I1, r, q⟩ => ⟨I1.kIn, q pins s1 σ us I1 r⟩) he hpl) hdb)
theorem ev_call0 {n : Str} (hm : X.mg n = some (.ref f)) (hk : PySem.W.keepIn X.K (.ref f) = true) (hc : CV X (.ref f) [] M T x M2) (hg : Gl X n := by rfl) (hdb : (n == ("__debug__" : Str)) = false := by decide) :
    EV X (.Call (.Name n p) [] [] pos) Γ M T x M2 := EV.mk fun σ I H Q g s o k pins sh iv =>
  wpAny_Call_Name_kw (ld_glob iv hg hm (PySem.W.callWith_K0 iv.kIn hk (hc I H [] Q s o trivial k pins sh σ [] iv .nil)) hdb)
theorem evn_call {n : Str} (hm : X.mg n = some (.ref f)) (hk : PySem.W.keepIn X.K (.ref f) = true) (ha : EA X (e :: es) Γ M ts M1) (hc : CVN X (.ref f) ts M1 C x M2) (hg : Gl X n := by rfl)
    (hdb : (n == ("__debug__" : Str)) = false := by decide) (he : starEach (e :: es) X.env = (false, eval e X.env) :: starEach es X.env := by rfl) (hpl : (backTo pos (starEach es X.env)).any (·.1) = false := by rfl) :
    EVN X (.Call (.Name n p) (e :: es) [] pos) Γ M C x M2 := EVN.mk fun σ I H Q g s o k pins sh iv =>
  wpAny_Call_Name_kw (ld_glob iv hg hm (PySem.W.callWith_K (h₀ := X.base) iv.ok.mod.kin hk (thn (EA.go ha σ I H (fun vs H1 => ∀ (pins : List (Addr × Obj)) (s : Shared) (σ : L2.St) (us : List Value), Inv X pins σ H1 s → Vals vs us → wpAny (model X.prog X.w) X.A (call (.ref f) us) (EP X pins σ Q) X.xe s) g s o
    (fun vs I1 H1 g1 r1 => hc I1 H1 vs Q g1.ih g1.own r1 fun u I2 H2 hn g2 => k u I2 H2 (g1.al u hn) (g1.trans o g2)) pos pins sh iv) fun us s1 ⟨vs, H1, I1, r, q⟩ => ⟨I1.kIn, q pins s1 σ us I1 r⟩) he hpl) hdb)
end
end FL
set_option maxHeartbeats 4000000
namespace FL
open PySem L2 PyProof.Rows

section
variable {X : Cx} {W : WX} {Γ : Gm} {M M' M1 M2 M3 A B : Mem} {α β γ : Type} {T : FTy α} {T' : FTy β} {C : FC α} {a b e o : Expr} {es : List Expr} {pos p : Pos} {ts : List FV} {x : α} {y : β} {Φ : Out → Prop}
theorem one_le {n : Nat} (h : n ≤ 1000) : n ≤ sizeLine := Nat.le_trans h (by decide)
theorem evn_list (ha : EA X es Γ M ts M1) (hz : es.length ≤ 1000 := by decide) (hl : ts.length = es.length := by rfl) : EVN X (.List es pos) Γ M (cHet ts) () M1 := fun σ I H Q g s o k =>
  rd_of (pe_lst pa_rd) (ha σ I H _ g s o fun vs I1 H1 g1 r1 => by
    have hw : vs.length ≤ sizeLine := by rw [r1.length, hl]; exact one_le hz
    exact ⟨hw, fun p hp => k p I1 _ (g1.al p hp) (g1.trans o (Go.newO g1.ih g1.own hp ⟨vs, rfl, r1⟩ hw))⟩)
def tHT (ts : List FV) : FTy Unit := ⟨fun I v _ => ∃ p us, v = .ref p ∧ I p = some (.tup us) ∧ FRs I us ts, fun e ⟨p, us, h1, h2, h3⟩ => ⟨p, us, h1, e _ _ h2, FRs.mono e h3⟩⟩
def tHL (ts : List FV) : FTy Unit := ⟨fun I v _ => ∃ p us, v = .ref p ∧ I p = some (.lst us) ∧ FRs I us ts, fun e ⟨p, us, h1, h2, h3⟩ => ⟨p, us, h1, e _ _ h2, FRs.mono e h3⟩⟩
theorem frz_het {ts : List FV} : Frz (cHet ts) (tHL ts) := ⟨fun {I p o x} h ⟨us, e, r⟩ => ⟨p, us, rfl, by rw [upd_same, e], FRs.mono (same_upd h) r⟩⟩
theorem ev_tup {k : Nat} (ha : EA X es Γ M ts M1) (hz : es.length ≤ 1000 := by decide) (hl : ts.length = es.length := by rfl) : EV X (.Tuple es k pos) Γ M (tHT ts) () M1 := fun σ I H Q g s o q =>
  rd_of (pe_tup pa_rd) (ha σ I H _ g s o fun vs I1 H1 g1 r1 => by
    have hw : vs.length ≤ sizeLine := by rw [r1.length, hl]; exact one_le hz
    have gn := fun p hp => Go.new (u := .tup vs) (p := p) g1.ih g1.own hp hw
    exact ⟨hw, fun p hp => q _ _ _ (g1.trans o (gn p hp)) ⟨p, vs, rfl, upd_same, FRs.mono (gn p hp).ii r1⟩⟩)
theorem EV.as (h : EV X e Γ M T x M1) (i : ∀ I v, T.r I v x → T'.r I v y) : EV X e Γ M T' y M1 := fun σ I H Q g s o k => h σ I H Q g s o fun v I1 H1 g1 r1 => k v I1 H1 g1 (i I1 v r1)
theorem EVN.as {C' : FC β} (h : EVN X e Γ M C x M1) (i : ∀ I u, C.r I u x → C'.r I u y) : EVN X e Γ M C' y M1 := fun σ I H Q g s o k => h σ I H Q g s o fun p I1 H1 hp g1 => k p I1 H1 hp ⟨g1.ii, g1.ih, ⟨g1.own.nd, fun c hc => by
  rcases List.mem_cons.mp hc with rfl | hc
  · obtain ⟨h1, u, h2, h3⟩ := g1.own.at_ _ List.mem_cons_self
    exact ⟨h1, u, h2, i _ _ h3⟩
  · exact g1.own.at_ c (List.mem_cons_of_mem _ hc), g1.own.wf⟩, g1.fr, g1.nw, g1.dm, g1.al⟩
theorem EV.eq {x' : α} (h : EV X e Γ M T x M1) (q : x = x') : EV X e Γ M T x' M1 := q ▸ h
theorem ET.eq {k k' : Bool} (h : ET X e Γ M k M1) (q : k = k') : ET X e Γ M k' M1 := q ▸ h
def allOf (T : FTy α) (xs : List α) : List FV := xs.map fun x => ⟨α, T, x⟩
theorem frs_all {I : Hp} : ∀ {us : List V} {xs : List α}, FRs I us (allOf T xs) → Paired (T.r I) us xs
  | [], [], _ => .nil
  | u :: us, x :: xs, h => .cons h.1 (frs_all h.2)
  | [], _ :: _, h => (show False from h).elim
  | _ :: _, [], h => (show False from h).elim
theorem het_lst {I : Hp} {u : HO} {xs : List α} (h : (cHet (allOf T xs)).r I u ()) : (cLst T).r I u xs := let ⟨us, e, r⟩ := h; ⟨us, e, frs_all r⟩
theorem hl_ls {I : Hp} {v : V} {xs : List α} (h : (tHL (allOf T xs)).r I v ()) : (tLs T).r I v xs := let ⟨p, us, e, h1, r⟩ := h; ⟨p, us, e, h1, frs_all r⟩
theorem ht_tp {I : Hp} {v : V} {xs : List α} (h : (tHT (allOf T xs)).r I v ()) : (tTp T).r I v xs := let ⟨p, us, e, h1, r⟩ := h; ⟨p, us, e, h1, frs_all r⟩
def tT2 (T : FTy α) (T' : FTy β) : FTy (α × β) := ⟨fun I v x => (tHT [⟨α, T, x.1⟩, ⟨β, T', x.2⟩]).r I v (), fun e h => (tHT _).mono e h⟩
def tT3 {δ : Type} (T : FTy α) (T' : FTy β) (T'' : FTy δ) : FTy (α × β × δ) := ⟨fun I v x => (tHT [⟨α, T, x.1⟩, ⟨β, T', x.2.1⟩, ⟨δ, T'', x.2.2⟩]).r I v (), fun e h => (tHT _).mono e h⟩
def tL2 (T : FTy α) (T' : FTy β) : FTy (α × β) := ⟨fun I v x => (tHL [⟨α, T, x.1⟩, ⟨β, T', x.2⟩]).r I v (), fun e h => (tHL _).mono e h⟩
def tL3 {δ : Type} (T : FTy α) (T' : FTy β) (T'' : FTy δ) : FTy (α × β × δ) := ⟨fun I v x => (tHL [⟨α, T, x.1⟩, ⟨β, T', x.2.1⟩, ⟨δ, T'', x.2.2⟩]).r I v (), fun e h => (tHL _).mono e h⟩
def tL4 {δ ε : Type} (T : FTy α) (T' : FTy β) (T'' : FTy δ) (T3 : FTy ε) : FTy (α × β × δ × ε) := ⟨fun I v x => (tHL [⟨α, T, x.1⟩, ⟨β, T', x.2.1⟩, ⟨δ, T'', x.2.2.1⟩, ⟨ε, T3, x.2.2.2⟩]).r I v (), fun e h => (tHL _).mono e h⟩

theorem plainIx {f : Expr} (h : PlainIx f) : PlainIx f := h
theorem paired_at {R : V → α → Prop} {us : List V} {xs : List α} {i : Int} (r : Paired R us xs) (h : atI xs i = some x) : ∃ u, atI us i = some u ∧ R u x := by
  have hl := Paired.length r
  unfold atI at h ⊢
  rw [hl]
  cases e : ixN xs.length i with
  | none => rw [e] at h; cases h
  | some j =>
    rw [e] at h
    have h : xs[j]? = some x := h
    obtain ⟨hj, ex⟩ := List.getElem?_eq_some_iff.mp h
    have hu : us[j]? = some (us[j]'(by omega)) := List.getElem?_eq_getElem (by omega)
    obtain ⟨x', hx', rx⟩ := paired_get r hu
    rw [h] at hx'; cases hx'
    exact ⟨_, hu, rx⟩
theorem frs_at {I : Hp} {us : List V} {ts : List FV} {i : Int} {j : Nat} {t : FV} (r : FRs I us ts) (hj : ixN ts.length i = some j) (h : ts[j]? = some t) : ∃ u, atI us i = some u ∧ FR I u t := by
  have hl := r.length
  unfold atI
  rw [hl, hj]
  exact frs_get r h
theorem ev_ixLs {i : Int} {xs : List α} (ha : EV X a Γ M (tLs T) xs M1) (hb : EV X b Γ M1 tInt i M2) (h : atI xs i = some x) (hp : PlainIx b := by intro _ _; rfl) : EV X (.Subscript a b pos) Γ M T x M2 :=
  ev_two ha hb (pe_ix ix_list pe_rd pe_rd hp) fun I H v w Q s o r1 r2 k => by
    obtain ⟨p, us, rfl, h1, r⟩ := r1
    cases r2
    obtain ⟨u, hu, ru⟩ := paired_at r h
    exact ⟨p, us, i, u, rfl, rfl, SqL.of (s _ _ h1), hu, k u I H (Go.refl s o) ru⟩
theorem ev_ixTp {i : Int} {xs : List α} (ha : EV X a Γ M (tTp T) xs M1) (hb : EV X b Γ M1 tInt i M2) (h : atI xs i = some x) (hp : PlainIx b := by intro _ _; rfl) : EV X (.Subscript a b pos) Γ M T x M2 :=
  ev_two ha hb (pe_ix ix_tup pe_rd pe_rd hp) fun I H v w Q s o r1 r2 k => by
    obtain ⟨p, us, rfl, h1, r⟩ := r1
    cases r2
    obtain ⟨u, hu, ru⟩ := paired_at r h
    exact ⟨p, us, i, u, rfl, rfl, SqT.of (s _ _ h1), hu, k u I H (Go.refl s o) ru⟩
theorem ev_ixHL {i : Int} (ha : EV X a Γ M (tHL ts) () M1) (hb : EV X b Γ M1 tInt i M2) {j : Nat} (hj : ixN ts.length i = some j) (h : ts[j]? = some ⟨α, T, x⟩) (hp : PlainIx b := by intro _ _; rfl) : EV X (.Subscript a b pos) Γ M T x M2 :=
  ev_two ha hb (pe_ix ix_list pe_rd pe_rd hp) fun I H v w Q s o r1 r2 k => by
    obtain ⟨p, us, rfl, h1, r⟩ := r1
    cases r2
    obtain ⟨u, hu, ru⟩ := frs_at r hj h
    exact ⟨p, us, i, u, rfl, rfl, SqL.of (s _ _ h1), hu, k u I H (Go.refl s o) ru⟩
theorem ev_ixHT {i : Int} (ha : EV X a Γ M (tHT ts) () M1) (hb : EV X b Γ M1 tInt i M2) {j : Nat} (hj : ixN ts.length i = some j) (h : ts[j]? = some ⟨α, T, x⟩) (hp : PlainIx b := by intro _ _; rfl) : EV X (.Subscript a b pos) Γ M T x M2 :=
  ev_two ha hb (pe_ix ix_tup pe_rd pe_rd hp) fun I H v w Q s o r1 r2 k => by
    obtain ⟨p, us, rfl, h1, r⟩ := r1
    cases r2
    obtain ⟨u, hu, ru⟩ := frs_at r hj h
    exact ⟨p, us, i, u, rfl, rfl, SqT.of (s _ _ h1), hu, k u I H (Go.refl s o) ru⟩
theorem ev_ixO {i : Int} {q : Addr} {xs : List α} (ha : EV X a Γ M tAdr q M1) (hb : EV X b Γ M1 tInt i M2) (hm : (⟨q, _, cLst T, xs⟩ : FCell) ∈ M2) (h : atI xs i = some x) (hp : PlainIx b := by intro _ _; rfl) : EV X (.Subscript a b pos) Γ M T x M2 :=
  ev_two ha hb (pe_ix ix_list pe_rd pe_rd hp) fun I H v w Q s o r1 r2 k => by
    cases r1; cases r2
    obtain ⟨_, w, h2, us, rfl, r⟩ := o.at_ _ hm
    obtain ⟨u, hu, ru⟩ := paired_at r h
    exact ⟨q, us, i, u, rfl, rfl, SqL.of h2, hu, k u I H (Go.refl s o) ru⟩
theorem ev_ixH {i : Int} {q : Addr} (ha : EV X a Γ M tAdr q M1) (hb : EV X b Γ M1 tInt i M2) (hm : (⟨q, _, cHet ts, ()⟩ : FCell) ∈ M2) {j : Nat} (hj : ixN ts.length i = some j) (h : ts[j]? = some ⟨α, T, x⟩) (hp : PlainIx b := by intro _ _; rfl) : EV X (.Subscript a b pos) Γ M T x M2 :=
  ev_two ha hb (pe_ix ix_list pe_rd pe_rd hp) fun I H v w Q s o r1 r2 k => by
    cases r1; cases r2
    obtain ⟨_, w, h2, us, rfl, r⟩ := o.at_ _ hm
    obtain ⟨u, hu, ru⟩ := frs_at r hj h
    exact ⟨q, us, i, u, rfl, rfl, SqL.of h2, hu, k u I H (Go.refl s o) ru⟩
theorem s_setIx {c c' : FCell} {i : Int} (hv : EV X e Γ M T x M1) (ha : EV X a Γ M1 tAdr c.a M2) (hb : EV X b Γ M2 tInt i (A ++ [c] ++ B)) (hca : c'.a = c.a)
    (h : ∀ I u v, c.C.r I u c.x → T.r I v x → ∃ us j, u = .lst us ∧ ixN us.length i = some j ∧ c'.C.r I (.lst (us.set j v)) c'.x) (k : Φ (.next Γ (A ++ [c'] ++ B)))
    (hs : swapsWithSole [.Subscript a b p] e pos.line X.env = pure false := by rfl) (hw : swappedStores [.Subscript a b p] e X.env = pure none := by rfl) (h1 : (assignEach [.Subscript a b p] X.env).map (·.2) = [assign (.Subscript a b p) X.env] := by rfl)
    (hg : ∀ {to ti : TE}, PE X a to → PE X b ti → PG X (.Subscript a b p) (gSub to ti rSetL) := by exact fun h1 h2 => pg_sub h1 h2 set_list) : S1 X W (.Assign [.Subscript a b p] e pos) Γ M Φ := fun σ I H D g s o q =>
  rdS_of (ps_asg pe_rd (hg pe_rd pe_rd) hs hw h1) (hv σ I H _ g s o fun v I1 H1 g1 r1 => ha σ I1 H1 _ (g.mono g1.ii) g1.ih g1.own fun w I2 H2 g2 r2 => hb σ I2 H2 _ (g.mono (g1.ii.trans g2.ii)) g2.ih g2.own fun w2 I3 H3 g3 r3 => by
    cases r2; cases r3
    have g13 := (g1.trans o g2).trans o g3
    obtain ⟨_, u, h2, h3⟩ := g13.own.at_ c (by simp)
    obtain ⟨us, j, rfl, hj, hc⟩ := h I3 u v h3 (T.mono (g2.ii.trans g3.ii) r1)
    have hz : WfO (.lst (us.set j v)) := by
      have := g13.own.wf _ _ h2
      show (us.set j v).length ≤ sizeLine
      rw [List.length_set]; exact this
    have gp := (Go.put1 (c := c) (c' := c') (u := .lst (us.set j v)) g13.ih g13.own.part hca hc hz).frame g13.own
    exact ⟨c.a, us, i, j, rfl, rfl, h2, hj, (q _ k) σ I3 _ (g13.trans o gp) (g.mono g13.ii)⟩)
theorem s_setH {i : Int} {j : Nat} {q : Addr} (hv : EV X e Γ M T x M1) (ha : EV X a Γ M1 tAdr q M2) (hb : EV X b Γ M2 tInt i (A ++ [⟨q, _, cHet ts, ()⟩] ++ B)) (hj : ixN ts.length i = some j) (k : Φ (.next Γ (A ++ [⟨q, _, cHet (ts.set j ⟨α, T, x⟩), ()⟩] ++ B)))
    (hs : swapsWithSole [.Subscript a b p] e pos.line X.env = pure false := by rfl) (hw : swappedStores [.Subscript a b p] e X.env = pure none := by rfl) (h1 : (assignEach [.Subscript a b p] X.env).map (·.2) = [assign (.Subscript a b p) X.env] := by rfl)
    (hg : ∀ {to ti : TE}, PE X a to → PE X b ti → PG X (.Subscript a b p) (gSub to ti rSetL) := by exact fun h1 h2 => pg_sub h1 h2 set_list) : S1 X W (.Assign [.Subscript a b p] e pos) Γ M Φ :=
  s_setIx (c := ⟨q, _, cHet ts, ()⟩) (c' := ⟨q, _, cHet (ts.set j ⟨α, T, x⟩), ()⟩) hv ha hb rfl (fun I u v ⟨us, e, r⟩ rv => ⟨us, j, e, by rw [r.length]; exact hj, _, rfl, frs_set (t := ⟨α, T, x⟩) rv j r⟩) k hs hw h1 hg
theorem paired_set {R : V → α → Prop} {v : V} (h : R v x) : ∀ {us : List V} {xs : List α} (j : Nat), Paired R us xs → Paired R (us.set j v) (xs.set j x)
  | _, _, _, .nil => .nil
  | _, _, 0, .cons _ t => .cons h t
  | _, _, j + 1, .cons q t => .cons q (paired_set h j t)
theorem paired_append {R : V → α → Prop} : ∀ {us ws : List V} {xs ys : List α}, Paired R us xs → Paired R ws ys → Paired R (us ++ ws) (xs ++ ys)
  | _, _, _, _, .nil, s => s
  | _, _, _, _, .cons r t, s => .cons r (paired_append t s)
theorem s_setO {i : Int} {j : Nat} {q : Addr} {xs : List α} (hv : EV X e Γ M T x M1) (ha : EV X a Γ M1 tAdr q M2) (hb : EV X b Γ M2 tInt i (A ++ [⟨q, _, cLst T, xs⟩] ++ B)) (hj : ixN xs.length i = some j) (k : Φ (.next Γ (A ++ [⟨q, _, cLst T, xs.set j x⟩] ++ B)))
    (hs : swapsWithSole [.Subscript a b p] e pos.line X.env = pure false := by rfl) (hw : swappedStores [.Subscript a b p] e X.env = pure none := by rfl) (h1 : (assignEach [.Subscript a b p] X.env).map (·.2) = [assign (.Subscript a b p) X.env] := by rfl)
    (hg : ∀ {to ti : TE}, PE X a to → PE X b ti → PG X (.Subscript a b p) (gSub to ti rSetL) := by exact fun h1 h2 => pg_sub h1 h2 set_list) : S1 X W (.Assign [.Subscript a b p] e pos) Γ M Φ :=
  s_setIx (c := ⟨q, _, cLst T, xs⟩) (c' := ⟨q, _, cLst T, xs.set j x⟩) hv ha hb rfl (fun I u v ⟨us, e, r⟩ rv => ⟨us, j, e, by rw [Paired.length r]; exact hj, _, rfl, paired_set rv j r⟩) k hs hw h1 hg
theorem s_append {q : Addr} {xs : List α} {ap p2 : Pos} (ha : EV X a Γ M tAdr q M1) (hv : EV X e Γ M1 T x (A ++ [⟨q, _, cLst T, xs⟩] ++ B)) (hz : xs.length < 16777216) (k : Φ (.next Γ (A ++ [⟨q, _, cLst T, xs ++ [x]⟩] ++ B)))
    (hp : ∀ {to : TE} {ta : TA}, PE X a to → PA X [e] ta → PE X (.Call (.Attribute a "append" ap) [e] [] p2) (tBM X.K "list" rAppend to ta) := by exact fun h1 h2 => pe_bm PySem.F.plainAttrs_list PySem.F.slot_list_append PySem.F.type_list_append mt_append h1 h2)
    (hse : starEach [e] X.env = (false, eval e X.env) :: starEach [] X.env := by rfl)
    (hs : swapsWith (.Call (.Attribute a "append" ap) [e] [] p2) none pos.line X.env = pure false := by rfl) (hm : (⟨q, _, cLst T, xs⟩ : FCell) ∈ M1 := by simp) : S1 X W (.Expr (.Call (.Attribute a "append" ap) [e] [] p2) pos) Γ M Φ := fun σ I H D g s o kk =>
  rdS_of (ps_expr (hp pe_rd (pa_cons pe_rd pa_nil hse)) hs) (ha σ I H _ g s o fun v I1 H1 g1 r1 => by
    cases r1
    obtain ⟨_, u1, h1, us1, rfl, rr1⟩ := g1.own.at_ _ hm
    refine ⟨.inl ⟨rfl, _, SqL.of h1⟩, hv σ I1 H1 _ (g.mono g1.ii) g1.ih g1.own fun w I2 H2 g2 r2 => ?_⟩
    have g12 := g1.trans o g2
    obtain ⟨_, u, h2, us, rfl, r⟩ := g12.own.at_ ⟨q, _, cLst T, xs⟩ (by simp)
    have hl := Paired.length r
    have hlt : us.length < sizeLine := by rw [hl]; exact hz
    have hzz : WfO (.lst (us ++ [w])) := by show (us ++ [w]).length ≤ sizeLine; rw [List.length_append]; exact hlt
    have gp := (Go.put1 (c := ⟨q, _, cLst T, xs⟩) (c' := ⟨q, _, cLst T, xs ++ [x]⟩) (u := .lst (us ++ [w])) g12.ih g12.own.part rfl ⟨_, rfl, paired_append r (.cons r2 .nil)⟩ hzz).frame g12.own
    exact ⟨q, us, w, rfl, rfl, h2, hlt, (kk _ k) σ I2 _ (g12.trans o gp) (g.mono g12.ii)⟩)

section
variable {elt iter : Expr} {ifs : List Expr} {scope : Scope} {own : List (Str × Nat)} {n : Str}
def LC (X : Cx) (scope : Scope) (Γ : Gm) (i : Nat) (ifs : List Expr) (elt : Expr) (T : FTy α) (T' : FTy β) : List α → Mem → List β → Mem → Prop
  | [], M, ys, M' => ys = [] ∧ M' = M
  | x :: xs, M, ys, M' => ∃ (k : Bool) (M1 : Mem), (match ifs with
      | [] => k = true ∧ M1 = M
      | [c] => ∀ (s : Shared) (H : Hp) (C : Addr) (cl : List (Str × Addr)) (fp : List Addr), ET (X.blk s H scope (compEnvC scope cl C X.env) fp) c (Γ.set i (some ⟨α, T, x⟩)) M k M1
      | _ => False) ∧
    ((k = false ∧ LC X scope Γ i ifs elt T T' xs M1 ys M') ∨ (k = true ∧ ∃ (y : β) (ys' : List β) (M2 : Mem), ys = y :: ys' ∧
      (∀ (s : Shared) (H : Hp) (C : Addr) (cl : List (Str × Addr)) (fp : List Addr), EV (X.blk s H scope (compEnvC scope cl C X.env) fp) elt (Γ.set i (some ⟨α, T, x⟩)) M1 T' y M2) ∧ LC X scope Γ i ifs elt T T' xs M2 ys' M'))
def rdEb (X : Cx) (scope : Scope) (e : Expr) : TE := fun σ H Q => ∀ (s : Shared) (H0 : Hp) (C : Addr) (cl : List (Str × Addr)) (fp : List Addr), rdE (X.blk s H0 scope (compEnvC scope cl C X.env) fp) e σ H Q
def rdTb (X : Cx) (scope : Scope) : List Expr → TT
  | [] => tYes
  | [c] => fun σ H Q => ∀ (s : Shared) (H0 : Hp) (C : Addr) (cl : List (Str × Addr)) (fp : List Addr), rdT (X.blk s H0 scope (compEnvC scope cl C X.env) fp) c σ H Q
  | _ => fun _ _ _ => False
theorem pts_b : ∀ (ifs : List Expr) (s : Shared) (H : Hp) (C : Addr) (cl : List (Str × Addr)) (fp : List Addr), PTs (X.blk s H scope (compEnvC scope cl C X.env) fp) ifs (rdTb X scope ifs)
  | [], _, _, _, _, _ => pts_nil
  | [c], s, H, C, cl, fp => pts_one ⟨fun pins s' _ _ _ I h => (h s H C cl fp).run pins s' I⟩
  | _ :: _ :: _, _, _, _, _, _ => ⟨fun _ _ _ _ _ _ h => h.elim⟩
theorem len_lc : ∀ {xs : List α} {M : Mem} {ys : List β} {M' : Mem} {i : Nat} {Γ : Gm}, LC X scope Γ i ifs elt T T' xs M ys M' → ys.length ≤ xs.length
  | [], _, _, _, _, _, h => by rw [h.1]; exact Nat.le_refl _
  | x :: xs, _, ys, _, _, _, h => by
    obtain ⟨k, M1, _, h | h⟩ := h
    · exact Nat.le_succ_of_le (len_lc h.2)
    · obtain ⟨_, y, ys', M2, rfl, _, h2⟩ := h
      exact Nat.succ_le_succ (len_lc h2)
theorem wipe_set {σ : L2.St} {i : Nat} {v : Option V} : ∀ {vs : List Nat}, i ∈ vs → L2.wipe (σ.set i v) vs = L2.wipe σ vs
  | [], h => absurd h (by simp)
  | j :: vs, h => by
    unfold L2.wipe
    by_cases hv : i ∈ vs
    · rw [wipe_set hv]
    · have e : j = i := by
        rcases List.mem_cons.mp h with e | e
        · exact e.symm
        · exact absurd e hv
      subst e
      have : ∀ (vs : List Nat), j ∉ vs → L2.wipe (σ.set j v) vs = (L2.wipe σ vs).set j v := fun vs => by
        induction vs with
        | nil => intro _; rfl
        | cons w ws ih =>
          intro hn
          unfold L2.wipe
          rw [ih fun h => hn (List.mem_cons_of_mem _ h)]
          exact List.set_comm _ _ fun e => hn (by rw [e]; exact List.mem_cons_self)
      rw [this vs hv, List.set_set]
theorem wipe_wipe {σ : L2.St} : ∀ {ws vs : List Nat}, (∀ i ∈ ws, i ∈ vs) → L2.wipe (L2.wipe σ ws) vs = L2.wipe σ vs
  | [], _, _ => rfl
  | w :: ws, vs, h => by
    show L2.wipe ((L2.wipe σ ws).set w none) vs = _
    rw [wipe_set (h w List.mem_cons_self), wipe_wipe fun i hi => h i (List.mem_cons_of_mem _ hi)]
theorem lc_turn {D : Addr} {xs : List α} {M1 M' : Mem} {ys0 ys : List β} {i : Nat} {I1 H1 Ij Hj : Hp} {M0 : Mem} {σ : L2.St} {v : V} {Γ : Gm} {Pn : Hp → Prop} (ow : Own M0 I1 H1) (g : Go I1 H1 M0 Ij Hj (⟨D, _, cLst T', ys0⟩ :: M1)) (en : EnvR Ij σ Γ) (hv : T.r Ij v x) (hi : i ∈ own.map (·.2))
    (hsz : ys0.length < sizeLine) (h : LC X scope Γ i ifs elt T T' (x :: xs) M1 ys M')
    (kn : ∀ Ik Hk Mk ys1 ys2, Go I1 H1 M0 Ik Hk (⟨D, _, cLst T', ys1⟩ :: Mk) → Same Ij Ik → ys0 ++ ys = ys1 ++ ys2 → ys1.length ≤ ys0.length + 1 → LC X scope Γ i ifs elt T T' xs Mk ys2 M' → Pn Hk) :
    rdTb X scope ifs (σ.set i (some v)) Hj fun b H3 => if b = true then rdEb X scope elt (σ.set i (some v)) H3 fun y H4 => ∃ acc, H4 D = some (.lst acc) ∧ acc.length < sizeLine ∧ Pn (upd H4 D (.lst (acc ++ [y]))) else Pn H3 := by
  obtain ⟨k, Mt, ht, hr⟩ := h
  have en2 : EnvR Ij (σ.set i (some v)) (Γ.set i (some ⟨α, T, x⟩)) := en.set (t := ⟨α, T, x⟩) hv i
  have fin : ∀ (Ib Hb : Hp), Go I1 H1 M0 Ib Hb (⟨D, _, cLst T', ys0⟩ :: Mt) → Same Ij Ib → (if k = true then rdEb X scope elt (σ.set i (some v)) Hb fun y H4 => ∃ acc, H4 D = some (.lst acc) ∧ acc.length < sizeLine ∧ Pn (upd H4 D (.lst (acc ++ [y]))) else Pn Hb) := fun Ib Hb gb sb => by
    rcases hr with ⟨rfl, hr⟩ | ⟨rfl, y, ys', M2, rfl, he, hr⟩
    · exact iteF (kn Ib Hb Mt ys0 ys gb sb rfl (Nat.le_succ _) hr)
    · refine iteT fun s H0 C cl fp => ?_
      refine he s H0 C cl fp _ Ib Hb _ (en2.mono sb) gb.ih (Own.part (A := [⟨D, _, cLst T', ys0⟩]) (M := Mt) (B := []) (by simpa using gb.own)) fun u I4 H4 g4 r4 => ?_
      have gf := g4.frame (A := [⟨D, _, cLst T', ys0⟩]) (B := []) (by simpa using gb.own)
      rw [List.append_nil, List.append_nil] at gf
      have gg := gb.trans ow gf
      obtain ⟨_, w, h2, us, rfl, r⟩ := gg.own.at_ ⟨D, _, cLst T', ys0⟩ (by simp)
      have hl := Paired.length r
      have hlt : us.length < sizeLine := by rw [hl]; exact hsz
      have hzz : WfO (.lst (us ++ [u])) := by show (us ++ [u]).length ≤ sizeLine; rw [List.length_append]; exact hlt
      refine ⟨us, h2, hlt, ?_⟩
      have gp := (Go.put1 (c := ⟨D, _, cLst T', ys0⟩) (c' := ⟨D, _, cLst T', ys0 ++ [y]⟩) (u := .lst (us ++ [u])) gg.ih (Own.part (A := []) (B := M2) (by simpa using gg.own)) rfl ⟨_, rfl, paired_append r (.cons r4 .nil)⟩ hzz).frame (A := []) (B := M2) (by simpa using gg.own)
      exact kn I4 _ M2 (ys0 ++ [y]) ys' (gg.trans ow (by simpa using gp)) (sb.trans g4.ii) (by simp) (by simp) hr
  cases ifs with
  | nil =>
    obtain ⟨hk, rfl⟩ := ht
    subst hk
    exact fin Ij Hj g (Same.refl _)
  | cons c cs =>
    cases cs with
    | nil =>
      intro s H0 C cl fp
      refine ht s H0 C cl fp _ Ij Hj _ en2 g.ih (Own.part (A := [⟨D, _, cLst T', ys0⟩]) (M := M1) (B := []) (by simpa using g.own)) fun I4 H4 g4 => ?_
      have gf := g4.frame (A := [⟨D, _, cLst T', ys0⟩]) (B := []) (by simpa using g.own)
      rw [List.append_nil, List.append_nil] at gf
      exact fin I4 H4 (g.trans ow gf) g4.ii
    | cons c2 cs => exact ht.elim
end
end
end FL
set_option maxHeartbeats 4000000
namespace FL
open PySem L2 PyProof.Rows

section
variable {X : Cx} {W : WX} {Γ : Gm} {M M' M1 M2 M3 A B : Mem} {α β γ : Type} {T : FTy α} {T' : FTy β} {C : FC α} {a b e o : Expr} {es : List Expr} {pos p : Pos} {ts : List FV} {x : α} {y : β} {Φ : Out → Prop}
  {elt iter : Expr} {ifs : List Expr} {scope : Scope} {own : List (Str × Nat)} {n : Str} {xs : List α} {ys : List β} {i : Nat}
theorem pe_blk : ∀ (s : Shared) (H : Hp) (C : Addr) (cl : List (Str × Addr)) (fp : List Addr), PE (X.blk s H scope (compEnvC scope cl C X.env) fp) elt (rdEb X scope elt) := fun s H C cl fp => ⟨fun pins s' _ _ _ I h => (h s H C cl fp).run pins s' I⟩
theorem lc_run {σ : L2.St} {I H I1 H1 : Hp} {Q : VK} {D : Addr} (o : Own M I H) (g : EnvR I σ Γ) (g1 : Go I H M I1 H1 M1) (hi : i ∈ own.map (·.2)) (hz : xs.length ≤ sizeLine) (hD : H1 D = none)
    (h : LC X scope (wipeG Γ (own.map (·.2))) i ifs elt T T' xs M1 ys M2) (k : ∀ p I' H', H p = none → Go I H M I' H' (⟨p, _, cLst T', ys⟩ :: M2) → Q (.ref p) H') :
    ∃ Pv : Nat → Hp → Prop, Pv 0 (upd H1 D (.lst [])) ∧ (∀ j H', Pv j H' → ∃ I', Same I1 I' ∧ Same I' H') ∧
      (∀ j v H', j < xs.length → (∀ I', Same I1 I' → ∃ x, xs[j]? = some x ∧ T.r I' v x) → Pv j H' → gName i v (L2.wipe σ (own.map (·.2))) H' fun σ2 H2 => L2.wipe σ2 (own.map (·.2)) = L2.wipe σ (own.map (·.2)) ∧ rdTb X scope ifs σ2 H2 fun b H3 =>
        if b = true then rdEb X scope elt σ2 H3 fun y H4 => ∃ acc, H4 D = some (.lst acc) ∧ acc.length < sizeLine ∧ Pv (j + 1) (upd H4 D (.lst (acc ++ [y]))) else Pv (j + 1) H3) ∧ ∀ H', Pv xs.length H' → Q (.ref D) H' := by
  refine ⟨fun j H' => ∃ Ij Mj ys1 ys2, Go I1 H1 M1 Ij H' (⟨D, _, cLst T', ys1⟩ :: Mj) ∧ ys = ys1 ++ ys2 ∧ ys1.length ≤ j ∧ LC X scope (wipeG Γ (own.map (·.2))) i ifs elt T T' (xs.drop j) Mj ys2 M2, ?_, ?_, ?_, ?_⟩
  · exact ⟨I1, M1, [], ys, Go.newO g1.ih g1.own hD ⟨[], rfl, .nil⟩ (Nat.zero_le _), rfl, Nat.le_refl _, h⟩
  · rintro j H' ⟨Ij, Mj, ys1, ys2, gj, _⟩
    exact ⟨Ij, gj.ii, gj.ih⟩
  · rintro j v H' hj hv ⟨Ij, Mj, ys1, ys2, gj, rfl, hl, hL⟩
    obtain ⟨x, hx, rx⟩ := hv Ij gj.ii
    rw [drop_at hx] at hL
    refine ⟨by rw [wipe_set hi, wipe_wipe fun _ h => h], ?_⟩
    refine lc_turn (own := own) g1.own gj (((g.mono g1.ii).mono gj.ii).wipe _) rx hi (Nat.lt_of_le_of_lt hl (Nat.lt_of_lt_of_le hj hz)) hL fun Ik Hk Mk z1 z2 gk sk e1 e2 hk => ⟨Ik, Mk, z1, z2, gk, e1, by omega, hk⟩
  · rintro H' ⟨Ij, Mj, ys1, ys2, gj, rfl, hl, hL⟩
    rw [List.drop_eq_nil_of_le (Nat.le_refl _)] at hL
    obtain ⟨rfl, rfl⟩ := hL
    rw [List.append_nil] at k
    exact k D Ij H' (g1.al D hD) (g1.trans o gj)
theorem evl_lc (i : Nat) (own : List (Str × Nat)) (hc : X.calm = true) (hN : X.N.Nodup) (ok : BlkOk X.N X.env.scope scope own) (hit : EV X iter Γ M (tLs T) xs M1) (h : LC X scope (wipeG Γ (own.map (·.2))) i ifs elt T T' xs M1 ys M2)
    (hi : i ∈ own.map (·.2) := by simp) (hg : ∀ (s : Shared) (H : Hp) (C : Addr) (cl : List (Str × Addr)) (fp : List Addr), PG (X.blk s H scope (compEnvC scope cl C X.env) fp) (.Name n p) (gName i) := by exact fun _ _ _ _ _ => pg_name (by assumption) rfl (Or.inl rfl))
    (hs : ∀ x, foldedSetIterable iter X.env x = pure x := by intro _; rfl) : EVL X (.ListComp elt [⟨.Name n p, iter, ifs, 0⟩] scope pos) Γ M T' ys M2 := fun σ I H Q g s o k => by
  refine rd_of (pe_lc hc hN (pi_list pe_rd) ok hg (pts_b ifs) pe_blk hs) (hit σ I H _ g s o fun v I1 H1 g1 r1 => ?_)
  obtain ⟨a, us, rfl, h2, h3⟩ := r1
  have hl := Paired.length h3
  have hw : us.length ≤ sizeLine := g1.own.wf _ _ (g1.ih _ _ h2)
  refine ⟨a, rfl, ⟨us, SqL.of (g1.ih _ _ h2)⟩, fun D hD => ?_⟩
  obtain ⟨Pv, p0, pl, pt, pd⟩ := lc_run o g g1 hi (by omega) hD h k
  refine lc_list (xs := us) Pv p0 (fun j H' _ pj => ?_) (fun j v H' hv pj => ?_) (by rw [hl]; exact pd)
  · obtain ⟨I', s1, s2⟩ := pl j H' pj
    exact SqL.of (s2 _ _ (s1 _ _ h2))
  · have hj : j < us.length := (List.getElem?_eq_some_iff.mp hv).1
    exact pt j v H' (by omega) (fun I' s' => let ⟨x, hx, rx⟩ := paired_get h3 hv; ⟨x, hx, T.mono s' rx⟩) pj
theorem evl_lcT (i : Nat) (own : List (Str × Nat)) (hc : X.calm = true) (hN : X.N.Nodup) (ok : BlkOk X.N X.env.scope scope own) (hit : EV X iter Γ M (tTp T) xs M1) (h : LC X scope (wipeG Γ (own.map (·.2))) i ifs elt T T' xs M1 ys M2)
    (hi : i ∈ own.map (·.2) := by simp) (hg : ∀ (s : Shared) (H : Hp) (C : Addr) (cl : List (Str × Addr)) (fp : List Addr), PG (X.blk s H scope (compEnvC scope cl C X.env) fp) (.Name n p) (gName i) := by exact fun _ _ _ _ _ => pg_name (by assumption) rfl (Or.inl rfl))
    (hs : ∀ x, foldedSetIterable iter X.env x = pure x := by intro _; rfl) : EVL X (.ListComp elt [⟨.Name n p, iter, ifs, 0⟩] scope pos) Γ M T' ys M2 := fun σ I H Q g s o k => by
  refine rd_of (pe_lc hc hN (pi_tup pe_rd) ok hg (pts_b ifs) pe_blk hs) (hit σ I H _ g s o fun v I1 H1 g1 r1 => ?_)
  obtain ⟨a, us, rfl, h2, h3⟩ := r1
  have hl := Paired.length h3
  have hw : us.length ≤ sizeLine := g1.own.wf _ _ (g1.ih _ _ h2)
  refine ⟨a, rfl, ⟨us, SqT.of (g1.ih _ _ h2)⟩, fun D hD => ?_⟩
  obtain ⟨Pv, p0, pl, pt, pd⟩ := lc_run o g g1 hi (by omega) hD h k
  refine lc_tup (xs := us) Pv p0 (fun j H' _ pj => ?_) (fun j v H' hv pj => ?_) (by rw [hl]; exact pd)
  · obtain ⟨I', s1, s2⟩ := pl j H' pj
    exact SqT.of (s2 _ _ (s1 _ _ h2))
  · have hj : j < us.length := (List.getElem?_eq_some_iff.mp hv).1
    exact pt j v H' (by omega) (fun I' s' => let ⟨x, hx, rx⟩ := paired_get h3 hv; ⟨x, hx, T.mono s' rx⟩) pj
theorem evl_lcR {ar : Expr} {rp cp : Pos} {j : Int} (i : Nat) (own : List (Str × Nat)) (hc : X.calm = true) (hN : X.N.Nodup) (ok : BlkOk X.N X.env.scope scope own) (hm : X.mg "range" = none) (hit : EV X ar Γ M tInt j M1) (h : LC X scope (wipeG Γ (own.map (·.2))) i ifs elt tInt T' (rng 0 j.toNat) M1 ys M2)
    (h1 : -(2 ^ 62) ≤ j) (h2 : j ≤ 16777216) (hgr : Gl X "range" := by rfl) (hi : i ∈ own.map (·.2) := by simp) (hg : ∀ (s : Shared) (H : Hp) (C : Addr) (cl : List (Str × Addr)) (fp : List Addr), PG (X.blk s H scope (compEnvC scope cl C X.env) fp) (.Name n p) (gName i) := by exact fun _ _ _ _ _ => pg_name (by assumption) rfl (Or.inl rfl))
    (hse : starEach [ar] X.env = [(false, eval ar X.env)] := by rfl) : EVL X (.ListComp elt [⟨.Name n p, (.Call (.Name "range" rp) [ar] [] cp), ifs, 0⟩] scope pos) Γ M T' ys M2 := fun σ I H Q g s o k => by
  refine rd_of (pe_lc hc hN (pi_range1 hgr hm (pa_cons pe_rd pa_nil hse) hse) ok hg (pts_b ifs) pe_blk (by intro _; rfl)) (hit σ I H _ g s o fun v I1 H1 g1 r1 => ?_)
  cases r1
  refine ⟨j, rfl, h1, by omega, fun D hD => ?_⟩
  have hl : (rng 0 j.toNat).length = j.toNat := rng_len
  have hs : sizeLine = 16777216 := sizeLine_eq
  obtain ⟨Pv, p0, pl, pt, pd⟩ := lc_run o g g1 hi (by rw [hl]; omega) hD h k
  refine lc_range (lo := 0) (n := j.toNat) Pv p0 (fun t H' ht pj => ?_) (by rw [← hl]; exact pd)
  exact pt t _ H' (by rw [hl]; exact ht) (fun I' s' => ⟨_, rng_at ht, rfl⟩) pj
theorem s_setLc (j : Nat) {ny : Str} {py spos : Pos} (i : Nat) (own : List (Str × Nat)) (hc : X.calm = true) (hN : X.N.Nodup) (hy : X.N[j]? = some ny) (hyl : X.env.scope.names.lookup ny = some .local)
    (hsw : swapsWith (.ListComp elt [⟨.Name n p, iter, ifs, 0⟩] scope pos) (some (.Name ny py)) spos.line X.env = pure true)
    (ok : BlkOk X.N X.env.scope scope own) (hit : EV X iter Γ M (tLs T) xs M1) (h : LC X scope (wipeG Γ (own.map (·.2))) i ifs elt T T' xs M1 ys M2) (k : ∀ q, Φ (.next (Γ.set j (some ⟨Addr, tAdr, q⟩)) (⟨q, _, cLst T', ys⟩ :: M2)))
    (hi : i ∈ own.map (·.2) := by simp) (hg : ∀ (s : Shared) (H : Hp) (C : Addr) (cl : List (Str × Addr)) (fp : List Addr), PG (X.blk s H scope (compEnvC scope cl C X.env) fp) (.Name n p) (gName i) := by exact fun _ _ _ _ _ => pg_name (by assumption) rfl (Or.inl rfl))
    (hs : ∀ x, foldedSetIterable iter X.env x = pure x := by intro _; rfl) : S1 X W (.Assign [.Name ny py] (.ListComp elt [⟨.Name n p, iter, ifs, 0⟩] scope pos) spos) Γ M Φ := fun σ I H D g s o q => by
  refine rdS_of (ps_setLc (i := j) hc hN hy hyl hsw (pi_list pe_rd) ok hg (pts_b ifs) pe_blk hs) (hit σ I H _ g s o fun v I1 H1 g1 r1 => ?_)
  obtain ⟨a, us, rfl, h2, h3⟩ := r1
  have hl := Paired.length h3
  have hw : us.length ≤ sizeLine := g1.own.wf _ _ (g1.ih _ _ h2)
  refine ⟨a, rfl, ⟨us, SqL.of (g1.ih _ _ h2)⟩, fun D' hD => ?_⟩
  obtain ⟨Pv, p0, pl, pt, pd⟩ := lc_run (Q := fun x H1 => gName j x σ H1 D.nx) o g g1 hi (by omega) hD h fun pp I' H' _ g' => (q _ (k pp)) _ I' H' g' ((g.mono g'.ii).set (t := ⟨Addr, tAdr, pp⟩) rfl j)
  refine lc_list (xs := us) Pv p0 (fun j' H' _ pj => ?_) (fun j' v H' hv pj => ?_) (by rw [hl]; exact pd)
  · obtain ⟨I', s1, s2⟩ := pl j' H' pj
    exact SqL.of (s2 _ _ (s1 _ _ h2))
  · have hj : j' < us.length := (List.getElem?_eq_some_iff.mp hv).1
    exact pt j' v H' (by omega) (fun I' s' => let ⟨x, hx, rx⟩ := paired_get h3 hv; ⟨x, hx, T.mono s' rx⟩) pj
theorem lc_map {f : α → β} {Γ' : Gm} : ∀ {xs : List α}, (∀ x ∈ xs, ∀ (s : Shared) (H : Hp) (C : Addr) (cl : List (Str × Addr)) (fp : List Addr), EV (X.blk s H scope (compEnvC scope cl C X.env) fp) elt (Γ'.set i (some ⟨α, T, x⟩)) M T' (f x) M) → LC X scope Γ' i [] elt T T' xs M (xs.map f) M
  | [], _ => ⟨rfl, rfl⟩
  | x :: xs, h => ⟨true, M, ⟨rfl, rfl⟩, .inr ⟨rfl, f x, xs.map f, M, rfl, h x List.mem_cons_self, lc_map fun y hy => h y (List.mem_cons_of_mem _ hy)⟩⟩
theorem lc_filter {c : Expr} {f : α → β} {t : α → Bool} {Γ' : Gm} : ∀ {xs : List α}, (∀ x ∈ xs, ∀ (s : Shared) (H : Hp) (C : Addr) (cl : List (Str × Addr)) (fp : List Addr), ET (X.blk s H scope (compEnvC scope cl C X.env) fp) c (Γ'.set i (some ⟨α, T, x⟩)) M (t x) M) →
    (∀ x ∈ xs, t x = true → ∀ (s : Shared) (H : Hp) (C : Addr) (cl : List (Str × Addr)) (fp : List Addr), EV (X.blk s H scope (compEnvC scope cl C X.env) fp) elt (Γ'.set i (some ⟨α, T, x⟩)) M T' (f x) M) → LC X scope Γ' i [c] elt T T' xs M ((xs.filter t).map f) M
  | [], _, _ => ⟨rfl, rfl⟩
  | x :: xs, h1, h2 => by
    refine ⟨t x, M, h1 x List.mem_cons_self, ?_⟩
    have r := lc_filter (fun y hy => h1 y (List.mem_cons_of_mem _ hy)) fun y hy => h2 y (List.mem_cons_of_mem _ hy)
    cases e : t x with
    | true => exact .inr ⟨rfl, f x, (xs.filter t).map f, M, by rw [List.filter_cons_of_pos e]; rfl, h2 x List.mem_cons_self e, r⟩
    | false => exact .inl ⟨rfl, by rw [List.filter_cons_of_neg (by rw [e]; exact Bool.false_ne_true)]; exact r⟩

def EP1 (X : Cx) (e : Option Expr) (Γ : Gm) (M : Mem) (o : Option Int) : Prop := ∀ (σ : L2.St) (I H : Hp) (Q : Option Int → Hp → Prop), EnvR I σ Γ → Same I H → Own M I H → (∀ I' H', Go I H M I' H' M → Q o H') → ∃ t : TO, PO X e t ∧ t σ H Q
theorem ev_callB {n : Str} {id : String} (hm : X.mg n = none) (hv : bootBuiltins n = some (.builtin id)) (ha : EA X (e :: es) Γ M ts M1) (hc : CV X (.builtin id) ts M1 T x M2) (hg : Gl X n := by rfl) (hn : n ≠ "__name__" := by decide)
    (hdb : (n == ("__debug__" : Str)) = false := by decide) (he : starEach (e :: es) X.env = (false, eval e X.env) :: starEach es X.env := by rfl) (hpl : (backTo pos (starEach es X.env)).any (·.1) = false := by rfl) :
    EV X (.Call (.Name n p) (e :: es) [] pos) Γ M T x M2 := EV.mk fun σ I H Q g s o k pins sh iv =>
  wpAny_Call_Name_kw (ld_blt iv hg hm hv (PyProof.Rows.callWith_builtin1 (thn (EA.go ha σ I H (fun vs H1 => ∀ (pins : List (Addr × Obj)) (s : Shared) (σ : L2.St) (us : List Value), Inv X pins σ H1 s → Vals vs us → wpAny (model X.prog X.w) X.A (call (.builtin id) us) (EP X pins σ Q) X.xe s) g s o
    (fun vs I1 H1 g1 r1 => hc I1 H1 vs Q g1.ih g1.own r1 fun u I2 H2 g2 r2 => k u I2 H2 (g1.trans o g2) r2) pos pins sh iv) fun us s1 ⟨vs, H1, I1, r, q⟩ => q pins s1 σ us I1 r) he hpl) hn hdb)
theorem ev_callTy {n : Str} {Ty : String} (hm : X.mg n = none) (hv : bootBuiltins n = some (.type Ty)) (ha : EA X (e :: es) Γ M ts M1) (hc : CV X (.type Ty) ts M1 T x M2) (hg : Gl X n := by rfl) (hn : n ≠ "__name__" := by decide)
    (hdb : (n == ("__debug__" : Str)) = false := by decide) (he : starEach (e :: es) X.env = (false, eval e X.env) :: starEach es X.env := by rfl) (hpl : (backTo pos (starEach es X.env)).any (·.1) = false := by rfl) :
    EV X (.Call (.Name n p) (e :: es) [] pos) Γ M T x M2 := EV.mk fun σ I H Q g s o k pins sh iv =>
  wpAny_Call_Name_kw (ld_blt iv hg hm hv (PyProof.Rows.callWith_type1 (thn (EA.go ha σ I H (fun vs H1 => ∀ (pins : List (Addr × Obj)) (s : Shared) (σ : L2.St) (us : List Value), Inv X pins σ H1 s → Vals vs us → wpAny (model X.prog X.w) X.A (call (.type Ty) us) (EP X pins σ Q) X.xe s) g s o
    (fun vs I1 H1 g1 r1 => hc I1 H1 vs Q g1.ih g1.own r1 fun u I2 H2 g2 r2 => k u I2 H2 (g1.trans o g2) r2) pos pins sh iv) fun us s1 ⟨vs, H1, I1, r, q⟩ => q pins s1 σ us I1 r) he hpl) hn hdb)
theorem evn_callTy {n : Str} {Ty : String} (hm : X.mg n = none) (hv : bootBuiltins n = some (.type Ty)) (ha : EA X (e :: es) Γ M ts M1) (hc : CVN X (.type Ty) ts M1 C x M2) (hg : Gl X n := by rfl) (hn : n ≠ "__name__" := by decide)
    (hdb : (n == ("__debug__" : Str)) = false := by decide) (he : starEach (e :: es) X.env = (false, eval e X.env) :: starEach es X.env := by rfl) (hpl : (backTo pos (starEach es X.env)).any (·.1) = false := by rfl) :
    EVN X (.Call (.Name n p) (e :: es) [] pos) Γ M C x M2 := EVN.mk fun σ I H Q g s o k pins sh iv =>
  wpAny_Call_Name_kw (ld_blt iv hg hm hv (PyProof.Rows.callWith_type1 (thn (EA.go ha σ I H (fun vs H1 => ∀ (pins : List (Addr × Obj)) (s : Shared) (σ : L2.St) (us : List Value), Inv X pins σ H1 s → Vals vs us → wpAny (model X.prog X.w) X.A (call (.type Ty) us) (EP X pins σ Q) X.xe s) g s o
    (fun vs I1 H1 g1 r1 => hc I1 H1 vs Q g1.ih g1.own r1 fun u I2 H2 hn2 g2 => k u I2 H2 (g1.al u hn2) (g1.trans o g2)) pos pins sh iv) fun us s1 ⟨vs, H1, I1, r, q⟩ => q pins s1 σ us I1 r) he hpl) hn hdb)
theorem ev_callF {n : Str} {id : String} (hm : X.mg n = some (.builtin id)) (ha : EA X (e :: es) Γ M ts M1) (hc : CV X (.builtin id) ts M1 T x M2) (hg : Gl X n := by rfl)
    (hdb : (n == ("__debug__" : Str)) = false := by decide) (he : starEach (e :: es) X.env = (false, eval e X.env) :: starEach es X.env := by rfl) (hpl : (backTo pos (starEach es X.env)).any (·.1) = false := by rfl) :
    EV X (.Call (.Name n p) (e :: es) [] pos) Γ M T x M2 := EV.mk fun σ I H Q g s o k pins sh iv =>
  wpAny_Call_Name_kw (ld_glob iv hg hm (PyProof.Rows.callWith_builtin1 (thn (EA.go ha σ I H (fun vs H1 => ∀ (pins : List (Addr × Obj)) (s : Shared) (σ : L2.St) (us : List Value), Inv X pins σ H1 s → Vals vs us → wpAny (model X.prog X.w) X.A (call (.builtin id) us) (EP X pins σ Q) X.xe s) g s o
    (fun vs I1 H1 g1 r1 => hc I1 H1 vs Q g1.ih g1.own r1 fun u I2 H2 g2 r2 => k u I2 H2 (g1.trans o g2) r2) pos pins sh iv) fun us s1 ⟨vs, H1, I1, r, q⟩ => q pins s1 σ us I1 r) he hpl) hdb)
theorem frs1 {I : Hp} {vs : List V} {t : FV} (h : FRs I vs [t]) : ∃ v, vs = [v] ∧ FR I v t := match vs, h with
  | [v], h => ⟨v, rfl, h.1⟩
theorem frs2 {I : Hp} {vs : List V} {t t' : FV} (h : FRs I vs [t, t']) : ∃ v w, vs = [v, w] ∧ FR I v t ∧ FR I w t' := match vs, h with
  | [v, w], h => ⟨v, w, rfl, h.1, h.2.1⟩
theorem frs3 {I : Hp} {vs : List V} {t t' t2 : FV} (h : FRs I vs [t, t', t2]) : ∃ v w u, vs = [v, w, u] ∧ FR I v t ∧ FR I w t' ∧ FR I u t2 := match vs, h with
  | [v, w, u], h => ⟨v, w, u, rfl, h.1, h.2.1, h.2.2.1⟩
variable {callee : Value} {r : List V → Hp → VK → Prop} {i j : Int} {z : Str}
theorem cv1 (hc : CallR X callee r) (h : ∀ (I H : Hp) (v : V) (Q : VK), Same I H → Own M I H → T.r I v x → (∀ u, T'.r I u y → Q u H) → r [v] H Q) : CV X callee [⟨α, T, x⟩] M T' y M := cv_R hc fun I H vs Q s o rr k => by
  obtain ⟨v, rfl, rv⟩ := frs1 rr
  exact h I H v Q s o rv fun u ru => k u I H (Go.refl s o) ru
theorem cv2 {δ : Type} {T'' : FTy δ} {z : δ} (hc : CallR X callee r) (h : ∀ (I H : Hp) (v w : V) (Q : VK), Same I H → Own M I H → T.r I v x → T'.r I w y → (∀ u, T''.r I u z → Q u H) → r [v, w] H Q) : CV X callee [⟨α, T, x⟩, ⟨β, T', y⟩] M T'' z M := cv_R hc fun I H vs Q s o rr k => by
  obtain ⟨v, w, rfl, rv, rw⟩ := frs2 rr
  exact h I H v w Q s o rv rw fun u ru => k u I H (Go.refl s o) ru
theorem cv_abs : CV X (.builtin "abs") [⟨Int, tInt, i⟩] M tInt (if i < 0 then -i else i) M := cv1 call_abs fun I H v Q s o rv k => ⟨i, by cases rv; rfl, k _ rfl⟩
theorem cv_int : CV X (.type "int") [⟨Int, tInt, i⟩] M tInt i M := cv1 call_int1 fun I H v Q s o rv k => .inl ⟨i, by cases rv; rfl, k _ rfl⟩
theorem cv_intB {k : Bool} : CV X (.type "int") [⟨Bool, tBl, k⟩] M tInt (if k then 1 else 0) M := cv1 call_int1 fun I H v Q s o rv q => .inr ⟨k, by cases rv; rfl, q _ rfl⟩
theorem cv_bool : CV X (.type "bool") [⟨Int, tInt, i⟩] M tBl (i != 0) M := cv1 call_bool1 fun I H v Q s o rv k => .inl ⟨i, by cases rv; rfl, k _ rfl⟩
theorem cv_boolB {k : Bool} : CV X (.type "bool") [⟨Bool, tBl, k⟩] M tBl k M := cv1 call_bool1 fun I H v Q s o rv q => .inr ⟨k, by cases rv; rfl, q _ rfl⟩
theorem cv_str (hz : i.natAbs.log2 < 1920) : CV X (.type "str") [⟨Int, tInt, i⟩] M tStr (toString i : Str) M := cv1 call_str_int fun I H v Q s o rv k => ⟨i, by cases rv; rfl, hz, k _ rfl⟩
theorem cv_strS : CV X (.type "str") [⟨Str, tStr, z⟩] M tStr z M := cv1 SkE.call_str_str fun I H v Q s o rv k => ⟨z, by cases rv; rfl, k _ rfl⟩
theorem cv_max (hc : X.calm = true) : CV X (.builtin "max") [⟨Int, tInt, i⟩, ⟨Int, tInt, j⟩] M tInt (if j > i then j else i) M := cv2 (call_max2 hc) fun I H v w Q s o rv rw k => ⟨i, j, by cases rv; cases rw; rfl, k _ rfl⟩
theorem cv_min (hc : X.calm = true) : CV X (.builtin "min") [⟨Int, tInt, i⟩, ⟨Int, tInt, j⟩] M tInt (if j < i then j else i) M := cv2 (call_min2 hc) fun I H v w Q s o rv rw k => ⟨i, j, by cases rv; cases rw; rfl, k _ rfl⟩
theorem cv_gcd : CV X (.builtin "math.gcd") [⟨Int, tInt, i⟩, ⟨Int, tInt, j⟩] M tInt ((Nat.gcd i.natAbs j.natAbs : Nat) : Int) M := cv2 cr_gcd fun I H v w Q s o rv rw k => ⟨i, j, by cases rv; cases rw; rfl, k _ rfl⟩
theorem cv_lenLs {xs : List α} : CV X (.builtin "len") [⟨_, tLs T, xs⟩] M tInt (xs.length : Int) M := cv1 call_len_seq fun I H v Q s o rv k => by
  obtain ⟨p, us, rfl, h1, r⟩ := rv
  exact ⟨p, us, rfl, .inl (SqL.of (s _ _ h1)), k _ (by rw [Paired.length r]; rfl)⟩
theorem cv_lenTp {xs : List α} : CV X (.builtin "len") [⟨_, tTp T, xs⟩] M tInt (xs.length : Int) M := cv1 call_len_seq fun I H v Q s o rv k => by
  obtain ⟨p, us, rfl, h1, r⟩ := rv
  exact ⟨p, us, rfl, .inr (SqT.of (s _ _ h1)), k _ (by rw [Paired.length r]; rfl)⟩
theorem cv_lenO {q : Addr} {xs : List α} (hm : (⟨q, _, cLst T, xs⟩ : FCell) ∈ M) : CV X (.builtin "len") [⟨_, tAdr, q⟩] M tInt (xs.length : Int) M := cv1 call_len_seq fun I H v Q s o rv k => by
  cases rv
  obtain ⟨_, u, h2, us, rfl, r⟩ := o.at_ _ hm
  exact ⟨q, us, rfl, .inl (SqL.of h2), k _ (by rw [Paired.length r]; rfl)⟩
theorem cv_lenS (hz : z.length ≤ sizeLine) : CV X (.builtin "len") [⟨_, tStr, z⟩] M tInt (z.length : Int) M := cv1 call_len_str fun I H v Q s o rv k => ⟨z, by cases rv; rfl, hz, k _ rfl⟩
theorem cvn_list {xs : List α} : CVN X (.type "list") [⟨_, tLs T, xs⟩] M (cLst T) xs M := cvn_R call_list_of fun I H vs Q s o rr k => by
  obtain ⟨v, rfl, p, us, rfl, h1, r⟩ := frs1 rr
  exact ⟨p, us, rfl, .inl (SqL.of (s _ _ h1)), fun l hl => k l I _ hl (Go.newO s o hl ⟨us, rfl, r⟩ (o.wf _ _ (s _ _ h1)))⟩
theorem cvn_listT {xs : List α} : CVN X (.type "list") [⟨_, tTp T, xs⟩] M (cLst T) xs M := cvn_R call_list_of fun I H vs Q s o rr k => by
  obtain ⟨v, rfl, p, us, rfl, h1, r⟩ := frs1 rr
  exact ⟨p, us, rfl, .inr (SqT.of (s _ _ h1)), fun l hl => k l I _ hl (Go.newO s o hl ⟨us, rfl, r⟩ (show us.length ≤ sizeLine from o.wf _ (.tup us) (s _ _ h1)))⟩
end
end FL
set_option maxHeartbeats 4000000
namespace FL
open PySem L2 PyProof.Rows

section
variable {X : Cx} {W : WX} {Γ : Gm} {M M' M1 M2 M3 A B : Mem} {α β γ δ : Type} {T : FTy α} {T' : FTy β} {T'' : FTy δ} {C : FC α} {a b e o : Expr} {es : List Expr} {pos p : Pos} {ts : List FV} {x : α} {y : β} {z : δ} {Φ : Out → Prop}
  {Cl f g : Addr} {fd : FuncData} {ps : List Str} {k : Nat} {fl n : Str}
def IsIns (T : FTy α) (C : Addr) (x : α) : Prop := ∀ I v, T.r I v x → ∃ a dx fs, v = .ref a ∧ I a = some (.ins C dx fs)
theorem ev_fld (h : EV X e Γ M T x M1) (c : Cls X.K Cl) (na : NoAttr X.K Cl fl) (hT : ∀ I v, T.r I v x → ∃ a dx fs u, v = .ref a ∧ I a = some (.ins Cl dx fs) ∧ fs.lookup fl = some u ∧ T'.r I u y)
    (hb : attributeBase e fl X.env (eval e X.env) = eval e X.env := by rfl) : EV X (.Attribute e fl pos) Γ M T' y M1 := fun σ I H Q g s o k =>
  rd_of (pe_fld pe_rd hb) (h σ I H _ g s o fun v I1 H1 g1 r1 => by
    obtain ⟨a, dx, fs, u, rfl, h1, h2, h3⟩ := hT I1 v r1
    exact ⟨a, Cl, dx, fs, u, rfl, g1.ih _ _ h1, c, na, h2, k u I1 H1 g1 h3⟩)
def cIns (C : Addr) (fs : List (Str × FV)) : FC Unit := ⟨fun I o _ => ∃ (dx : Addr) (vs : List (Str × V)), o = .ins C dx vs ∧ vs.map (·.1) = fs.map (·.1) ∧ FRs I (vs.map (·.2)) (fs.map (·.2)), fun e h => by
  obtain ⟨dx, vs, h1, h2, h3⟩ := h
  exact ⟨dx, vs, h1, h2, FRs.mono e h3⟩⟩
def putV (f : Str) (t : FV) : List (Str × FV) → List (Str × FV)
  | [] => [(f, t)]
  | q :: r => if q.1 = f then (f, t) :: r else q :: putV f t r
theorem putF_put {I : Hp} {v : V} {t : FV} (h : FR I v t) : ∀ {vs : List (Str × V)} {fs : List (Str × FV)}, vs.map (·.1) = fs.map (·.1) → FRs I (vs.map (·.2)) (fs.map (·.2)) →
    (putF fl v vs).map (·.1) = (putV fl t fs).map (·.1) ∧ FRs I ((putF fl v vs).map (·.2)) ((putV fl t fs).map (·.2))
  | [], [], _, _ => ⟨rfl, h, trivial⟩
  | (f1, v1) :: vs, (f2, t2) :: fs, h1, h2 => by
    have e : f1 = f2 := by simpa using congrArg List.head? h1
    have h1' : vs.map (·.1) = fs.map (·.1) := by simpa using congrArg List.tail h1
    subst e
    unfold putF putV
    by_cases q : f1 = fl
    · rw [if_pos q, if_pos q]
      exact ⟨by simp [h1', q], h, h2.2⟩
    · rw [if_neg q, if_neg q]
      obtain ⟨r1, r2⟩ := putF_put h h1' h2.2
      exact ⟨by simp [r1], h2.1, r2⟩
  | [], _ :: _, h1, _ => by simp at h1
  | _ :: _, [], h1, _ => by simp at h1
theorem frs_lookup {I : Hp} {t : FV} : ∀ {vs : List (Str × V)} {fs : List (Str × FV)}, vs.map (·.1) = fs.map (·.1) → FRs I (vs.map (·.2)) (fs.map (·.2)) → fs.lookup fl = some t → ∃ u, vs.lookup fl = some u ∧ FR I u t
  | [], [], _, _, h => by simp at h
  | (f1, v1) :: vs, (f2, t2) :: fs, h1, h2, h => by
    have e : f1 = f2 := by simpa using congrArg List.head? h1
    have h1' : vs.map (·.1) = fs.map (·.1) := by simpa using congrArg List.tail h1
    subst e
    rw [List.lookup_cons] at h ⊢
    cases q : (fl == f1) with
    | true => rw [q] at h; cases h; exact ⟨v1, rfl, h2.1⟩
    | false => rw [q] at h; exact frs_lookup h1' h2.2 h
  | [], _ :: _, h1, _, _ => by simp at h1
  | _ :: _, [], h1, _, _ => by simp at h1
theorem ev_fldO {q : Addr} {fs : List (Str × FV)} (h : EV X e Γ M tAdr q M1) (hm : (⟨q, _, cIns Cl fs, ()⟩ : FCell) ∈ M1) (c : Cls X.K Cl) (na : NoAttr X.K Cl fl) (hf : fs.lookup fl = some ⟨β, T', y⟩)
    (hb : attributeBase e fl X.env (eval e X.env) = eval e X.env := by rfl) : EV X (.Attribute e fl pos) Γ M T' y M1 := fun σ I H Q g s o k =>
  rd_of (pe_fld pe_rd hb) (h σ I H _ g s o fun v I1 H1 g1 r1 => by
    cases r1
    obtain ⟨_, u, h1, dx, vs, rfl, h2, h3⟩ := g1.own.at_ _ hm
    obtain ⟨w, hw, rw⟩ := frs_lookup h2 h3 hf
    exact ⟨q, Cl, dx, vs, w, rfl, h1, c, na, hw, k w I1 H1 g1 rw⟩)
theorem s_fld {q : Addr} {fs : List (Str × FV)} (hv : EV X e Γ M T x M1) (ha : EV X a Γ M1 tAdr q (A ++ [⟨q, _, cIns Cl fs, ()⟩] ++ B)) (c : Cls X.K Cl) (na : NoAttr X.K Cl fl) (hz : fs.length < 1000) (k : Φ (.next Γ (A ++ [⟨q, _, cIns Cl (putV fl ⟨α, T, x⟩ fs), ()⟩] ++ B)))
    (hs : swapsWith e (some (.Attribute a fl p)) pos.line X.env = pure false := by rfl) : S1 X W (.Assign [.Attribute a fl p] e pos) Γ M Φ := fun σ I H D g s o kk =>
  rdS_of (ps_fld pe_rd pe_rd hs) (hv σ I H _ g s o fun v I1 H1 g1 r1 => ha σ I1 H1 _ (g.mono g1.ii) g1.ih g1.own fun w I2 H2 g2 r2 => by
    cases r2
    have g12 := g1.trans o g2
    obtain ⟨_, u, h1, dx, vs, rfl, h2, h3⟩ := g12.own.at_ ⟨q, _, cIns Cl fs, ()⟩ (by simp)
    have hl : vs.length = fs.length := by simpa using congrArg List.length h2
    obtain ⟨p1, p2⟩ := putF_put (fl := fl) (t := ⟨α, T, x⟩) (T.mono g2.ii r1) h2 h3
    have gp := (Go.put1 (c := ⟨q, _, cIns Cl fs, ()⟩) (c' := ⟨q, _, cIns Cl (putV fl ⟨α, T, x⟩ fs), ()⟩) (u := .ins Cl dx (putF fl v vs)) g12.ih g12.own.part rfl ⟨dx, _, rfl, p1, p2⟩ trivial).frame g12.own
    exact ⟨q, Cl, dx, vs, rfl, h1, c, na, by omega, (kk _ k) σ I2 _ (g12.trans o gp) (g.mono g12.ii)⟩)
theorem Go.lay {I H : Hp} {q : Addr} {u : HO} (s : Same I H) (o : Own M I H) (hp : H q = none) (hw : WfO u) : Go I H M I (upd H q u) M where
  ii := Same.refl _
  ih := fun b w h => by rw [upd_ne (ne_of_none (s b w h) hp)]; exact s b w h
  own := ⟨o.nd, fun c hc => by
    obtain ⟨h1, w, h2, h3⟩ := o.at_ c hc
    exact ⟨h1, w, by rw [upd_ne (ne_of_none h2 hp)]; exact h2, h3⟩, o.wf.upd hw⟩
  fr := fun b w h _ => by rw [upd_ne (ne_of_none h hp)]; exact h
  nw := fun b w h => .inl h
  dm := fun _ h => .inl h
  al := fun b h => by
    by_cases e : b = q
    · subst e; exact hp
    · rw [upd_ne e] at h; exact h
theorem cvn_make {ι : Type} {pre : ι → Prop} {args : ι → List FV} {mem : ι → Mem} {post : ι → Out → Prop} {dvs : List V} {ds : List Value} {dts : List FV} {fs : List (Str × FV)} (Mk' : Mk X.K Cl f)
    (F : FnOk X.prog X.w X.K X.mg X.base (L2N.CX X.prog X.w) k f fd ps (spF pre args mem post)) (hr : Room (k + 1) X.A) (hb : Binds X.K fd ps ds) (hd : Vals dvs ds) (hdt : ∀ I, FRs I dvs dts) (ix : Addr → ι) (hp : ∀ q, pre (ix q)) (ha : ∀ q, args (ix q) = ⟨Addr, tAdr, q⟩ :: (ts ++ dts))
    (hm : ∀ q, mem (ix q) = [⟨q, _, cIns Cl [], ()⟩]) (hq : ∀ q o, post (ix q) o → o = .ret ⟨Unit, tNon, ()⟩ [⟨q, _, cIns Cl fs, ()⟩]) : CVN X (.ref Cl) ts M (cIns Cl fs) () M := fun I H vs Q s o r kk pins sh σ us iv rv =>
  run_make (E := E0) Mk' F hr hb hd passN iv rv fun q dx hq1 hd1 ne => by
    have g1 := Go.lay (M := M) s o hd1 (u := .own q) trivial
    have hq2 : upd H dx (.own q) q = none := by rw [upd_ne ne.symm]; exact hq1
    have g2 := Go.newO (C := cIns Cl []) (x := ()) (u := .ins Cl dx []) g1.ih g1.own hq2 ⟨dx, [], rfl, rfl, trivial⟩ trivial
    have g12 := g1.trans o g2
    refine ⟨ix q, I, hp q, g2.ih, by rw [hm]; exact Own.part (A := []) (B := M) (by simpa using g2.own), by rw [ha]; exact ⟨rfl, frs_append r (hdt I)⟩, fun out ho => ?_⟩
    rw [hq q out ho, hm]
    rintro v I' H' g' rr
    have gf := g'.frame (A := []) (B := M) (by simpa using g2.own)
    exact ⟨rr, kk q I' H' hq1 (g12.trans o (by simpa using gf))⟩
theorem ev_meth {pl : Sem Bool} {apos : Pos} {m : Str} (ho : EV X o Γ M T x M1) (hT : ∀ I v, T.r I v x → ∃ a dx fs, v = .ref a ∧ I a = some (.ins Cl dx fs) ∧ fs.lookup m = none) (c : Cls X.K Cl) (hm : Meth X.K Cl m f) (ha : EA X (e :: es) Γ M1 ts M2)
    (hc : CV X (.ref f) (⟨α, T, x⟩ :: ts) M2 T' y M3)
    (hst : starEach (e :: es) X.env = (false, eval e X.env) :: starEach es X.env := by rfl) (hpl : (backTo pos (starEach es X.env)).any (·.1) = false := by rfl)
    (ht : eval (.Call (.Attribute o m apos) (e :: es) [] pos) X.env = (do
      let ov ← eval o X.env
      standAt apos.atName
      let (f, first) ← holding [ov] (getMethod ov m pl)
      callWith pos f first (backTo pos (starEach (e :: es) X.env)) (backToKw pos (keywordEach [] X.env))) := by rfl) :
    EV X (.Call (.Attribute o m apos) (e :: es) [] pos) Γ M T' y M3 := EV.mk fun σ I H Q g s ow k pins sh iv => by
  refine PySem.W.methodCall_KW (pl := pl) (thn (EV.go ho σ I H (fun v H1 => ∀ (pins : List (Addr × Obj)) (s : Shared) (u : Value), Inv X pins σ H1 s → RelV v u → wpAny (model X.prog X.w) X.A (getMethod u m pl)
      (fun fx s2 => wpAny (model X.prog X.w) X.A (callWith pos fx.1 fx.2 (backTo pos (starEach (e :: es) X.env)) (backToKw pos (keywordEach [] X.env))) (EP X pins σ Q) X.xe s2) X.xe s) g s ow (fun v I1 H1 g1 r1 pins s1 u I1v rx => ?_) pins sh iv) fun u s1 ⟨v, H1, I1, rx, q⟩ => q pins s1 u I1 rx) ht
  obtain ⟨a, dx, fs, rfl, h1, l⟩ := hT I1 v r1
  obtain rfl : u = Value.ref a := rx
  refine getmeth_ok I1v (g1.ih _ _ h1) c hm l ?_
  refine PySem.W.callWith_K (first := [.ref a]) (h₀ := X.base) I1v.ok.mod.kin hm.kp (thn (EA.go ha σ I1 H1 (fun vs H2 => ∀ (pins : List (Addr × Obj)) (s : Shared) (us : List Value), Inv X pins σ H2 s → Vals vs us → wpAny (model X.prog X.w) X.A (call (.ref f) (.ref a :: us)) (EP X pins σ Q) X.xe s) (g.mono g1.ii) g1.ih g1.own
      (fun vs I2 H2 g2 r2 pins s us iv2 rv => hc I2 H2 (.ref a :: vs) Q g2.ih g2.own ⟨T.mono g2.ii r1, r2⟩ (fun u' I3 H3 g3 r3 => k u' I3 H3 ((g1.trans ow g2).trans ow g3) r3) pins s σ (.ref a :: us) iv2 (.cons rfl rv)) pos pins s1 I1v) fun us s2 ⟨vs, H2, I2, r, q2⟩ => ⟨I2.kIn, q2 _ s2 us I2 r⟩) hst hpl
theorem ev_meth0 {pl : Sem Bool} {apos : Pos} {m : Str} (ho : EV X o Γ M T x M1) (hT : ∀ I v, T.r I v x → ∃ a dx fs, v = .ref a ∧ I a = some (.ins Cl dx fs) ∧ fs.lookup m = none) (c : Cls X.K Cl) (hm : Meth X.K Cl m f)
    (hc : CV X (.ref f) [⟨α, T, x⟩] M1 T' y M3)
    (ht : eval (.Call (.Attribute o m apos) [] [] pos) X.env = (do
      let ov ← eval o X.env
      standAt apos.atName
      let (f, first) ← holding [ov] (getMethod ov m pl)
      callWith pos f first (backTo pos (starEach [] X.env)) (backToKw pos (keywordEach [] X.env))) := by rfl) :
    EV X (.Call (.Attribute o m apos) [] [] pos) Γ M T' y M3 := EV.mk fun σ I H Q g s ow k pins sh iv => by
  refine PySem.W.methodCall_KW (pl := pl) (thn (EV.go ho σ I H (fun v H1 => ∀ (pins : List (Addr × Obj)) (s : Shared) (u : Value), Inv X pins σ H1 s → RelV v u → wpAny (model X.prog X.w) X.A (getMethod u m pl)
      (fun fx s2 => wpAny (model X.prog X.w) X.A (callWith pos fx.1 fx.2 (backTo pos (starEach [] X.env)) (backToKw pos (keywordEach [] X.env))) (EP X pins σ Q) X.xe s2) X.xe s) g s ow (fun v I1 H1 g1 r1 pins s1 u I1v rx => ?_) pins sh iv) fun u s1 ⟨v, H1, I1, rx, q⟩ => q pins s1 u I1 rx) ht
  obtain ⟨a, dx, fs, rfl, h1, l⟩ := hT I1 v r1
  obtain rfl : u = Value.ref a := rx
  refine getmeth_ok I1v (g1.ih _ _ h1) c hm l ?_
  exact PySem.W.callWith_K0 (first := [.ref a]) I1v.kIn hm.kp (hc I1 H1 [.ref a] Q g1.ih g1.own ⟨r1, trivial⟩ (fun u' I3 H3 g3 r3 => k u' I3 H3 (g1.trans ow g3) r3) pins s1 σ [.ref a] I1v (.cons rfl .nil))
structure Stat (K : PySem.W.Frag) (C : Addr) (m : Str) (g : Addr) : Prop where
  rd : PySem.W.readsIn K C (.type "type") = true
  ga : PySem.W.specialIn K (.ref C) "__getattribute__" = some (some (.builtin "type.__getattribute__"))
  at_ : ∃ p, PySem.W.findCls K (.ref C) (.type "type") m = some (.get (.builtin "staticmethod.__get__") (.ref p) .none (.ref C)) ∧ ∃ rest, PySem.W.recIn K p "staticmethod" = some (.ref g :: rest)
  kp : PySem.W.keepIn K (.ref g) = true
theorem ev_stat {pl : Sem Bool} {apos : Pos} {m : Str} (ho : ∀ (M : Mem), EV X o Γ M tAdr Cl M) (st : Stat X.K Cl m f) (ha : EA X (e :: es) Γ M ts M2) (hc : CV X (.ref f) ts M2 T' y M3)
    (hst : starEach (e :: es) X.env = (false, eval e X.env) :: starEach es X.env := by rfl) (hpl : (backTo pos (starEach es X.env)).any (·.1) = false := by rfl)
    (ht : eval (.Call (.Attribute o m apos) (e :: es) [] pos) X.env = (do
      let ov ← eval o X.env
      standAt apos.atName
      let (f, first) ← holding [ov] (getMethod ov m pl)
      callWith pos f first (backTo pos (starEach (e :: es) X.env)) (backToKw pos (keywordEach [] X.env))) := by rfl) :
    EV X (.Call (.Attribute o m apos) (e :: es) [] pos) Γ M T' y M3 := EV.mk fun σ I H Q g s ow k pins sh iv => by
  refine PySem.W.methodCall_KW (pl := pl) (thn (EV.go (ho M) σ I H (fun v H1 => ∀ (pins : List (Addr × Obj)) (s : Shared) (u : Value), Inv X pins σ H1 s → RelV v u → wpAny (model X.prog X.w) X.A (getMethod u m pl)
      (fun fx s2 => wpAny (model X.prog X.w) X.A (callWith pos fx.1 fx.2 (backTo pos (starEach (e :: es) X.env)) (backToKw pos (keywordEach [] X.env))) (EP X pins σ Q) X.xe s2) X.xe s) g s ow (fun v I1 H1 g1 r1 pins s1 u I1v rx => ?_) pins sh iv) fun u s1 ⟨v, H1, I1, rx, q⟩ => q pins s1 u I1 rx) ht
  cases r1
  obtain rfl : u = Value.ref Cl := rx
  obtain ⟨p, hp, rest, hre⟩ := st.at_
  refine PySem.W.method_cls I1v.kIn st.ga (PySem.W.cls_bind I1v.kIn st.rd hp (wpAny_call (PySem.W.sm_get (s := { s1 with toks := s1.toks + 1 }) (I1v.tok _).kIn hre (PySem.W.handed_on rfl ?_))))
  refine PySem.W.callWith_K (first := []) (h₀ := X.base) I1v.ok.mod.kin st.kp (thn (EA.go ha σ I1 H1 (fun vs H2 => ∀ (pins : List (Addr × Obj)) (s : Shared) (us : List Value), Inv X pins σ H2 s → Vals vs us → wpAny (model X.prog X.w) X.A (call (.ref f) us) (EP X pins σ Q) X.xe s) (g.mono g1.ii) g1.ih g1.own
      (fun vs I2 H2 g2 r2 pins s us iv2 rv => hc I2 H2 vs Q g2.ih g2.own r2 (fun u' I3 H3 g3 r3 => k u' I3 H3 ((g1.trans ow g2).trans ow g3) r3) pins s σ us iv2 rv) pos pins _ (I1v.tok _)) fun us s2 ⟨vs, H2, I2, r, q2⟩ => ⟨I2.kIn, q2 _ s2 us I2 r⟩) hst hpl
theorem ev_glob {n : Str} (hm : X.mg n = some (.ref Cl)) (hg : Gl X n := by rfl) (hd : (n == ("__debug__" : Str)) = false := by decide) : EV X (.Name n pos) Γ M tAdr Cl M := fun σ I H Q g s o k =>
  rd_of (pe_glob (v := .ref Cl) hg hm rfl hd) (k _ I H (Go.refl s o) rfl)
theorem ev_globI {n : Str} {i : Int} {t : Tok} (hm : X.mg n = some (.int i t)) (hg : Gl X n := by rfl) (hd : (n == ("__debug__" : Str)) = false := by decide) : EV X (.Name n pos) Γ M tInt i M := fun σ I H Q g s o k =>
  rd_of (pe_glob (v := .int i) hg hm ⟨t, rfl⟩ hd) (k _ I H (Go.refl s o) rfl)
theorem ev_globS {n : Str} {i : Str} {t : Tok} (hm : X.mg n = some (.str i t)) (hg : Gl X n := by rfl) (hd : (n == ("__debug__" : Str)) = false := by decide) : EV X (.Name n pos) Γ M tStr i M := fun σ I H Q g s o k =>
  rd_of (pe_glob (v := .str i) hg hm ⟨t, rfl⟩ hd) (k _ I H (Go.refl s o) rfl)

theorem not_ni {x : V} (h : RelV x Value.notImplemented) : False := by
  cases x with
  | non => cases h
  | bl b => cases h
  | int i => obtain ⟨t, h⟩ := h; cases h
  | str i => obtain ⟨t, h⟩ := h; cases h
  | byt i => obtain ⟨t, h⟩ := h; cases h
  | flt i => obtain ⟨t, h⟩ := h; cases h
  | ref a => cases h
  | ty n => cases h
theorem back_of {Q : Value → Shared → Prop} {pins : List (Addr × Obj)} {σ : L2.St} {R : VK} (h : ∀ v s', EP X pins σ R v s' → Q v s') : ∀ v s', EP X pins σ R v s' → PySem.W.CmpBack Q v s' := fun v s' q => by
  have ni : v ≠ Value.notImplemented := fun e => by
    obtain ⟨v', H', _, r, _⟩ := q
    rw [e] at r
    exact not_ni r
  have hq := h v s' q
  cases v with
  | notImplemented => exact absurd rfl ni
  | _ => exact hq
structure OpB (K : PySem.W.Frag) (C : Addr) (op : Operator) (f : Addr) : Prop where
  sf : PySem.W.selfFirst K C = true
  at_ : PySem.W.findIn K (.ref C) (PySem.dunder op.info.2) = some (some (.ref f))
  fn : PySem.W.isFn K (.ref f) = true
  r : ∃ rc, PySem.W.findIn K (.ref C) (dunderR op.info.2) = some rc ∧ (rc = none ∨ ∃ g : Addr, rc = some (.ref g))
  i1 : ∃ fo, PySem.W.findIn K (.type "int") (PySem.dunder op.info.2) = some fo
  i2 : ∃ ro, PySem.W.findIn K (.type "int") (dunderR op.info.2) = some ro
  su : PySem.W.subIn K (.type "int") (.ref C) = some false
theorem ins_at {pins : List (Addr × Obj)} {σ : L2.St} {H : Hp} {s : Shared} {a dx : Addr} {fs : List (Str × V)} (iv : Inv X pins σ H s) (h : H a = some (.ins Cl dx fs)) : ∃ od, PySem.W.InstAt s.heap a (PySem.W.instObj Cl dx) Cl (some od) := by
  obtain ⟨mA, O, _⟩ := ins_get iv.hok h
  obtain ⟨od, J, _⟩ := O.look
  exact ⟨od, J⟩
theorem ov_own {op : Operator} (hT : IsIns T Cl x) (hT' : IsIns T' Cl y) (ob : OpB X.K Cl op f) (hc : CV X (.ref f) [⟨α, T, x⟩, ⟨β, T', y⟩] M T'' z M') : OV X (binaryOp op) M T x T' y T'' z M' := fun I H v w Q s o r1 r2 k pins sh σ v' w' iv rv rw => by
  obtain ⟨a, dx, fs, rfl, h1⟩ := hT I v r1
  obtain ⟨b, dx2, fs2, rfl, h2⟩ := hT' I w r2
  obtain rfl : v' = Value.ref a := rv
  obtain rfl : w' = Value.ref b := rw
  obtain ⟨m, F⟩ := iv.fr
  obtain ⟨od, J⟩ := ins_at iv (s _ _ h1)
  obtain ⟨od2, J2⟩ := ins_at iv (s _ _ h2)
  exact PySem.W.binop_K F iv.ok.mod.kin J J2.type ob.sf ob.at_ ob.fn (wpAny_mono (hc I H [.ref a, .ref b] Q s o ⟨r1, r2, trivial⟩ k pins sh σ [.ref a, .ref b] iv (.cons rfl (.cons rfl .nil))) (back_of fun _ _ q => q) fun _ _ q => q)
theorem ov_ownI {op : Operator} {j : Int} (hT : IsIns T Cl x) (ob : OpB X.K Cl op f) (hc : CV X (.ref f) [⟨α, T, x⟩, ⟨Int, tInt, j⟩] M T'' z M') : OV X (binaryOp op) M T x tInt j T'' z M' := fun I H v w Q s o r1 r2 k pins sh σ v' w' iv rv rw => by
  obtain ⟨a, dx, fs, rfl, h1⟩ := hT I v r1
  cases r2
  obtain rfl : v' = Value.ref a := rv
  obtain ⟨t, rfl⟩ := rw
  obtain ⟨m, F⟩ := iv.fr
  obtain ⟨od, J⟩ := ins_at iv (s _ _ h1)
  obtain ⟨rc, h3, h4⟩ := ob.r
  obtain ⟨fo, h5⟩ := ob.i1
  obtain ⟨ro, h6⟩ := ob.i2
  exact PySem.W.ksp_binT F iv.ok.mod.kin J (by rfl) ob.sf ob.at_ ob.fn h3 h4 h5 h6 ob.su (wpAny_mono (hc I H [.ref a, .int j] Q s o ⟨r1, rfl, trivial⟩ k pins sh σ [.ref a, .int j t] iv (.cons rfl (.cons ⟨t, rfl⟩ .nil))) (back_of fun _ _ q => q) fun _ _ q => q)
structure CmpB (K : PySem.W.Frag) (C : Addr) (op : CmpOp) (f : Addr) : Prop where
  at_ : PySem.W.findIn K (.ref C) (cmpInfo op).2.1 = some (some (.ref f))
  fn : PySem.W.isFn K (.ref f) = true
  su : PySem.W.subIn K (.type "int") (.ref C) = some false
theorem rc_own {op : CmpOp} {pins : List (Addr × Obj)} {σ : L2.St} {I H : Hp} {sh : Shared} {v w : V} {v' w' : Value} {Q : VK} (hu : X.A.units < cLine) (hT : IsIns T Cl x) (hT' : IsIns T' Cl y) (ob : CmpB X.K Cl op f) (hc : CV X (.ref f) [⟨α, T, x⟩, ⟨β, T', y⟩] M T'' z M')
    (s : Same I H) (o : Own M I H) (r1 : T.r I v x) (r2 : T'.r I w y) (k : ∀ u I' H', Go I H M I' H' M' → T''.r I' u z → Q u H') (iv : Inv X pins σ H sh) (rv : RelV v v') (rw : RelV w w') : wpAny (model X.prog X.w) X.A (richCompare op v' w') (EP X pins σ Q) X.xe sh := by
  obtain ⟨a, dx, fs, rfl, h1⟩ := hT I v r1
  obtain ⟨b, dx2, fs2, rfl, h2⟩ := hT' I w r2
  obtain rfl : v' = Value.ref a := rv
  obtain rfl : w' = Value.ref b := rw
  obtain ⟨m, F⟩ := iv.fr
  obtain ⟨od, J⟩ := ins_at iv (s _ _ h1)
  obtain ⟨od2, J2⟩ := ins_at iv (s _ _ h2)
  exact PySem.W.cmp_K hu F iv.ok.mod.kin J J2.type (by unfold PySem.W.notFirst; simp) ob.at_ ob.fn (wpAny_mono (hc I H [.ref a, .ref b] Q s o ⟨r1, r2, trivial⟩ k pins sh σ [.ref a, .ref b] iv (.cons rfl (.cons rfl .nil))) (back_of fun _ _ q => q) fun _ _ q => q)
theorem rc_ownI {op : CmpOp} {j : Int} {pins : List (Addr × Obj)} {σ : L2.St} {I H : Hp} {sh : Shared} {v w : V} {v' w' : Value} {Q : VK} (hu : X.A.units < cLine) (hT : IsIns T Cl x) (ob : CmpB X.K Cl op f) (hc : CV X (.ref f) [⟨α, T, x⟩, ⟨Int, tInt, j⟩] M T'' z M')
    (s : Same I H) (o : Own M I H) (r1 : T.r I v x) (r2 : tInt.r I w j) (k : ∀ u I' H', Go I H M I' H' M' → T''.r I' u z → Q u H') (iv : Inv X pins σ H sh) (rv : RelV v v') (rw : RelV w w') : wpAny (model X.prog X.w) X.A (richCompare op v' w') (EP X pins σ Q) X.xe sh := by
  obtain ⟨a, dx, fs, rfl, h1⟩ := hT I v r1
  cases r2
  obtain rfl : v' = Value.ref a := rv
  obtain ⟨t, rfl⟩ := rw
  obtain ⟨m, F⟩ := iv.fr
  obtain ⟨od, J⟩ := ins_at iv (s _ _ h1)
  exact PySem.W.cmp_K (tb := .type "int") hu F iv.ok.mod.kin J (PySem.W.Looks.of_pure (by rfl)) (by unfold PySem.W.notFirst; rw [ob.su]; rfl) ob.at_ ob.fn (wpAny_mono (hc I H [.ref a, .int j] Q s o ⟨r1, rfl, trivial⟩ k pins sh σ [.ref a, .int j t] iv (.cons rfl (.cons ⟨t, rfl⟩ .nil))) (back_of fun _ _ q => q) fun _ _ q => q)
end
end FL
set_option maxHeartbeats 4000000
namespace FL
open PySem L2 PyProof.Rows
open PySem.AutoSeq1 (wpAny_loadPart')

section
variable (i : Int) (t : Tok) (l : Addr) (c : Value) (dd : Option Addr) (sl : Array (Option Value))
local macro_rules | `(tactic| walk_at "dec") => `(tactic| exact .of_wp fun prog w A R s h => by obtain ⟨hp, g, d, tk, os⟩ := s; obtain ⟨hl, h⟩ := h; wp_walk using wpAny_loadPart' hl, wpAny_load hl; exact ⟨_, rfl, h⟩)
theorem dec_add : Meets (Builtin.«int.__add__» ⟨[.int i t, .ref l], []⟩) (fun _ R s => s.heap.get? l = some { cls := c, dict := dd, data := .plain, slots := sl } ∧ R (.ok (.ret .notImplemented)) s) := by walk_at "dec"
theorem dec_sub : Meets (Builtin.«int.__sub__» ⟨[.int i t, .ref l], []⟩) (fun _ R s => s.heap.get? l = some { cls := c, dict := dd, data := .plain, slots := sl } ∧ R (.ok (.ret .notImplemented)) s) := by walk_at "dec"
theorem dec_mul : Meets (Builtin.«int.__mul__» ⟨[.int i t, .ref l], []⟩) (fun _ R s => s.heap.get? l = some { cls := c, dict := dd, data := .plain, slots := sl } ∧ R (.ok (.ret .notImplemented)) s) := by walk_at "dec"
theorem dec_floordiv : Meets (Builtin.«int.__floordiv__» ⟨[.int i t, .ref l], []⟩) (fun _ R s => s.heap.get? l = some { cls := c, dict := dd, data := .plain, slots := sl } ∧ R (.ok (.ret .notImplemented)) s) := by walk_at "dec"
theorem dec_mod : Meets (Builtin.«int.__mod__» ⟨[.int i t, .ref l], []⟩) (fun _ R s => s.heap.get? l = some { cls := c, dict := dd, data := .plain, slots := sl } ∧ R (.ok (.ret .notImplemented)) s) := by walk_at "dec"
theorem dec_lt : Meets (Builtin.«int.__lt__» ⟨[.int i t, .ref l], []⟩) (fun _ R s => s.heap.get? l = some { cls := c, dict := dd, data := .plain, slots := sl } ∧ R (.ok (.ret .notImplemented)) s) := by walk_at "dec"
theorem dec_le : Meets (Builtin.«int.__le__» ⟨[.int i t, .ref l], []⟩) (fun _ R s => s.heap.get? l = some { cls := c, dict := dd, data := .plain, slots := sl } ∧ R (.ok (.ret .notImplemented)) s) := by walk_at "dec"
theorem dec_gt : Meets (Builtin.«int.__gt__» ⟨[.int i t, .ref l], []⟩) (fun _ R s => s.heap.get? l = some { cls := c, dict := dd, data := .plain, slots := sl } ∧ R (.ok (.ret .notImplemented)) s) := by walk_at "dec"
theorem dec_ge : Meets (Builtin.«int.__ge__» ⟨[.int i t, .ref l], []⟩) (fun _ R s => s.heap.get? l = some { cls := c, dict := dd, data := .plain, slots := sl } ∧ R (.ok (.ret .notImplemented)) s) := by walk_at "dec"
end

structure IntOp (op : Operator) (id : String) (B : Builtin) : Prop where
  fills : fillsNumberSlot (.type "int") op.info.2 = pure true
  slot : Slot "int" (PySem.dunder op.info.2) id
  entry : entryFor table id = some B
  args : ∀ a b : Value, argsOk id ⟨[a, b], []⟩
  dec : ∀ (i : Int) (t : Tok) (l : Addr) (c : Value) (dd : Option Addr) (sl : Array (Option Value)), Meets (B ⟨[.int i t, .ref l], []⟩) (fun _ R s => s.heap.get? l = some { cls := c, dict := dd, data := .plain, slots := sl } ∧ R (.ok (.ret .notImplemented)) s)
theorem io_add : IntOp .Add "int.__add__" Builtin.«int.__add__» := ⟨F.fills_int_add, F.slot_int_add, F.entry_int_add, F.args_int_add_2, dec_add⟩
theorem io_sub : IntOp .Sub "int.__sub__" Builtin.«int.__sub__» := ⟨F.fills_int_sub, F.slot_int_sub, F.entry_int_sub, F.args_int_sub_2, dec_sub⟩
theorem io_mul : IntOp .Mult "int.__mul__" Builtin.«int.__mul__» := ⟨F.fills_int_mul, F.slot_int_mul, F.entry_int_mul, F.args_int_mul_2, dec_mul⟩
theorem io_floordiv : IntOp .FloorDiv "int.__floordiv__" Builtin.«int.__floordiv__» := ⟨F.fills_int_floordiv, F.slot_int_floordiv, F.entry_int_floordiv, F.args_int_floordiv_2, dec_floordiv⟩
theorem io_mod : IntOp .Mod "int.__mod__" Builtin.«int.__mod__» := ⟨F.fills_int_mod, F.slot_int_mod, F.entry_int_mod, F.args_int_mod_2, dec_mod⟩
structure CmpI (op : CmpOp) (id : String) (B : Builtin) : Prop where
  slot : Slot "int" (cmpInfo op).2.1 id
  entry : entryFor table id = some B
  args : ∀ a b : Value, argsOk id ⟨[a, b], []⟩
  dec : ∀ (i : Int) (t : Tok) (l : Addr) (c : Value) (dd : Option Addr) (sl : Array (Option Value)), Meets (B ⟨[.int i t, .ref l], []⟩) (fun _ R s => s.heap.get? l = some { cls := c, dict := dd, data := .plain, slots := sl } ∧ R (.ok (.ret .notImplemented)) s)
theorem ci_lt : CmpI .Lt "int.__lt__" Builtin.«int.__lt__» := ⟨F.slot_int_lt, F.entry_int_lt, F.args_int_lt_2, dec_lt⟩
theorem ci_le : CmpI .LtE "int.__le__" Builtin.«int.__le__» := ⟨F.slot_int_le, F.entry_int_le, F.args_int_le_2, dec_le⟩
theorem ci_gt : CmpI .Gt "int.__gt__" Builtin.«int.__gt__» := ⟨F.slot_int_gt, F.entry_int_gt, F.args_int_gt_2, dec_gt⟩
theorem ci_ge : CmpI .GtE "int.__ge__" Builtin.«int.__ge__» := ⟨F.slot_int_ge, F.entry_int_ge, F.args_int_ge_2, dec_ge⟩
structure OpRf (K : PySem.W.Frag) (C : Addr) (op : Operator) (g : Addr) : Prop where
  sf : PySem.W.selfFirst K C = true
  fw : ∃ f : Addr, PySem.W.findIn K (.ref C) (PySem.dunder op.info.2) = some (some (.ref f))
  at_ : PySem.W.findIn K (.ref C) (dunderR op.info.2) = some (some (.ref g))
  fn : PySem.W.isFn K (.ref g) = true
  su : PySem.W.subIn K (.ref C) (.type "int") = some false
section
variable {prog : Program} {w : World} {A : Around} {E : Value → Shared → Prop} {s : Shared} {K : PySem.W.Frag} {C x g : Addr} {ox : Obj} {od : Option Obj} {op : Operator} {id : String} {B : Builtin} {i : Int} {t : Tok} {Q : Value → Shared → Prop} {dd : Option Addr} {sl : Array (Option Value)}
open PySem.W in
theorem binop_refl (X : K.In s.heap) (J : PySem.W.InstAt s.heap x ox C od) (hx : s.heap.get? x = some { cls := .ref C, dict := dd, data := .plain, slots := sl }) (io : IntOp op id B) (rf : OpRf K C op g)
    (h : wpAny (model prog w) A (call (.ref g) [.ref x, .int i t]) (PySem.W.CmpBack Q) E s) : wpAny (model prog w) A (binaryOp op (.int i t) (.ref x)) Q E s := by
  obtain ⟨cd, rest, hcd, hm⟩ := PySem.W.ksp_first rf.sf
  obtain ⟨f, hf⟩ := rf.fw
  have two := PySem.W.ksp_try X J rf.at_ rf.fn h
  have one : wpAny (model prog w) A (tryMethod (.int i t) (PySem.dunder op.info.2) (.ref x)) (fun r s' => r = none ∧ s' = s) E s :=
    wpAny_tryMethod_declines (typeIs_int s i t) io.slot (call_meets io.slot (typeIs_int s i t) io.entry (io.args _ _) (io.dec i t x _ dd sl) ⟨hx, rfl, rfl, rfl⟩)
  have L1 : PySem.W.Looks (model prog w) s.heap (typeOf (.int i t)) (.type "int") := PySem.W.Looks.of_pure (by rfl)
  have L2 : PySem.W.Looks (model prog w) s.heap (typeOf (.ref x)) (.ref C) := J.type
  have L3 : PySem.W.Looks (model prog w) s.heap (fillsNumberSlot (.type "int") op.info.2) true := PySem.W.Looks.of_pure io.fills
  have L4 : PySem.W.Looks (model prog w) s.heap (fillsNumberSlot (.ref C) op.info.2) true := PySem.W.fills_K X hcd hm hf
  have L5 : PySem.W.Looks (model prog w) s.heap (isSubtype (.ref C) (.type "int")) false := PySem.W.looks_subIn X rf.su
  have hne : (Value.type "int" == Value.ref C) = false := Bool.eq_false_iff.mpr fun q => by cases beq_iff_eq.mp q
  rcases hi : op.info with ⟨sym, nm'⟩
  rw [hi] at one two L3 L4
  simp only [binaryOp, hi]
  refine wpAny_holding (wpAny_bind ?_)
  unfold binaryOp1
  refine wpAny_bind (L1.here (wpAny_bind (L2.here (wpAny_bind (L3.here ?_)))))
  simp only [hne, Bool.false_eq_true, if_false]
  refine wpAny_bind (L4.here ?_)
  simp only [Bool.and_self, if_true]
  refine wpAny_bind (L5.here ?_)
  have hpy : numberSlotInPython (.type "int") nm' = pure false := rfl
  simp only [Bool.false_eq_true, if_false, pure_bind, Bool.not_false, Bool.and_self, if_true, hpy]
  refine wpAny_bind (wpAny_mono one (fun r s' hr => ?_) fun _ _ e => e)
  obtain ⟨rfl, rfl⟩ := hr
  dsimp only
  refine wpAny_bind (wpAny_mono two (fun r s' hr => ?_) fun _ _ e => e)
  obtain ⟨v, rfl, hq⟩ := hr
  exact wpAny_bind (wpAny_rule (wpAny_pure (wpAny_pure hq)))
structure CmpRf (K : PySem.W.Frag) (C : Addr) (op : CmpOp) (g : Addr) : Prop where
  at_ : PySem.W.findIn K (.ref C) (cmpInfo op).2.2 = some (some (.ref g))
  fn : PySem.W.isFn K (.ref g) = true
  su : PySem.W.subIn K (.ref C) (.type "int") = some false
theorem rc_refl {op : CmpOp} (hu : A.units < cLine) (X : K.In s.heap) (J : PySem.W.InstAt s.heap x ox C od) (hx : s.heap.get? x = some { cls := .ref C, dict := dd, data := .plain, slots := sl }) (io : CmpI op id B) (rf : CmpRf K C op g)
    (h : wpAny (model prog w) A (call (.ref g) [.ref x, .int i t]) (PySem.W.CmpBack Q) E s) : wpAny (model prog w) A (richCompare op (.int i t) (.ref x)) Q E s := by
  have two : wpAny (model prog w) A (tryCompare (.ref x) (cmpInfo op).2.2 (.int i t)) (fun r s' => ∃ v, r = some v ∧ Q v s') E s := by
    unfold tryCompare
    refine wpAny_bind (PySem.W.ifBound_K X J rf.at_ rf.fn (wpAny_mono h (fun v s' hv => ?_) fun _ _ e => e))
    cases v <;> first | exact hv.elim | exact wpAny_pure ⟨_, rfl, hv⟩
  have one : wpAny (model prog w) A (tryCompare (.int i t) (cmpInfo op).2.1 (.ref x)) (fun r s' => r = none ∧ s' = s) E s :=
    wpAny_tryCompare_declines (typeIs_int s i t) io.slot (call_meets io.slot (typeIs_int s i t) io.entry (io.args _ _) (io.dec i t x _ dd sl) ⟨hx, rfl, rfl, rfl⟩)
  have L1 : PySem.W.Looks (model prog w) s.heap (typeOf (.int i t)) (.type "int") := PySem.W.Looks.of_pure (by rfl)
  have L5 : PySem.W.Looks (model prog w) s.heap (isSubtype (.ref C) (.type "int")) false := PySem.W.looks_subIn X rf.su
  have hne : (Value.type "int" != Value.ref C) = true := by
    have h0 : (Value.type "int" == Value.ref C) = false := Bool.eq_false_iff.mpr fun q => by cases beq_iff_eq.mp q
    show (!(Value.type "int" == Value.ref C)) = true
    rw [h0]; rfl
  unfold richCompare
  have ot : oneThing? op (.int i t) (.ref x) = none := by
    first | rfl | (unfold oneThing?; cases op <;> rfl)
  simp only [ot]
  refine wpAny_holding (wpAny_bind (wpAny_cRoomFor hu ?_))
  refine wpAny_bind (L1.here (wpAny_bind (J.type.here ?_)))
  simp only [hne, if_true]
  refine wpAny_bind (L5.here ?_)
  simp only [Bool.false_eq_true, if_false, Bool.not_false, if_true]
  refine wpAny_bind (wpAny_mono one (fun r s' hr => ?_) fun _ _ e => e)
  obtain ⟨rfl, rfl⟩ := hr
  dsimp only
  refine wpAny_bind (wpAny_mono two (fun r s' hr => ?_) fun _ _ e => e)
  obtain ⟨v, rfl, hq⟩ := hr
  exact wpAny_pure hq
end

structure NeB (K : PySem.W.Frag) (C : Addr) (f : Addr) : Prop where
  ne : PySem.W.findIn K (.ref C) "__ne__" = some (some (.builtin "object.__ne__"))
  eq : PySem.W.findIn K (.ref C) "__eq__" = some (some (.ref f))
  fn : PySem.W.isFn K (.ref f) = true
  ob : PySem.W.mroIn K C (.type "object") = some true
  su : PySem.W.subIn K (.type "int") (.ref C) = some false
section
variable {prog : Program} {w : World} {A : Around} {E : Value → Shared → Prop} {s : Shared} {K : PySem.W.Frag} {C x f : Addr} {ox : Obj} {od : Option Obj} {b : Value}
theorem ne_entry (nb : NeB K C f) (X : K.In s.heap) (J : PySem.W.InstAt s.heap x ox C od) (hu : A.units < cLine) {Q : Fin → Shared → Prop}
    (hcall : wpAny (model prog w) A (call (.ref f) [.ref x, b]) (fun v s' => ∃ k, v = .bool k ∧ Q (.done (.ret (.bool (!k)))) s') E s) :
    wpAny (model prog w) A (Builtin.«object.__ne__» ⟨[.ref x, b], []⟩) Q E s := by
  obtain ⟨h, g, d, t, os⟩ := s
  unfold Builtin.«object.__ne__»
  repeat (first
    | with_reducible refine wpAny_cRoomFor hu ?_
    | (refine wpAny_bind (m := callSpecialIfBound? (.ref x) (Str.ofString "__eq__") [b])
        (PySem.W.ifBound_K X J nb.eq nb.fn (wpAny_mono hcall (fun r s' hr => by
          obtain ⟨k, rfl, hq⟩ := hr
          repeat (first | exact hq | exact wpAny_pure hq | exact wpAny_truthy_bool hq | (refine wpAny_bind (m := truthy (.bool _)) (wpAny_truthy_bool ?_)) | wp_step)) fun _ _ e => e)))
    | wp_step)
theorem tryNe (nb : NeB K C f) (X : K.In s.heap) (J : PySem.W.InstAt s.heap x ox C od) (hu : A.units + 1 < cLine) {Q : Option Value → Shared → Prop}
    (hcall : wpAny (model prog w) A.in1 (call (.ref f) [.ref x, b]) (fun v s' => ∃ k, v = .bool k ∧ Q (some (.bool (!k))) s') E s) :
    wpAny (model prog w) A (tryCompare (.ref x) "__ne__" b) Q E s := by
  have hb : ∀ self, bindSpecial (.builtin "object.__ne__") self = pure (.builtin "object.__ne__", [self]) := F.cmp_object.ne.bind
  have one : wpAny (model prog w) A (call (.builtin "object.__ne__") [.ref x, b]) (fun v s' => ∃ k, v = .bool k ∧ Q (some (.bool k)) s') E s := by
    refine wpAny_call (codeAny_call_builtin F.cmp_object.ne.plain F.cmpEntry_ne (PySem.W.check_slot F.cmpKind_ne F.cmpSplit_ne (J.type.andThen (PySem.W.looks_mroIn X nb.ob)) (F.cmpArgs_ne _ _)
      (ne_entry (A := A.in1) nb X J hu (wpAny_mono hcall (fun v s' hv => ?_) fun _ _ e => e))))
    obtain ⟨k, rfl, hq⟩ := hv
    exact ⟨k, rfl, !k, rfl, hq⟩
  have bnd : wpAny (model prog w) A (callSpecialIfBound? (.ref x) "__ne__" [b]) (fun r s' => ∃ k, r = some (.bool k) ∧ Q (some (.bool k)) s') E s := by
    simp only [callSpecialIfBound?, bindSpecialIfBound?]
    refine wpAny_holding (wpAny_bind (wpAny_bind (wpAny_bind (J.type.here ((PySem.W.looks_findIn X nb.ne).here ?_)))))
    refine wpAny_bind (wpAny_askSetting (wpAny_ite ?_))
    have fin : wpAny (model prog w) A (call (.builtin "object.__ne__") ([.ref x] ++ [b]) >>= fun v => pure (some v)) (fun r s' => ∃ k, r = some (.bool k) ∧ Q (some (.bool k)) s') E s :=
      wpAny_bind (wpAny_mono one (fun v s' h' => wpAny_pure (by obtain ⟨k, rfl, q⟩ := h'; exact ⟨k, rfl, q⟩)) fun _ _ h' => h')
    split
    · exact wpAny_bind (wpAny_of_eq (hb _) (wpAny_pure (by exact fin)))
    · exact wpAny_tryCatch (wpAny_bind (wpAny_of_eq (hb _) (wpAny_pure (by exact fin))))
  unfold tryCompare
  refine wpAny_bind (wpAny_mono bnd (fun r s' z => ?_) fun _ _ e => e)
  obtain ⟨k, rfl, q⟩ := z
  exact wpAny_pure q
theorem rc_ne {tb : Value} (nb : NeB K C f) (hb : PySem.W.Looks (model prog w) s.heap (typeOf b) tb) (hn : PySem.W.notFirst K C tb = true) (X : K.In s.heap) (J : PySem.W.InstAt s.heap x ox C od) (hu : A.units + 1 < cLine) {Q : Value → Shared → Prop}
    (hcall : wpAny (model prog w) A.in1 (call (.ref f) [.ref x, b]) (fun v s' => ∃ k, v = .bool k ∧ Q (.bool (!k)) s') E s) :
    wpAny (model prog w) A (richCompare .NotEq (.ref x) b) Q E s := by
  have one : wpAny (model prog w) A (tryCompare (.ref x) "__ne__" b) (fun r s' => ∃ v, r = some v ∧ Q v s') E s :=
    tryNe nb X J hu (wpAny_mono hcall (fun v s' hv => by obtain ⟨k, e, q⟩ := hv; exact ⟨k, e, _, rfl, q⟩) fun _ _ e => e)
  unfold richCompare
  simp only [oneThing_ref, cmpInfo]
  refine wpAny_holding (wpAny_bind (wpAny_cRoomFor (Nat.lt_of_succ_lt hu) ?_))
  refine wpAny_bind (J.type.here (wpAny_bind (hb.here ?_)))
  split
  · rename_i q
    have e : PySem.W.subIn K tb (.ref C) = some false := by
      rcases Bool.or_eq_true_iff.mp hn with e | e
      · rw [beq_iff_eq.mp e] at q; simp at q
      · exact beq_iff_eq.mp e
    refine wpAny_bind ((PySem.W.looks_subIn X e).here ?_)
    simp only [Bool.false_eq_true, if_false]
    refine wpAny_bind (wpAny_mono one (fun r s' z => ?_) fun _ _ e => e)
    obtain ⟨v, rfl, hq⟩ := z
    exact wpAny_pure hq
  · refine wpAny_bind (wpAny_pure ?_)
    simp only [Bool.false_eq_true, if_false]
    refine wpAny_bind (wpAny_mono one (fun r s' z => ?_) fun _ _ e => e)
    obtain ⟨v, rfl, hq⟩ := z
    exact wpAny_pure hq
end
end FL
set_option maxHeartbeats 4000000
namespace FL
open PySem L2 PyProof.Rows

section
variable {prog : Program} {w : World} {A : Around} {E : Value → Shared → Prop} {s : Shared} {K : PySem.W.Frag} {C x f : Addr} {ox : Obj} {od : Option Obj}
def BB (Q : Value → Shared → Prop) (v : Value) (s' : Shared) : Prop := ∃ k, v = .bool k ∧ Q (.bool k) s'
theorem ktruthy {M : Model} {Q : Bool → Shared → Prop} (X : K.In s.heap) (J : PySem.W.InstAt s.heap x ox C od) (hs : PySem.W.findIn K (.ref C) "__bool__" = some (some (.ref f))) (hf : PySem.W.isFn K (.ref f) = true)
    (h : wpAny M A (call (.ref f) [.ref x]) (fun v s' => ∃ k, v = .bool k ∧ Q k s') E s) : wpAny M A (truthy (.ref x)) Q E s := by
  unfold truthy
  refine wpAny_bind (m := callSpecial? (.ref x) (Str.ofString "__bool__")) (PySem.W.special_fn X J hs (beq_iff_eq.mp hf) (wpAny_mono h (fun r s' hr => ?_) fun _ _ y => y))
  obtain ⟨k, rfl, q⟩ := hr
  exact wpAny_pure q
theorem kbo_call {Q : Value → Shared → Prop} (X : K.In s.heap) (J : PySem.W.InstAt s.heap x ox C od) (hs : PySem.W.findIn K (.ref C) "__bool__" = some (some (.ref f))) (hf : PySem.W.isFn K (.ref f) = true)
    (h : wpAny (model prog w) A.in1.in1 (call (.ref f) [.ref x]) (BB Q) E s) : wpAny (model prog w) A (call (.type "bool") [.ref x]) Q E s := by
  refine callType_codes (T := "bool") (Bi := Builtin.«object.__init__») (Q₁ := BB Q) PySem.F.called_bool (PySem.F.typeCall_bool_1 _) PySem.F.entry_object_init ?_ ?_
  · refine codeAny_of_tree ?_
    show wpAny _ A.in1.in1 (do checkBuiltinCall "bool.__new__" ⟨[.type "bool", .ref x], []⟩; again (.builtin "bool.__new__" ⟨[.type "bool", .ref x], []⟩)) _ _ s
    refine wpAny_bind (wpAny_of_eq (PySem.F.newCall_bool_1 _) (wpAny_pure ⟨plainId_quiet (by decide +kernel) _, codeAny_builtin PySem.F.entry_bool_new ?_⟩))
    rw [Around.under_plainId (by decide +kernel) _]
    have tr : wpAny (model prog w) A.in1.in1 (truthy (.ref x)) (fun k s' => Q (.bool k) s') E s := ktruthy X J hs hf (wpAny_mono h (fun v s' hv => hv) fun _ _ y => y)
    obtain ⟨hp, g, d, tk, os⟩ := s
    have f1 := PySem.F.conv_sub_bool
    unfold Builtin.«bool.__new__»
    repeat (any_goals (first | assumption | (refine wpAny_bind (m := truthy (.ref x)) (wpAny_mono tr (fun k s' hk => ?_) fun _ _ y => y)) | wp_step))
    all_goals first | exact ⟨_, rfl, hk⟩ | exact ⟨_, rfl, _, rfl, hk⟩ | skip
  · rintro obj s₁ ⟨k, rfl, hq⟩
    have ti : s₁.TypeIs (.bool k) "bool" := rfl
    exact ⟨ti, PySem.F.args_object_init_2 _ _, object_init_meets PySem.F.called_bool.init.lookup PySem.F.called_bool.made (by decide) prog w A.in1 _ s₁ ⟨ti, rfl, hq⟩⟩
theorem kabs_call {Q : Value → Shared → Prop} (X : K.In s.heap) (J : PySem.W.InstAt s.heap x ox C od) (hs : PySem.W.findIn K (.ref C) "__abs__" = some (some (.ref f))) (hf : PySem.W.isFn K (.ref f) = true)
    (h : wpAny (model prog w) A.in1 (call (.ref f) [.ref x]) Q E s) : wpAny (model prog w) A (call (.builtin "abs") [.ref x]) Q E s := by
  refine PySem.Calls.call_function_entry kind_abs plain_abs entry_abs (args_abs _) ?_
  unfold Builtin.«abs»
  refine wpAny_bind (m := oneArg "abs" _) (wpAny_pure ?_)
  refine wpAny_bind (m := callSpecial? (.ref x) (Str.ofString "__abs__")) (PySem.W.special_fn X J hs (beq_iff_eq.mp hf) (wpAny_mono h (fun v s' hv => ?_) fun _ _ y => y))
  first | exact wpAny_pure hv | exact wpAny_pure ⟨_, rfl, hv⟩ | exact hv
end
abbrev CxIn (X : Cx) : Cx := { X with A := X.A.in1 }
section
variable {X : Cx} {pins : List (Addr × Obj)} {σ : L2.St} {H : Hp} {s : Shared} {Q : VK}
theorem ok_in (o : X.Ok) : (CxIn X).Ok := ⟨o.mod, o.kind, o.glob, o.blt, o.above, o.inj, o.has, o.cab, o.hd, o.frames, o.stk, o.exf, o.bs, o.bsz, o.noex, o.exfs, o.funs, o.frf⟩
theorem inv_in (I : Inv X pins σ H s) : Inv (CxIn X) pins σ H s := ⟨ok_in I.ok, I.os, I.bare, I.base, I.loc, I.cell, I.free, I.freeC, I.pin, I.hok, I.len⟩
theorem inv_out (o : X.Ok) (I : Inv (CxIn X) pins σ H s) : Inv X pins σ H s := ⟨o, I.os, I.bare, I.base, I.loc, I.cell, I.free, I.freeC, I.pin, I.hok, I.len⟩
theorem ep_out (o : X.Ok) {v : Value} (h : EP (CxIn X) pins σ Q v s) : EP X pins σ Q v s := let ⟨x, H', I, r, q⟩ := h; ⟨x, H', inv_out o I, r, q⟩
end
section
variable {X : Cx} {M M' : Mem} {α β δ : Type} {T : FTy α} {T' : FTy β} {T'' : FTy δ} {x : α} {y : β} {z : δ} {C f g : Addr} {k : Bool} {j : Int}
theorem ov_cmpO {op : CmpOp} (hop : ∀ (a b : Value), compareOp op a b = richCompare op a b) (hu : X.A.units < cLine) (hT : IsIns T C x) (hT' : IsIns T' C y) (ob : CmpB X.K C op f) (hc : CV X (.ref f) [⟨α, T, x⟩, ⟨β, T', y⟩] M T'' z M') : OV X (compareOp op) M T x T' y T'' z M' := fun I H v w Q s o r1 r2 k pins sh σ v' w' iv rv rw => by
  rw [hop]
  exact rc_own hu hT hT' ob hc s o r1 r2 k iv rv rw
theorem ov_cmpOI {op : CmpOp} (hop : ∀ (a b : Value), compareOp op a b = richCompare op a b) (hu : X.A.units < cLine) (hT : IsIns T C x) (ob : CmpB X.K C op f) (hc : CV X (.ref f) [⟨α, T, x⟩, ⟨Int, tInt, j⟩] M T'' z M') : OV X (compareOp op) M T x tInt j T'' z M' := fun I H v w Q s o r1 r2 k pins sh σ v' w' iv rv rw => by
  rw [hop]
  exact rc_ownI hu hT ob hc s o r1 r2 k iv rv rw
theorem ov_cmpIO {op : CmpOp} {id : String} {B : Builtin} (hop : ∀ (a b : Value), compareOp op a b = richCompare op a b) (hu : X.A.units < cLine) (io : CmpI op id B) (hT : IsIns T C x) (rf : CmpRf X.K C op g) (hc : CV X (.ref g) [⟨α, T, x⟩, ⟨Int, tInt, j⟩] M T'' z M') : OV X (compareOp op) M tInt j T x T'' z M' := fun I H v w Q s o r1 r2 k pins sh σ v' w' iv rv rw => by
  rw [hop]
  obtain ⟨a, dx, fs, rfl, h1⟩ := hT I w r2
  cases r1
  obtain rfl : w' = Value.ref a := rw
  obtain ⟨t, rfl⟩ := rv
  obtain ⟨mA, O, _⟩ := ins_get iv.hok (s _ _ h1)
  obtain ⟨od, J, _⟩ := O.look
  exact rc_refl hu iv.kIn J O.obj io rf (wpAny_mono (hc I H [.ref a, .int j] Q s o ⟨r2, rfl, trivial⟩ k pins sh σ [.ref a, .int j t] iv (.cons rfl (.cons ⟨t, rfl⟩ .nil))) (back_of fun _ _ q => q) fun _ _ q => q)
theorem ov_refl {op : Operator} {id : String} {B : Builtin} (io : IntOp op id B) (hT : IsIns T C x) (rf : OpRf X.K C op g) (hc : CV X (.ref g) [⟨α, T, x⟩, ⟨Int, tInt, j⟩] M T'' z M') : OV X (binaryOp op) M tInt j T x T'' z M' := fun I H v w Q s o r1 r2 k pins sh σ v' w' iv rv rw => by
  obtain ⟨a, dx, fs, rfl, h1⟩ := hT I w r2
  cases r1
  obtain rfl : w' = Value.ref a := rw
  obtain ⟨t, rfl⟩ := rv
  obtain ⟨mA, O, _⟩ := ins_get iv.hok (s _ _ h1)
  obtain ⟨od, J, _⟩ := O.look
  exact binop_refl iv.kIn J O.obj io rf (wpAny_mono (hc I H [.ref a, .int j] Q s o ⟨r2, rfl, trivial⟩ k pins sh σ [.ref a, .int j t] iv (.cons rfl (.cons ⟨t, rfl⟩ .nil))) (back_of fun _ _ q => q) fun _ _ q => q)
theorem op_rcEq (a b : Value) : compareOp .Eq a b = richCompare .Eq a b := rfl
theorem op_rcNe (a b : Value) : compareOp .NotEq a b = richCompare .NotEq a b := rfl
theorem op_rcLt (a b : Value) : compareOp .Lt a b = richCompare .Lt a b := rfl
theorem op_rcLe (a b : Value) : compareOp .LtE a b = richCompare .LtE a b := rfl
theorem op_rcGt (a b : Value) : compareOp .Gt a b = richCompare .Gt a b := rfl
theorem op_rcGe (a b : Value) : compareOp .GtE a b = richCompare .GtE a b := rfl
theorem ov_neO (hu : X.A.units + 1 < cLine) (hT : IsIns T C x) (hT' : IsIns T' C y) (nb : NeB X.K C f) (hc : CV (CxIn X) (.ref f) [⟨α, T, x⟩, ⟨β, T', y⟩] M tBl k M') : OV X (compareOp .NotEq) M T x T' y tBl (!k) M' := fun I H v w Q s o r1 r2 q pins sh σ v' w' iv rv rw => by
  obtain ⟨a, dx, fs, rfl, h1⟩ := hT I v r1
  obtain ⟨b, dx2, fs2, rfl, h2⟩ := hT' I w r2
  obtain rfl : v' = Value.ref a := rv
  obtain rfl : w' = Value.ref b := rw
  obtain ⟨od, J⟩ := ins_at iv (s _ _ h1)
  obtain ⟨od2, J2⟩ := ins_at iv (s _ _ h2)
  refine rc_ne nb J2.type (by unfold PySem.W.notFirst; simp) iv.kIn J hu (wpAny_mono (hc I H [.ref a, .ref b] (fun u H' => u = .bl k ∧ Q (.bl (!k)) H') s o ⟨r1, r2, trivial⟩ (fun u I' H' g r => ⟨r, q _ I' H' g rfl⟩) pins sh σ [.ref a, .ref b] (inv_in iv) (.cons rfl (.cons rfl .nil))) (fun v s' hv => ?_) fun _ _ q => q)
  obtain ⟨u, H', iv', rr, rfl, hq⟩ := hv
  exact ⟨k, rr, .bl (!k), H', inv_out iv.ok iv', rfl, hq⟩
theorem ov_neOI (hu : X.A.units + 1 < cLine) (hT : IsIns T C x) (nb : NeB X.K C f) (hc : CV (CxIn X) (.ref f) [⟨α, T, x⟩, ⟨Int, tInt, j⟩] M tBl k M') : OV X (compareOp .NotEq) M T x tInt j tBl (!k) M' := fun I H v w Q s o r1 r2 q pins sh σ v' w' iv rv rw => by
  obtain ⟨a, dx, fs, rfl, h1⟩ := hT I v r1
  cases r2
  obtain rfl : v' = Value.ref a := rv
  obtain ⟨t, rfl⟩ := rw
  obtain ⟨od, J⟩ := ins_at iv (s _ _ h1)
  refine rc_ne (tb := .type "int") nb (PySem.W.Looks.of_pure (by rfl)) (by unfold PySem.W.notFirst; rw [nb.su]; rfl) iv.kIn J hu (wpAny_mono (hc I H [.ref a, .int j] (fun u H' => u = .bl k ∧ Q (.bl (!k)) H') s o ⟨r1, rfl, trivial⟩ (fun u I' H' g r => ⟨r, q _ I' H' g rfl⟩) pins sh σ [.ref a, .int j t] (inv_in iv) (.cons rfl (.cons ⟨t, rfl⟩ .nil))) (fun v s' hv => ?_) fun _ _ q => q)
  obtain ⟨u, H', iv', rr, rfl, hq⟩ := hv
  exact ⟨k, rr, .bl (!k), H', inv_out iv.ok iv', rfl, hq⟩
structure SpB (K : PySem.W.Frag) (C : Addr) (m : Str) (f : Addr) : Prop where
  at_ : PySem.W.findIn K (.ref C) m = some (some (.ref f))
  fn : PySem.W.isFn K (.ref f) = true
theorem uv_negO (hT : IsIns T C x) (sb : SpB X.K C "__neg__" f) (hc : CV X (.ref f) [⟨α, T, x⟩] M T'' z M') : UV X (unaryOp .USub) M T x T'' z M' := fun I H v Q s o r1 k pins sh σ v' iv rv => by
  obtain ⟨a, dx, fs, rfl, h1⟩ := hT I v r1
  obtain rfl : v' = Value.ref a := rv
  obtain ⟨m, F⟩ := iv.fr
  obtain ⟨od, J⟩ := ins_at iv (s _ _ h1)
  exact PySem.W.ksp_neg F iv.ok.mod.kin J sb.at_ sb.fn (hc I H [.ref a] Q s o ⟨r1, trivial⟩ k pins sh σ [.ref a] iv (.cons rfl .nil))
theorem cv_absO (hT : IsIns T C x) (sb : SpB X.K C "__abs__" f) (hc : CV (CxIn X) (.ref f) [⟨α, T, x⟩] M T'' z M') : CV X (.builtin "abs") [⟨α, T, x⟩] M T'' z M' := fun I H vs Q s o rr k pins sh σ us iv rv => by
  obtain ⟨v, rfl, r1⟩ := frs1 rr
  obtain ⟨a, dx, fs, rfl, h1⟩ := hT I v r1
  obtain rfl := Vals.ref1 rv
  obtain ⟨od, J⟩ := ins_at iv (s _ _ h1)
  exact kabs_call iv.kIn J sb.at_ sb.fn (thn (hc I H [.ref a] Q s o ⟨r1, trivial⟩ k pins sh σ [.ref a] (inv_in iv) (.cons rfl .nil)) fun _ _ q => ep_out iv.ok q)
theorem cv_boolO (hT : IsIns T C x) (sb : SpB X.K C "__bool__" f) (hc : CV (CxIn (CxIn X)) (.ref f) [⟨α, T, x⟩] M tBl k M') : CV X (.type "bool") [⟨α, T, x⟩] M tBl k M' := fun I H vs Q s o rr q pins sh σ us iv rv => by
  obtain ⟨v, rfl, r1⟩ := frs1 rr
  obtain ⟨a, dx, fs, rfl, h1⟩ := hT I v r1
  obtain rfl := Vals.ref1 rv
  obtain ⟨od, J⟩ := ins_at iv (s _ _ h1)
  refine kbo_call iv.kIn J sb.at_ sb.fn (thn (hc I H [.ref a] (fun u H' => u = .bl k ∧ Q (.bl k) H') s o ⟨r1, trivial⟩ (fun u I' H' g r => ⟨r, q _ I' H' g rfl⟩) pins sh σ [.ref a] (inv_in (inv_in iv)) (.cons rfl .nil)) fun v s' hv => ?_)
  obtain ⟨u, H', iv', rr, rfl, hq⟩ := hv
  exact ⟨k, rr, .bl k, H', inv_out iv.ok (inv_out (ok_in iv.ok) iv'), rfl, hq⟩
theorem cv_strO {st : Str} (hu : X.A.units + 2 < cLine) (hT : IsIns T C x) (sb : SpB X.K C "__str__" f) (hc : CV (CxIn (CxIn X)) (.ref f) [⟨α, T, x⟩] M tStr st M') : CV X (.type "str") [⟨α, T, x⟩] M tStr st M' := fun I H vs Q s o rr q pins sh σ us iv rv => by
  obtain ⟨v, rfl, r1⟩ := frs1 rr
  obtain ⟨a, dx, fs, rfl, h1⟩ := hT I v r1
  obtain rfl := Vals.ref1 rv
  obtain ⟨od, J⟩ := ins_at iv (s _ _ h1)
  refine PySem.W.kso_call hu iv.kIn J sb.at_ sb.fn (thn (hc I H [.ref a] (fun u H' => u = .str st ∧ Q (.str st) H') s o ⟨r1, trivial⟩ (fun u I' H' g r => ⟨r, q _ I' H' g rfl⟩) pins sh σ [.ref a] (inv_in (inv_in iv)) (.cons rfl .nil)) fun v s' hv => ?_)
  obtain ⟨u, H', iv', rr, rfl, hq⟩ := hv
  obtain ⟨t, rfl⟩ := rr
  exact ⟨.str st, H', inv_out iv.ok (inv_out (ok_in iv.ok) iv'), ⟨t, rfl⟩, hq⟩
theorem et_own {e : Expr} {Γ : Gm} {M1 : Mem} (h : EV X e Γ M T x M1) (hT : IsIns T C x) (sb : SpB X.K C "__bool__" f) (hc : CV X (.ref f) [⟨α, T, x⟩] M1 tBl k M') (he : ∀ whole, isTrue e X.env whole = (do let v ← whole; standAt e.pos; holding [v] (truthy v)) := by intro _; rfl) : ET X e Γ M k M' := ET.mk fun σ I H Q g s o q pins sh iv =>
  isTrue_plain (thn (EV.go h σ I H (fun v H1 => ∀ (pins : List (Addr × Obj)) (s : Shared) (v' : Value), Inv X pins σ H1 s → RelV v v' → wpAny (model X.prog X.w) X.A (truthy v') (TP X pins σ Q) X.xe s) g s o (fun v I1 H1 g1 r1 pins s1 v' iv1 rv => by
    obtain ⟨a, dx, fs, rfl, h1⟩ := hT I1 v r1
    obtain rfl : v' = Value.ref a := rv
    obtain ⟨od, J⟩ := ins_at iv1 (g1.ih _ _ h1)
    refine ktruthy iv1.kIn J sb.at_ sb.fn (thn (hc I1 H1 [.ref a] (fun u H' => u = .bl k ∧ Q k H') g1.ih g1.own ⟨r1, trivial⟩ (fun u I' H' g r => ⟨r, q I' H' (g1.trans o g)⟩) pins s1 σ [.ref a] iv1 (.cons rfl .nil)) fun v s' hv => ?_)
    obtain ⟨u, H', iv', rr, rfl, hq⟩ := hv
    exact ⟨k, rr, H', iv', hq⟩) pins sh iv) fun v s1 ⟨x, H1, I1, r1, q1⟩ => q1 pins s1 v I1 r1) (he _)
end
end FL
set_option maxHeartbeats 4000000
namespace FL
open PySem L2 PyProof.Rows

section
variable {X : Cx} {W : WX} {Γ : Gm} {M M' M1 M2 M3 A B : Mem} {α β γ : Type} {T : FTy α} {T' : FTy β} {a b e o : Expr} {es : List Expr} {pos p p' : Pos} {ts : List FV} {x : α} {y : β} {Φ : Out → Prop} {C fI : Addr} {fl n : Str} {fs : List (Str × FV)}
def EM (X : Cx) (e : Expr) (Γ : Gm) (M : Mem) (x : Exn) (M' : Mem) : Prop :=
  ∀ (σ : L2.St) (I H : Hp) (Q : XK), EnvR I σ Γ → Same I H → Own M I H → (∀ cls d I' H', Go I H M I' H' M' → ExnR I' H' cls d x → Q cls d H') →
    ∀ (pins : List (Addr × Obj)) (s : Shared), Inv X pins σ H s → wpAny (model X.prog X.w) X.A (eval e X.env) (L2N.MkP X pins σ Q) X.xe s
theorem s_raise {ex : Exn} (hc : X.calm = true) (tk : L2N.Takes X W) (h : EM X e Γ M ex M1) (k : Φ (.exc ex Γ M1)) : S1 X W (.Raise (some e) none pos) Γ M Φ := fun σ I H D g s o q =>
  rdS_of (L2N.ps_raise (t := fun σ H Q => ∀ (pins : List (Addr × Obj)) (s : Shared), Inv X pins σ H s → wpAny (model X.prog X.w) X.A (eval e X.env) (L2N.MkP X pins σ Q) X.xe s) hc tk fun pins s σ H Q I h => h pins s I)
    (h σ I H _ g s o fun cls d I' H' g' r => (q _ k) cls d σ I' H' g' (g.mono g'.ii) r)
theorem em_exc0 (q : PySem.W.excIn X.K C [.type "ValueError", .type "Exception", .type "BaseException", .type "object"] "ValueError.__new__" = true) (kC : PySem.W.keepIn X.K (.ref C) = true) (r : Raises X (.ref C)) (gC : X.mg n = some (.ref C)) (hg : Gl X n := by rfl) (hdb : (n == ("__debug__" : Str)) = false := by decide) :
    EM X (.Call (.Name n p) [] [] pos) Γ M ⟨C, []⟩ M := fun σ I H Q g s o k pins sh iv => by
  refine wpAny_Call_Name_kw (ld_glob iv hg gC (PySem.W.callWith_K0 iv.kIn kC ?_) hdb)
  obtain ⟨bm, N, nm, qn, bs, hdct, sn, sub, ab, col, dd, k0, k1, k2, k3, k5, mN, hC, hN, hni, T⟩ := exc_obj iv.kIn q
  exact wpAny_call_exc_subT F.excBase_ValueError T hC hN hni (fun h' e hm => L2N.mk_of iv hm r (k _ _ I H (Go.refl s o) ⟨rfl, .inl ⟨rfl, rfl⟩⟩) (iv.hok.gone hm.new)) (by show (0 : Nat) ≤ sizeLine; exact Nat.zero_le _)

def cExo (a C : Addr) (d : Option Addr) : FC Unit := ⟨fun _ o _ => o = exo a C d, fun _ h => h⟩
def cExd (dx : Addr) (fs : List (Str × FV)) : FC Unit := ⟨fun I o _ => ∃ vs : List (Str × V), o = exd dx vs ∧ vs.map (·.1) = fs.map (·.1) ∧ FRs I (vs.map (·.2)) (fs.map (·.2)), fun e h => by
  obtain ⟨vs, h1, h2, h3⟩ := h
  exact ⟨vs, h1, h2, FRs.mono e h3⟩⟩
def cXd (fs : List (Str × FV)) : FC Unit := ⟨fun I o _ => ∃ vs : List (Str × V), o = .xd vs ∧ vs.map (·.1) = fs.map (·.1) ∧ FRs I (vs.map (·.2)) (fs.map (·.2)), fun e h => by
  obtain ⟨vs, h1, h2, h3⟩ := h
  exact ⟨vs, h1, h2, FRs.mono e h3⟩⟩
abbrev fExo (a C : Addr) (d : Option Addr) : FCell := ⟨a, Unit, cExo a C d, ()⟩
abbrev fExd (dx : Addr) (fs : List (Str × FV)) : FCell := ⟨dx, Unit, cExd dx fs, ()⟩
theorem s_ost1 {q : Addr} (hv : EV X e Γ M T x M1) (ha : EV X a Γ M1 tAdr q (A ++ [fExo q C none] ++ B)) (T1 : OexC X.K C) (hno : PySem.W.findIn X.K (.ref C) fl = some none) (k : ∀ dx, Φ (.next Γ (fExd dx [(fl, ⟨α, T, x⟩)] :: A ++ [fExo q C (some dx)] ++ B)))
    (hs : swapsWith e (some (.Attribute a fl p')) pos.line X.env = pure false := by rfl) : S1 X W (.Assign [.Attribute a fl p'] e pos) Γ M Φ := fun σ I H D g s o kk =>
  rdS_of (ps_ost pe_rd pe_rd hs) (hv σ I H _ g s o fun v I1 H1 g1 r1 => ha σ I1 H1 _ (g.mono g1.ii) g1.ih g1.own fun w I2 H2 g2 r2 => by
    cases r2
    have g12 := g1.trans o g2
    obtain ⟨_, u, h1, rfl⟩ := g12.own.at_ (fExo q C none) (by simp)
    refine ⟨q, C, rfl, T1, hno, .inl ⟨h1, fun dx hdx hne => ?_⟩⟩
    have gn := Go.newO (C := cExd dx [(fl, ⟨α, T, x⟩)]) (x := ()) (u := exd dx [(fl, v)]) g12.ih g12.own hdx ⟨_, rfl, rfl, T.mono g2.ii r1, trivial⟩ trivial
    have gp := (Go.put1 (c := fExo q C none) (c' := fExo q C (some dx)) (u := exo q C (some dx)) gn.ih (Own.part (A := fExd dx [(fl, ⟨α, T, x⟩)] :: A) (B := B) gn.own) rfl rfl trivial).frame (A := fExd dx [(fl, ⟨α, T, x⟩)] :: A) (B := B) gn.own
    exact (kk _ (k dx)) σ I2 _ (g12.trans o (gn.trans g12.own gp)) (g.mono g12.ii))
theorem s_ost2 {q dx : Addr} (hv : EV X e Γ M T x M1) (ha : EV X a Γ M1 tAdr q (A ++ [fExd dx fs] ++ B)) (hm : fExo q C (some dx) ∈ A ++ [fExd dx fs] ++ B) (T1 : OexC X.K C) (hno : PySem.W.findIn X.K (.ref C) fl = some none) (hz : fs.length ≤ 900)
    (k : Φ (.next Γ (A ++ [fExd dx ((fl, ⟨α, T, x⟩) :: fs)] ++ B)))
    (hs : swapsWith e (some (.Attribute a fl p')) pos.line X.env = pure false := by rfl) : S1 X W (.Assign [.Attribute a fl p'] e pos) Γ M Φ := fun σ I H D g s o kk =>
  rdS_of (ps_ost pe_rd pe_rd hs) (hv σ I H _ g s o fun v I1 H1 g1 r1 => ha σ I1 H1 _ (g.mono g1.ii) g1.ih g1.own fun w I2 H2 g2 r2 => by
    cases r2
    have g12 := g1.trans o g2
    obtain ⟨_, u, h1, rfl⟩ := g12.own.at_ _ hm
    obtain ⟨_, u2, h2, vs, rfl, e1, e2⟩ := g12.own.at_ (fExd dx fs) (by simp)
    have hl : vs.length = fs.length := by simpa using congrArg List.length e1
    have gp := (Go.put1 (c := fExd dx fs) (c' := fExd dx ((fl, ⟨α, T, x⟩) :: fs)) (u := exd dx ((fl, v) :: vs)) g12.ih g12.own.part rfl ⟨(fl, v) :: vs, rfl, by simp [e1], T.mono g2.ii r1, e2⟩ trivial).frame g12.own
    exact ⟨q, C, rfl, T1, hno, .inr ⟨dx, vs, h1, h2, by omega, (kk _ k) σ I2 _ (g12.trans o gp) (g.mono g12.ii)⟩⟩)
theorem Go.drop {I H I' H' : Hp} {c : FCell} (g : Go I H M I' H' (c :: M')) (hn : H c.a = none) : Go I H M I' (del H' c.a) M' := by
  obtain ⟨h1, w, h2, h3⟩ := g.own.at_ c List.mem_cons_self
  have nd := List.nodup_cons.mp g.own.nd
  refine ⟨g.ii, fun b u h => ?_, ⟨nd.2, fun d hd => ?_, fun b u h => ?_⟩, fun b u h hb => ?_, g.nw, fun b hb => g.dm b (List.mem_cons_of_mem _ hb), fun b h => ?_⟩
  · rw [del_ne (fun z => by rw [z, h1] at h; cases h)]; exact g.ih b u h
  · obtain ⟨q1, u, q2, q3⟩ := g.own.at_ d (List.mem_cons_of_mem _ hd)
    refine ⟨q1, u, ?_, q3⟩
    rw [del_ne (fun z => nd.1 (by
      have y : d.a ∈ dom M' := List.mem_map_of_mem hd
      rw [z] at y; exact y))]; exact q2
  · by_cases hb : b = c.a
    · rw [hb, del_same] at h; cases h
    · rw [del_ne hb] at h; exact g.own.wf b u h
  · rw [del_ne (fun z => by rw [z, hn] at h; cases h)]; exact g.fr b u h hb
  · by_cases hb : b = c.a
    · rw [hb]; exact hn
    · rw [del_ne hb] at h; exact g.al b h
variable {ι : Type} {pre : ι → Prop} {args : ι → List FV} {mem : ι → Mem} {post : ι → Out → Prop} {k : Nat} {fd : FuncData} {ps : List Str} {dvs : List V} {ds : List Value} {dts : List FV}
theorem pm_oex {sp : Sp} {ta : TA} (T : OexC X.K C) (fi : PySem.W.findIn X.K (.ref C) "__init__" = some (some (.ref fI))) (ft : PySem.W.typeIn X.K (.ref fI) = some (.type "function")) (F1 : FnOk X.prog X.w X.K X.mg X.base (L2N.CX X.prog X.w) k fI fd ps sp)
    (hr : Room (k + 1) X.A) (hb : Binds X.K fd ps ds) (hd : Vals dvs ds) (hm : X.mg n = some (.ref C)) (ha : PA X (e :: es) ta) (hg : Gl X n) (hdb : (n == ("__debug__" : Str)) = false)
    (he : starEach (e :: es) X.env = (false, eval e X.env) :: starEach es X.env) (hpl : (backTo pos (starEach es X.env)).any (·.1) = false) : L2N.PMk X (.Call (.Name n p) (e :: es) [] pos) (tMkO C sp dvs ta) := fun pins s σ H Q iv hh => by
  obtain ⟨c1, c2, c3, c4, cm, c5, c6, c7, c8, c9, d0, d1, d2, d3, d5, cls, cmr⟩ := T.cls
  refine wpAny_Call_Name_kw (ld_glob iv hg hm (PySem.W.callWith_K (h₀ := X.base) iv.ok.mod.kin T.kC (thn (ha.run pos pins s σ H _ iv hh) fun us s1 ⟨vs, H1, iv1, r1, _, q1⟩ => ⟨iv1.kIn, ?_⟩) he hpl) hdb)
  show wpAny _ _ (call (.ref C) us) _ _ _
  obtain ⟨hp, gn, dr, tk, os⟩ := s1
  have le1 : hp.objs.size ≤ hp.objs.size + 1 := Nat.le_succ _
  have q2 := q1 (hp.objs.size + 1) (iv1.hok.fresh le1)
  have up2 : ∀ b o, hp.get? b = some o → ((hp.push (PySem.W.kdv_tup us)).push (PySem.HandSPX.excO C hp.objs.size)).get? b = some o := fun b o z => Heap.get?_push_of_some _ (Heap.get?_push_of_some _ z)
  have at2 : ((hp.push (PySem.W.kdv_tup us)).push (PySem.HandSPX.excO C hp.objs.size)).get? (hp.objs.size + 1) = some (PySem.HandSPX.excO C hp.objs.size) := by heap_get
  have iv2 : Inv X pins σ (upd H1 (hp.objs.size + 1) (exo (hp.objs.size + 1) C none)) ⟨(hp.push (PySem.W.kdv_tup us)).push (PySem.HandSPX.excO C hp.objs.size), gn, dr, tk, os⟩ := iv1.laid (t' := tk) up2 le1 (exo_ok at2)
  have rr : Vals (V.ref (hp.objs.size + 1) :: (vs ++ dvs)) (Value.ref (hp.objs.size + 1) :: (us ++ ds)) := .cons rfl (r1.append hd)
  have ln : (Value.ref (hp.objs.size + 1) :: us ++ ds).length = ps.length := (rr.length.symm.trans (F1.len _ _ _ _ q2))
  have lu : us.length ≤ sizeLine := by
    have z := Paired.length r1
    rw [← z, sizeLine_eq]
    omega
  refine wpAny_call (PySem.HandSPX.call_own F.excBase_ValueError (fun Y => PySem.HandSPX.refsVE_contains Y cm cmr) (iv1.kIn _ _ cls) (PySem.W.looks_findIn iv1.kIn fi) (fun v => PySem.W.bind_fn iv1.kIn v ft) lu (codeAny_mono
    (F1.run _ X.stack _ _ ⟨Value.ref (hp.objs.size + 1) :: us, []⟩ (Value.ref (hp.objs.size + 1) :: (us ++ ds)) _ _ E0 (hr.make C us []) (iv2.env0.make C us []) (hb _ (Value.ref (hp.objs.size + 1) :: us) iv2.kIn ln) rr q2) fun r s' hq' => ?_))
  cases r with
  | error er => exact passN pins σ _ _ er s' iv2 hq'
  | ok f =>
    cases f with
    | ret u =>
      obtain ⟨v, H2, os2, ag2, un2, hok2, rv, ev, d, gs, ea, ed, hd1, q3⟩ := hq'
      subst ev
      obtain ⟨h2, g2, dr2, t2, os'⟩ := s'
      obtain ⟨t0, G, J, kG, ge, hoe, na⟩ := mk_end0 (d2 := dr2) (t2 := t2) iv1 le1 up2 un2 hok2 os2 ag2 ea ed hd1
      exact ⟨rv, hp.objs.size + 1, _, _, ⟨G, g2, dr2, t2, os'⟩, _, .ref C, some d, rfl, J, kG, ge, hoe, ⟨rfl, rfl, fun ws hw => by cases hw; rfl⟩, rfl, rfl, na, rfl, ag2, raises_own T.exC T.tyC, q3⟩
    | next => exact hq'.elim
    | brk => exact hq'.elim
    | cont => exact hq'.elim
theorem em_oex (T1 : OexC X.K C) (fi : PySem.W.findIn X.K (.ref C) "__init__" = some (some (.ref fI))) (ft : PySem.W.typeIn X.K (.ref fI) = some (.type "function"))
    (F1 : FnOk X.prog X.w X.K X.mg X.base (L2N.CX X.prog X.w) k fI fd ps (spF pre args mem post)) (hr : Room (k + 1) X.A) (hb : Binds X.K fd ps ds) (hd : Vals dvs ds) (hdt : ∀ I, FRs I dvs dts) (hm : X.mg n = some (.ref C)) (ha : EA X (e :: es) Γ M ts M1)
    (ix : Addr → ι) (hp : ∀ q, pre (ix q)) (hargs : ∀ q, args (ix q) = ⟨Addr, tAdr, q⟩ :: (ts ++ dts)) (hmem : ∀ q, mem (ix q) = [fExo q C none]) (hq : ∀ q o, post (ix q) o → ∃ dx, o = .ret ⟨Unit, tNon, ()⟩ [fExd dx fs, fExo q C (some dx)])
    (hz : ts.length ≤ 1000 := by decide) (hg : Gl X n := by rfl) (hdb : (n == ("__debug__" : Str)) = false := by decide) (he : starEach (e :: es) X.env = (false, eval e X.env) :: starEach es X.env := by rfl) (hpl : (backTo pos (starEach es X.env)).any (·.1) = false := by rfl) :
    EM X (.Call (.Name n p) (e :: es) [] pos) Γ M ⟨C, fs⟩ M1 := fun σ I H Q g s o kk pins sh iv => by
  refine pm_oex T1 fi ft F1 hr hb hd hm pa_rd hg hdb he hpl pins sh σ H Q iv (ha σ I H _ g s o fun vs I1 H1 g1 r1 => ⟨by rw [r1.length]; exact hz, fun q hq0 => ?_⟩)
  have gn := Go.newO (C := cExo q C none) (x := ()) (u := exo q C none) g1.ih g1.own hq0 rfl trivial
  refine ⟨ix q, I1, hp q, gn.ih, by rw [hmem]; exact Own.part (A := []) (B := M1) (by simpa using gn.own), by rw [hargs]; exact ⟨rfl, frs_append r1 (hdt I1)⟩, fun out ho => ?_⟩
  obtain ⟨dx, rfl⟩ := hq q out ho
  rw [hmem]
  rintro v I2 H2 g2 rfl
  have gf := g2.frame (A := []) (B := M1) (by simpa using gn.own)
  have ga := gn.trans g1.own (by simpa using gf)
  obtain ⟨_, u1, e1, e1'⟩ := g2.own.at_ (fExo q C (some dx)) (by simp)
  obtain ⟨_, u2, e2, ws, e2', w1, w2⟩ := g2.own.at_ (fExd dx fs) (by simp)
  have e1 : H2 q = some (exo q C (some dx)) := by rw [← show u1 = exo q C (some dx) from e1']; exact e1
  have e2 : H2 dx = some (exd dx ws) := by rw [← show u2 = exd dx ws from e2']; exact e2
  have hdx : H1 dx = none := by
    rcases ga.dm dx (by simp [dom]) with z | z
    · have y := (List.nodup_cons.mp ga.own.nd).1
      exact absurd (show dx ∈ dom (fExo q C (some dx) :: M1) from List.mem_cons_of_mem _ z) y
    · exact z
  refine ⟨rfl, dx, ws, e1, e2, hdx, ?_⟩
  have gd := Go.drop (ga.perm (.swap _ _ _)) hq0
  have gx := (Go.put1 (c := fExd dx fs) (c' := ⟨dx, Unit, cXd fs, ()⟩) (u := .xd ws) gd.ih (Own.part (A := []) (B := M1) gd.own) rfl ⟨ws, rfl, w1, w2⟩ trivial).frame (A := []) (B := M1) gd.own
  obtain ⟨o3, z1, z2, z3, z4, g3⟩ := (gd.trans g1.own gx).frz
  rw [show (upd (del H2 (fExo q C (some dx)).a) (fExd dx fs).a (.xd ws)) dx = some (.xd ws) from upd_same] at z1
  cases z1
  exact kk _ _ _ _ (g1.trans o g3) ⟨rfl, .inr ⟨dx, ws, rfl, upd_same, w1, FRs.mono z4 w2⟩⟩
end
end FL
set_option maxHeartbeats 4000000
namespace FL
open PySem L2 PyProof.Rows

def lessE (D : Ends) (i : Nat) : Ends := { nx := fun σ H => D.nx (σ.set i none) H, rt := D.rt, bk := fun σ H => D.bk (σ.set i none) H, ct := fun σ H => D.ct (σ.set i none) H }
def wH (X : Cx) (Wo : WX) (D : Ends) : List ExceptHandler → WX
  | [] => Wo
  | .ExceptHandler (some (.Name x _)) none (b0 :: st) _ :: r => fun cls d σ H => ∃ (c : Value) (b : Bool), Names X x c ∧ PySem.W.exmOne X.K cls c = some b ∧
      (b = true → ∀ (a : Addr) (oe : Obj) (pn : List (Addr × Obj)), H a = none → L2N.Zn cls d oe → (∃ vs, oe.data = .fields vs) → rdSs (X.suite a ((a, oe) :: pn)) (b0 :: st) D σ H) ∧ (b = false → wH X Wo D r cls d σ H)
  | .ExceptHandler (some (.Name x _)) (some n) (b0 :: st) _ :: r => fun cls d σ H => ∃ (c : Value) (b : Bool) (i : Nat), Names X x c ∧ PySem.W.exmOne X.K cls c = some b ∧ X.N[i]? = some n ∧ X.env.kindOf n = some .local ∧
      (b = true → ∀ (a : Addr) (oe : Obj) (pn : List (Addr × Obj)), H a = none → L2N.Zn cls d oe → (∃ vs, oe.data = .fields vs) → rdSs (X.suite a ((a, oe) :: pn)) (b0 :: st) (lessE D i) (σ.set i (some (.ref a))) H) ∧ (b = false → wH X Wo D r cls d σ H)
  | _ => fun _ _ _ _ => False
section
variable {X : Cx} {Wo : WX} {D : Ends} {a : Addr} {B : Heap} {sI s' : Shared} {pins : List (Addr × Obj)} {σ : L2.St} {H : Hp} {cls : Value} {d : Option Addr} {h3 : Heap}
theorem wH_at {h : ExceptHandler} {r : List ExceptHandler} (w : wH X Wo D (h :: r) cls d σ H) : ∃ x np on b0 st p, h = .ExceptHandler (some (.Name x np)) on (b0 :: st) p := by
  obtain ⟨t, on, su, p⟩ := h
  cases t with
  | none => exact False.elim w
  | some e =>
    cases e with
    | Name x np =>
      cases su with
      | nil => cases on <;> exact False.elim w
      | cons b0 st => exact ⟨x, np, on, b0, st, p, rfl⟩
    | _ => exact False.elim w
theorem catches (hs : X.stack = X.env :: X.outer) (hf : X.env.frame = some X.env.locals) (hN : X.N.Nodup) (tk : L2N.Takes X Wo) (J : Inv X pins σ H sI) (nb : ∀ b o, sI.heap.get? b = some o → b ∉ frs X.stack → B.get? b = some o) (up : sI.heap.UpToSlots s'.heap) (na : H a = none) (os : s'.os = sI.os)
    (ag : AllBare s'.gens) (fl3 : HandSPX.FlyingZ B (X.env :: X.outer) a (L2N.Zn cls d) h3) (up3 : s'.heap.UpToSlots h3) : ∀ hds : List ExceptHandler, wH X Wo D hds cls d σ H → wpAny (model X.prog X.w) X.A (handleBy (.ref a) X.env hds) (SP X pins D) X.xe { s' with heap := h3 }
  | [], w => by
    refine wpAny_handleBy_nil ?_
    obtain ⟨_, _, _, oe, vs, T, oT, ts, hge, hze, hde, hv1, _⟩ := id fl3
    unfold PySem.passOn
    refine wpAny_bind (wpAny_field hge hde hv1 ?_)
    rw [if_neg (show ¬ ((Value.ref T == Value.none) = true) from by simp)]
    have rise : wpAny (model X.prog X.w) X.A (setFlight (.ref a) X.env.frame) (fun _ s4 => wpAny (model X.prog X.w) X.A (throw (.ref a) : Sem Flow) (SP X pins D) X.xe s4) X.xe { s' with heap := h3 } := by
      rw [hf]
      exact HandSPX.setFlight_upZ fl3 fun h4 hh4 up4 => wpAny_throw (tk _ _ ⟨a, B, sI, pins, σ, H, cls, d, rfl, J, nb, (up.trans up3).trans up4, .inr (.inr (by rw [hs]; exact hh4)), na, os, ag, w⟩)
    first
      | exact wpAny_bind (wpAny_pure (wpAny_bind rise))
      | exact wpAny_bind rise
  | hd :: r, w => by
    obtain ⟨x, np, on, b0, st, p, rfl⟩ := wH_at w
    have ok := J.ok
    have J3 : Inv X pins σ H { s' with heap := h3 } := J.landed nb fl3.1 (up.trans up3) os ag
    obtain ⟨oe3, vs3, ge3, ze3, de3⟩ := fl3.there
    have away : ∀ {h : Heap} {o : Obj} {vs : Array Value}, h.FunFrames B (X.env :: X.outer) → h.get? a = some o → o.data = .fields vs → a ∉ frs (X.env :: X.outer) := fun {h o vs} ff e dd hm => by
      obtain ⟨_, o', e', nf⟩ := ff.mem hm
      rw [e] at e'; cases e'
      exact nf _ dd
    have nfr := away fl3.2.2.1 ge3 de3
    have nL : a ≠ X.env.locals := fun z => nfr (List.mem_filterMap.mpr ⟨X.env, List.mem_cons_self, by rw [hf, z]⟩)
    have nF : a ∉ X.fs := fun hm => by
      obtain ⟨e, he, q⟩ := List.mem_filterMap.mp hm
      exact nfr (List.mem_filterMap.mpr ⟨e, List.mem_cons_of_mem _ he, q⟩)
    have S3 := J3.suite ge3 de3 na nL nF
    have ask : ∀ {c : Value} {Q : Value → Shared → Prop} {E : Value → Shared → Prop}, Names X x c → Q c { s' with heap := h3 } → wpAny (model X.prog X.w) (X.A.mark (some (.ref a))) (eval (.Name x np) X.env) Q E { s' with heap := h3 } := fun {c Q E} hc q => by
      obtain ⟨hg, hdbg, hm | ⟨hm, hv, hnn⟩⟩ := hc
      · exact ld_glob (X := X.suite a ((a, oe3) :: (X.pn ++ pins))) S3 hg hm q hdbg
      · exact ld_blt (X := X.suite a ((a, oe3) :: (X.pn ++ pins))) S3 hg hm hv q hnn hdbg
    have kind : PySem.W.Looks (model X.prog X.w) h3 (typeOf (.ref a)) cls := fun A Q E s k q => wpAny_typeOf_ref (k _ _ ge3) (by rw [ze3.1]; exact q)
    have land4 : ∀ {Q : Unit → Shared → Prop}, (∀ h4 oe4, Inv X pins σ H { s' with heap := h4 } → Inv (X.suite a ((a, oe4) :: (X.pn ++ pins))) [] σ H { s' with heap := h4 } → L2N.Zn cls d oe4 → (∃ vs, oe4.data = .fields vs) → Q () { s' with heap := h4 }) →
        ∀ h4, HandSPX.FlyingZ B (X.env :: X.outer) a (L2N.Zn cls d) h4 → h3.UpToSlots h4 → Q () { s' with heap := h4 } := fun {Q} k h4 fl4 up4 => by
      have J4 : Inv X pins σ H { s' with heap := h4 } := J.landed nb fl4.1 ((up.trans up3).trans up4) os ag
      obtain ⟨oe4, vs4, ge4, ze4, de4⟩ := fl4.there
      exact k h4 oe4 J4 (J4.suite ge4 de4 na nL nF) ze4 ⟨_, de4⟩
    cases on with
    | none =>
      obtain ⟨c, b, hc, hb1, hyes, hno⟩ := w
      refine wpAny_handleBy_cons (codeAny_handlers_test (ask hc ((PySem.W.exm_one (M := model X.prog X.w) J3.kIn kind hb1).here ?_))) (by intro q; cases q)
      cases b with
      | false => exact catches hs hf hN tk J nb up na os ag fl3 up3 r (hno rfl)
      | true =>
        refine codeAny_handlers_suite (HandSPX.lands_againZ fl3 (land4 (Q := fun _ s4 => wpAny (model X.prog X.w) _ _ _ _ s4) fun h4 oe4 J4 S4 z4 v4 => ?_))
        refine wpAny_mono ((hyes rfl a oe4 (X.pn ++ pins) na z4 v4).run [] _ S4) (fun f s6 hsp => ?_) (fun _ _ z => False.elim z)
        cases f with
        | next => exact let ⟨_, _, S6, q6⟩ := hsp; ⟨_, _, S6.unsuite ok, q6⟩
        | brk => exact let ⟨_, _, S6, q6⟩ := hsp; ⟨_, _, S6.unsuite ok, q6⟩
        | cont => exact let ⟨_, _, S6, q6⟩ := hsp; ⟨_, _, S6.unsuite ok, q6⟩
        | ret u => exact let ⟨_, _, _, S6, r6, q6⟩ := hsp; ⟨_, _, _, S6.unsuite ok, r6, q6⟩
    | some n =>
      obtain ⟨c, b, i, hc, hb1, hi, hln, hyes, hno⟩ := w
      refine wpAny_handleBy_cons (codeAny_handlers_test (ask hc ((PySem.W.exm_one (M := model X.prog X.w) J3.kIn kind hb1).here ?_))) (by intro q; cases q)
      cases b with
      | false => exact catches hs hf hN tk J nb up na os ag fl3 up3 r (hno rfl)
      | true =>
        refine codeAny_handlers_suite_as (HandSPX.lands_againZ fl3 (land4 (Q := fun _ s4 => wpAny (model X.prog X.w) _ _ _ _ s4) fun h4 oe4 J4 S4 z4 v4 => ?_))
        refine store_ok (X := X.suite a ((a, oe4) :: (X.pn ++ pins))) (v := .ref a) S4 hN hi (.inl hln) rfl (fun s5 S5 => ?_) (.inr hln)
        refine wpAny_mono ((hyes rfl a oe4 (X.pn ++ pins) na z4 v4).run [] s5 S5) (fun f s6 hsp => ?_) (fun _ _ z => False.elim z)
        have gone : ∀ {σ6 : L2.St} {H6 : Hp} {Q : Shared → Prop}, Inv (X.suite a ((a, oe4) :: (X.pn ++ pins))) [] σ6 H6 s6 → (∀ s7, Inv X pins (σ6.set i none) H6 s7 → Q s7) →
            wpAny (model X.prog X.w) X.A (do bindName X.env n .none; unbindBehindTheSuite X.env n p) (fun _ s7 => Q s7) X.xe s6 := fun {σ6 H6 Q} S6 hq => gone_ok (S6.unsuite ok) hN hi hln hq
        cases f with
        | next => exact let ⟨_, _, S6, q6⟩ := hsp; gone S6 fun s7 J7 => ⟨_, _, J7, q6⟩
        | brk => exact let ⟨_, _, S6, q6⟩ := hsp; gone S6 fun s7 J7 => ⟨_, _, J7, q6⟩
        | cont => exact let ⟨_, _, S6, q6⟩ := hsp; gone S6 fun s7 J7 => ⟨_, _, J7, q6⟩
        | ret u => exact let ⟨_, _, _, S6, r6, q6⟩ := hsp; gone S6 fun s7 J7 => ⟨_, _, _, J7, r6, q6⟩
end

section
open PySem.W
variable {prog : Program} {w : World} {A : Around} {E : Value → Shared → Prop} {s : Shared} {K : Frag} {x D : Addr} {ox : Obj} {od : Option Obj}
theorem find_dataO {C : Addr} {name : Str} {a g : Value} (hc : (clsIn K C).isSome = true) (h1 : findIn K (.ref C) name = some (some a)) (h2 : specialIn K a "__get__" = some (some g)) (h3 : takesIn K a = some true) : findObj K C od name = some (.bind g a) := by
  obtain ⟨cd, e⟩ := Option.isSome_iff_exists.mp hc
  unfold findObj
  rw [e, Option.bind_some, h1, Option.bind_some]
  simp [h2, h3]
theorem exc_class {Q : Option Value → Shared → Prop} (T : ExcC K D) (inK : K.In s.heap) (J : InstAt s.heap x ox D od) (h : Q (some (.ref D)) { s with toks := s.toks + 1 }) : wpAny (model prog w) A (getAttr? (.ref x) "__class__") Q E s := by
  have fnd : findObj K D od "__class__" = some (.bind (.builtin "getset_descriptor.__get__") (.builtin "object.__class__")) := find_dataO (by obtain ⟨cd, hc, _⟩ := any_some T.hd; rw [hc]; rfl) T.ha T.hn T.ht
  obtain ⟨hp, gn, dr, tk, os⟩ := s
  have lty := J.type (M := model prog w)
  have lga := looks_findIn (M := model prog w) inK T.hg
  have lgt := looks_findIn (M := model prog w) inK T.hk
  have lfd := looks_find (M := model prog w) inK J fnd
  have isE : Looks (model prog w) hp (isInstance (.ref x) (.type "BaseException")) true := lty.andThen (looks_subIn inK T.hs)
  have f2 : (Value.builtin "BaseException.__getattribute__" == Value.builtin "object.__getattribute__") = false := by decide +kernel
  have f1 : (onTheHeap (Value.ref D) && Value.builtin "BaseException.__getattribute__" == Value.builtin "object.__getattribute__") = false := by rw [f2]; rfl
  unfold getAttr? getAttrBy? getAttrBy
  refine wpAny_bind (wpAny_mkText (wpAny_bind (wpAny_attempt (wpAny_holding (wpAny_bind (lty.at (wpAny_bind (lga.at ?_))))))))
  show wpAny _ _ (if (onTheHeap (Value.ref D) && Value.builtin "BaseException.__getattribute__" == Value.builtin "object.__getattribute__") = true then _ else _) _ _ _
  rw [f1, if_neg Bool.false_ne_true]
  unfold getAttrByItsOwn hookBefore
  refine wpAny_bind ?_
  rw [if_pos (show onTheHeap (Value.ref D) = true from rfl)]
  refine lgt.at (wpAny_bind (wpAny_attempt (wpAny_holding ?_)))
  unfold callGetattribute
  rw [show (false && onTheHeap (Value.builtin "BaseException.__getattribute__")) = false from rfl, if_neg Bool.false_ne_true]
  unfold boundAndCalled
  rw [PySem.F.excAttr_ValueError.ga.bind (.ref x)]
  refine wpAny_bind (wpAny_pure ?_)
  show wpAny _ _ (call (.builtin "BaseException.__getattribute__") [.ref x, .str "__class__" tk]) _ _ _
  refine wpAny_call (codeAny_call_builtin PySem.F.excAttr_ValueError.ga.plain PySem.F.entry_bexc_ga (@check_slot (model prog w) _ _ ⟨hp, gn, dr, tk + 1, os⟩ "BaseException.__getattribute__" "BaseException" "__getattribute__" (.ref x) [.str "__class__" tk] [] _ (by decide +kernel) (by decide +kernel) isE (PySem.F.args_bexc_ga (.ref x) (.str "__class__" tk)) ?_))
  unfold Builtin.«object.__getattribute__»
  refine wpAny_bind (wpAny_of_eq (a := ((Value.ref x : Value), [Value.str "__class__" tk])) (by first | rfl | (simp only [slotArgs]; rfl)) (wpAny_bind (wpAny_pure (wpAny_bind (lty.at (wpAny_bind (lfd.at ?_)))))))
  show wpAny _ _ (holding [Value.builtin "object.__class__"] (call (.builtin "getset_descriptor.__get__") [.builtin "object.__class__", .ref x, .ref D]) >>= ret) _ _ _
  refine wpAny_bind (wpAny_holding (wpAny_call (class_get (s := ⟨hp, gn, dr, tk + 1, os⟩) (ox := ox) (od := od) inK J T.hm (wpAny_pure ?_))))
  show wpAny _ _ (handedOut (.ref D)) _ _ _
  rw [handedOut_of (v := .ref D) rfl]
  first
    | exact wpAny_pure (wpAny_pure h)
    | exact wpAny_pure h
    | exact wpAny_pure (wpAny_bind (wpAny_pure (wpAny_pure h)))
theorem kit_exc (T : ExcC K D) : KitX K (.ref x) (.ref D) (fun h => InstAt h x ox D od) where
  ty := fun _ _ _ J => J.type
  it := fun _ _ inK _ => by
    obtain ⟨cd, hc, _⟩ := any_some T.hd
    unfold clsIn at hc
    split at hc
    · rename_i c1 d1 cd1 sl1 at1
      intro A1 Q1 E1 s1 k q
      unfold isType loadHead
      exact wpAny_bind (wpAny_loadPart (k _ _ (inK _ _ at1)) (wpAny_pure q))
    · cases hc
  ne := fun h tp dd its n sl inK at0 => by
    obtain ⟨cd, hc, _⟩ := any_some T.hd
    refine Bool.eq_false_iff.mpr fun q => ?_
    have e : D = tp := Value.ref.inj (beq_iff_eq.mp q)
    subst e
    unfold clsIn at hc
    split at hc
    · rename_i c1 d1 cd1 sl1 at1
      have z := (inK _ _ at1).symm.trans at0
      cases z
    · cases hc
  ca := fun inK J k => exc_class T inK J k
end

def tExn (x : Exn) (d : Option Addr) : FTy Addr := ⟨fun I v a => v = .ref a ∧ ((x.fs = [] ∧ d = none) ∨ ∃ dd vs, d = some dd ∧ I dd = some (.xd vs) ∧ vs.map (·.1) = x.fs.map (·.1) ∧ FRs I (vs.map (·.2)) (x.fs.map (·.2))), fun e ⟨h, r⟩ => ⟨h, by
  rcases r with r | ⟨dd, vs, h1, h2, h3, h4⟩
  · exact .inl r
  · exact .inr ⟨dd, vs, h1, e _ _ h2, h3, FRs.mono e h4⟩⟩⟩
def WF : WX := fun _ _ _ _ => False
def lessO (Φ : Out → Prop) (i : Nat) : Out → Prop
  | .next Γ M => Φ (.next (Γ.set i none) M)
  | .brk Γ M => Φ (.brk (Γ.set i none) M)
  | .cont Γ M => Φ (.cont (Γ.set i none) M)
  | .ret t M => Φ (.ret t M)
  | .exc _ _ _ => False
def noX (Φ : Out → Prop) : Out → Prop
  | .exc _ _ _ => False
  | o => Φ o
def HV (X : Cx) (Φ : Out → Prop) (x : Exn) (Γ : Gm) (M : Mem) : List ExceptHandler → Prop
  | [] => Φ (.exc x Γ M)
  | .ExceptHandler (some (.Name n _)) none (b0 :: st) _ :: r => ∃ (c : Value) (b : Bool), Names X n c ∧ PySem.W.exmOne X.K (.ref x.C) c = some b ∧
      (b = true → ∀ (a : Addr) (d : Option Addr) (oe : Obj) (pn : List (Addr × Obj)), L2N.Zn (.ref x.C) d oe → (∃ vs, oe.data = .fields vs) → SV (X.suite a ((a, oe) :: pn)) WF (b0 :: st) Γ M (noX Φ)) ∧ (b = false → HV X Φ x Γ M r)
  | .ExceptHandler (some (.Name n _)) (some m) (b0 :: st) _ :: r => ∃ (c : Value) (b : Bool) (i : Nat), Names X n c ∧ PySem.W.exmOne X.K (.ref x.C) c = some b ∧ X.N[i]? = some m ∧ X.env.kindOf m = some .local ∧
      (b = true → ∀ (a : Addr) (d : Option Addr) (oe : Obj) (pn : List (Addr × Obj)), L2N.Zn (.ref x.C) d oe → (∃ vs, oe.data = .fields vs) → SV (X.suite a ((a, oe) :: pn)) WF (b0 :: st) (Γ.set i (some ⟨Addr, tExn x d, a⟩)) M (lessO Φ i)) ∧ (b = false → HV X Φ x Γ M r)
  | _ => False
section
variable {X : Cx} {W : WX} {Γ Γ' : Gm} {M M' M1 : Mem} {Φ Ψ : Out → Prop} {D : Ends} {I H I' H' : Hp} {σ : L2.St} {x : Exn} {cls : Value} {d : Option Addr}
theorem HV_at {h : ExceptHandler} {r : List ExceptHandler} (w : HV X Φ x Γ M (h :: r)) : ∃ n np on b0 st p, h = .ExceptHandler (some (.Name n np)) on (b0 :: st) p := by
  obtain ⟨t, on, su, p⟩ := h
  cases t with
  | none => exact False.elim w
  | some e =>
    cases e with
    | Name n np =>
      cases su with
      | nil => cases on <;> exact False.elim w
      | cons b0 st => exact ⟨n, np, on, b0, st, p, rfl⟩
    | _ => exact False.elim w
theorem hv_w (ow : Own M I H) (go : Go I H M I' H' M') (en : EnvR I' σ Γ) (ex : ExnR I' H' cls d x) (q : ∀ o, Φ o → Acc D W I H M o) : ∀ {hds : List ExceptHandler}, HV X Φ x Γ M' hds → wH X W D hds cls d σ H'
  | [], w => (q _ (show Φ (.exc x Γ M') from w)) cls d σ I' H' go en ex
  | h :: r, w => by
    obtain ⟨n, np, on, b0, st, p, rfl⟩ := HV_at w
    cases on with
    | none =>
      obtain ⟨c, b, h1, h2, h3, h4⟩ := w
      refine ⟨c, b, h1, by rw [ex.1]; exact h2, fun hb a oe pn na zn vs => ?_, fun hb => hv_w ow go en ex q (h4 hb)⟩
      rw [ex.1] at zn
      refine h3 hb a d oe pn zn vs σ I' H' D en go.ih go.own fun o ho => ?_
      cases o with
      | exc _ _ _ => exact False.elim ho
      | next _ _ => exact (q _ ho).after (D := D) (W := W) ow go
      | ret _ _ => exact (q _ ho).after (D := D) (W := W) ow go
      | brk _ _ => exact (q _ ho).after (D := D) (W := W) ow go
      | cont _ _ => exact (q _ ho).after (D := D) (W := W) ow go
    | some m =>
      obtain ⟨c, b, i, h1, h2, h5, h6, h3, h4⟩ := w
      refine ⟨c, b, i, h1, by rw [ex.1]; exact h2, h5, h6, fun hb a oe pn na zn vs => ?_, fun hb => hv_w ow go en ex q (h4 hb)⟩
      rw [ex.1] at zn
      refine h3 hb a d oe pn zn vs _ I' H' _ (en.set (t := ⟨Addr, tExn x d, a⟩) ⟨rfl, ex.2⟩ i) go.ih go.own fun o ho => ?_
      cases o with
      | exc _ _ _ => exact False.elim ho
      | next _ _ => exact fun σ2 I2 H2 g2 e2 => (q _ (show Φ (.next _ _) from ho)) _ I2 H2 (go.trans ow g2) (e2.unset i)
      | ret _ _ => exact fun v I2 H2 g2 e2 => (q _ (show Φ (.ret _ _) from ho)) v I2 H2 (go.trans ow g2) e2
      | brk _ _ => exact fun σ2 I2 H2 g2 e2 => (q _ (show Φ (.brk _ _) from ho)) _ I2 H2 (go.trans ow g2) (e2.unset i)
      | cont _ _ => exact fun σ2 I2 H2 g2 e2 => (q _ (show Φ (.cont _ _) from ho)) _ I2 H2 (go.trans ow g2) (e2.unset i)
def TryK (X : Cx) (Φ : Out → Prop) (hds : List ExceptHandler) : Out → Prop
  | .exc x Γ M => HV X Φ x Γ M hds
  | o => Φ o
theorem s_try {body : List Stmt} {h0 : ExceptHandler} {hds : List ExceptHandler} {pos : Pos} (hs : X.stack = X.env :: X.outer) (hf : X.env.frame = some X.env.locals) (hN : X.N.Nodup) (tk : L2N.Takes X W)
    (hb : ∀ (pn : List (Addr × Obj)) (xe : Value → Shared → Prop) (W' : WX), L2N.Takes (X.tr pn xe) W' → PassesOwn (model X.prog X.w) X.A X.env xe → SV (X.tr pn xe) W' body Γ M (TryK X Φ (h0 :: hds))) : S1 X W (.Try body (h0 :: hds) [] [] pos) Γ M Φ := S1.mk fun σ I H D g s o q pins sh iv => by
  have ok := iv.ok
  have hfr : X.A.frames = some (X.env :: X.outer) := by rw [ok.frames, hs]
  refine wpAny_Try_except ?_
  refine wpAny_mono (SV.go (hb (X.pn ++ pins) (fun e s₁ => wpAny (model X.prog X.w) X.A (noteFrame e X.env) (fun _ s₂ => wpAny (model X.prog X.w) X.A (setFlight e none) (fun _ s₃ =>
    wpAny (model X.prog X.w) X.A (handleBy e X.env (h0 :: hds)) (SP X pins D) X.xe s₃) X.xe s₂) X.xe s₁) (wH X W D (h0 :: hds)) (fun u s' xx => ?_) PassesOwn.looking) σ I H D g s o (fun out ho => ?_) [] sh (iv.toTry _)) (fun f s1 hsp => ?_) (fun e s1 he => he)
  · obtain ⟨a, B, sI, pins', σ', H', cls, d, rfl, J', nb, up, sky, na, os, ag, w⟩ := xx
    have J : Inv X pins σ' H' sI := J'.ofTry ok
    show wpAny (model X.prog X.w) X.A (noteFrame (.ref a) X.env) _ _ _
    exact L2N.Sky.land L2N.Zn.steady hfr hf (by rw [← hs]; exact sky) fun h3 fl3 up3 => catches hs hf hN tk J nb up na os ag fl3 up3 _ w
  · cases out with
    | exc x Γ' M' => exact fun cls d σ' I' H' g' e' r' => hv_w o g' e' r' q ho
    | next _ _ => exact fun σ2 I2 H2 g2 e2 => (q _ (show Φ (.next _ _) from ho)) σ2 I2 H2 g2 e2
    | ret _ _ => exact fun v I2 H2 g2 e2 => (q _ (show Φ (.ret _ _) from ho)) v I2 H2 g2 e2
    | brk _ _ => exact fun σ2 I2 H2 g2 e2 => (q _ (show Φ (.brk _ _) from ho)) σ2 I2 H2 g2 e2
    | cont _ _ => exact fun σ2 I2 H2 g2 e2 => (q _ (show Φ (.cont _ _) from ho)) σ2 I2 H2 g2 e2
  · cases f with
    | next => exact let ⟨_, _, J', q'⟩ := hsp; wpAny_execs_nil ⟨_, _, J'.ofTry ok, q'⟩
    | brk => exact let ⟨_, _, J', q'⟩ := hsp; ⟨_, _, J'.ofTry ok, q'⟩
    | cont => exact let ⟨_, _, J', q'⟩ := hsp; ⟨_, _, J'.ofTry ok, q'⟩
    | ret u => exact let ⟨_, _, _, J', r', q'⟩ := hsp; ⟨_, _, _, J'.ofTry ok, r', q'⟩
end
section
variable {X : Cx} {W : WX} {Γ : Gm} {M M' M1 : Mem} {α β : Type} {T : FTy α} {T' : FTy β} {x : Exn} {y : β} {z : α} {d : Option Addr} {a : Addr} {oe : Obj} {pn : List (Addr × Obj)} {e : Expr} {pos : Pos} {n : Str} {ts : List FV}
theorem ev_xf (T1 : XfC X.K x.C) (hno : PySem.W.findIn X.K (.ref x.C) n = some none) (hz : L2N.Zn (.ref x.C) d oe) (hf : ∃ vs, oe.data = .fields vs) (hl : x.fs.lookup n = some ⟨β, T', y⟩) (he : EV (X.suite a ((a, oe) :: pn)) e Γ M (tExn x d) a M1)
    (hb : attributeBase e n X.env (eval e X.env) = eval e X.env := by rfl) : EV (X.suite a ((a, oe) :: pn)) (.Attribute e n pos) Γ M T' y M1 := fun σ I H Q g s o k =>
  rd_of (pe_xf T1 hno hz.zc hf pe_rd hb) (he σ I H _ g s o fun v I1 H1 g1 r1 => by
    obtain ⟨rfl, r1⟩ := r1
    rcases r1 with ⟨r1, _⟩ | ⟨dd, vs, h1, h2, h3, h4⟩
    · rw [r1] at hl; cases hl
    · obtain ⟨u, hu, ru⟩ := frs_lookup h3 h4 hl
      exact ⟨rfl, rfl, dd, vs, u, h1, g1.ih _ _ h2, hu, k u I1 H1 g1 ru⟩)
theorem cv_isE {Cc : Addr} {b : Bool} (T1 : ExcC X.K x.C) (hz : L2N.Zn (.ref x.C) d oe) (hf : ∃ vs, oe.data = .fields vs) (hk : PySem.W.kitOne X.K (.ref x.C) (.ref Cc) = some b) :
    CV (X.suite a ((a, oe) :: pn)) (.builtin "isinstance") [⟨Addr, tExn x d, a⟩, ⟨Addr, tAdr, Cc⟩] M tBl b M := fun I H vs Q s o r k pins sh σ us iv rv => by
  obtain ⟨v, w, rfl, rx, rc⟩ := frs2 r
  obtain ⟨rfl, rx⟩ := rx
  cases rc
  obtain rfl : us = [.ref a, .ref Cc] := by
    cases rv with
    | cons q1 q2 =>
      cases q2 with
      | cons q3 q4 =>
        cases q4
        cases q1; cases q3; rfl
  obtain ⟨hget, _⟩ := iv.pin (a, oe) (List.mem_append.mpr (.inl List.mem_cons_self))
  obtain ⟨vs, hv⟩ := hf
  have J : ∃ od, PySem.W.InstAt sh.heap a oe x.C od := by
    rcases rx with ⟨_, rfl⟩ | ⟨dd, ws, rfl, h2, _⟩
    · exact ⟨none, hget, hz.1, by unfold PySem.W.notCls; rw [hv] <;> rfl, by rw [hz.2.1]; trivial⟩
    · obtain ⟨mA, hns, _⟩ := (show ObjOk X.prog X.w H sh.heap dd (.xd ws) from iv.hok dd _ (s _ _ h2))
      obtain ⟨od, ho, _⟩ := lookIn_ns hns
      exact ⟨some od, hget, hz.1, by unfold PySem.W.notCls; rw [hv] <;> rfl, by rw [hz.2.1]; exact ho⟩
  obtain ⟨od, J⟩ := J
  exact PySem.W.kia_one (kit_exc T1) iv.kIn J hk (fun z => nomatch z) fun tk => ⟨.bl b, H, iv.kept (t' := tk) fun _ _ z => z, rfl, k _ I H (Go.refl s o) rfl⟩
theorem hot_suite (hz : L2N.Zn (.ref x.C) d oe) (hf : ∃ vs, oe.data = .fields vs) : L2H.HotC (X.suite a ((a, oe) :: pn)) := by
  obtain ⟨vs, hv⟩ := hf
  exact ⟨(a, oe), ⟨rfl, vs, hv, hz.2.2 vs hv⟩, List.mem_cons_self⟩
variable {f : Addr} {fd : FuncData} {ps : List Str} {k : Nat} {ι : Type} {pre : ι → Prop} {args : ι → List FV} {mem : ι → Mem} {post : ι → Out → Prop}
theorem cv_fnH (F : L2H.FnH X.prog X.w X.K X.mg X.base (L2N.CX X.prog X.w) k f fd ps (spF pre args mem post)) (hr : L2H.RoomH k X.A) (hc : L2H.HotC X) (hb : Binds X.K fd ps []) (i : ι) (hp : pre i) (ha : args i = ts) {Mo : Mem}
    (hq : ∀ o, post i o → o = .ret ⟨α, T, z⟩ Mo) (A B : Mem) : CV X (.ref f) ts (A ++ mem i ++ B) T z (A ++ Mo ++ B) := fun I H vs Q s o r k pins sh σ us iv rv =>
  L2H.run_fnH (E := fun _ => E0) F hr hc hb (fun pins H s e s' iv' c => passN pins σ H s e s' iv' c) iv rv ⟨i, I, hp, s, o.part, by rw [ha]; exact r, fun out ho => by
    rw [hq out ho]
    exact fun v I' H' g rr => k v I' H' (g.frame o) rr⟩
variable {P : Program} {w : World} {K : PySem.W.Frag} {mg : Str → Option Value} {base : Heap} {xn qual : Str} {params : Arguments} {body : List Stmt} {scope : Scope} {dvs : List V} {kws : List (Str × V)} {N : List Str}
theorem fnH_sv (F1 : FunD K xn qual params body scope dvs kws f fd) (S : FnScope N ps scope) (len : ∀ i, (args i).length = ps.length)
    (h : ∀ i, pre i → ∀ (cdv : Value) (A : Around) (outer : List Env) (s : Shared) (H : Hp) (E : XK) (p : Addr × Obj), L2H.Hot1 A p → L2H.RoomH k (A.deeper (envOfC qual scope s.heap.objs.size f cdv)) →
      SV (L2H.cxH (L2N.CX P w) P w K mg base N qual scope f cdv A outer s H E p) WF body (startG N (args i)) (mem i) (noX (retN (post i)))) :
    L2H.FnH P w K mg base (L2N.CX P w) (k + 1) f fd ps (spF pre args mem post) := by
  obtain ⟨⟨oc, od, dV, kV, doc, pm, an, cdv, ct, osl, rfl, lk, hcd, hdv, hkv⟩, _⟩ := F1
  refine L2H.fn_ofH lk hcd S (fun vs H Q E hs => ?_) fun A outer s H vs Q E p hot hr hs => ?_
  · obtain ⟨i, I, _, _, _, r, _⟩ := hs
    rw [r.length, len i]
  · obtain ⟨i, I, hp, ss, ow, r, k⟩ := hs
    refine ⟨_, pss_rd, h i hp cdv A outer s H E p hot hr (L2.start N vs) I H _ (envR_start r) ss ow fun o ho => ?_⟩
    cases o with
    | next Γ M => exact fun σ' I' H' g e => (k _ (show post i (.ret ⟨Unit, tNon, ()⟩ M) from ho)) .non I' H' g rfl
    | ret t M => exact (k (.ret t M) ho)
    | brk Γ M => exact (show False from ho).elim
    | cont Γ M => exact (show False from ho).elim
    | exc x Γ M => exact (show False from ho).elim
end
end FL
set_option maxHeartbeats 4000000
namespace FL
open PySem L2 PyProof.Rows

section
variable {X : Cx} {W : WX} {Γ : Gm} {M M' M1 M2 M3 M4 A B : Mem} {α β γ δ : Type} {T : FTy α} {T' : FTy β} {T'' : FTy γ} {T3 : FTy δ} {C : FC α} {a b c e o : Expr} {es : List Expr} {pos p p' : Pos} {ts : List FV} {x : α} {y : β} {z : γ} {u : δ} {Φ : Out → Prop} {n : Str}
theorem chain2 {op op' : CmpOp} {k l : Bool} (h1 : OV X (compareOp op) M2 T x T' y tBl k M2) (h2 : k = true → OV X (compareOp op') M2 T' y T'' z tBl l M2) (ha : EV X a Γ M T x M1) (hb : EV X b Γ M1 T' y M2) (hc : k = true → EV X c Γ M2 T'' z M2)
    {σ : L2.St} {I H : Hp} {Q : VK} (g : EnvR I σ Γ) (s : Same I H) (ow : Own M I H) (q : ∀ I' H', Go I H M I' H' M2 → Q (.bl (k && l)) H') : tChain (rdO X (compareOp op)) (rdO X (compareOp op')) (rdE X a) (rdE X b) (rdE X c) σ H Q :=
  ha σ I H _ g s ow fun v I1 H1 g1 r1 => hb σ I1 H1 _ (g.mono g1.ii) g1.ih g1.own fun w I2 H2 g2 r2 => h1 I2 H2 v w _ g2.ih g2.own (T.mono g2.ii r1) r2 fun d I3 H3 g3 r3 => ⟨k, r3, by
    have g13 := (g1.trans ow g2).trans ow g3
    cases k with
    | false => exact iteF (q I3 H3 g13)
    | true => exact iteT (hc rfl σ I3 H3 _ (g.mono g13.ii) g3.ih g3.own fun w2 I4 H4 g4 r4 => h2 rfl I4 H4 w w2 Q g4.ih g4.own (T'.mono (g3.ii.trans g4.ii) r2) r4 fun d2 I5 H5 g5 r5 => by
        obtain rfl : d2 = .bl l := r5
        exact q I5 H5 ((g13.trans ow g4).trans ow g5))⟩
theorem ev_chain {op op' : CmpOp} {k l : Bool} (h1 : OV X (compareOp op) M2 T x T' y tBl k M2) (h2 : k = true → OV X (compareOp op') M2 T' y T'' z tBl l M2) (ha : EV X a Γ M T x M1) (hb : EV X b Γ M1 T' y M2) (hc : k = true → EV X c Γ M2 T'' z M2)
    (hm : lastMarks [op, op'] [b, c] = false := by with_unfolding_all rfl) : EV X (.Compare a [op, op'] [b, c] pos) Γ M tBl (k && l) M2 := fun σ I H Q g s ow q =>
  rd_of (pe_chain rdO_ok rdO_ok pe_rd pe_rd pe_rd hm) (chain2 h1 h2 ha hb hc g s ow fun I' H' g' => q _ I' H' g' rfl)
theorem et_chain {op op' : CmpOp} {k l : Bool} (h1 : OV X (compareOp op) M2 T x T' y tBl k M2) (h2 : k = true → OV X (compareOp op') M2 T' y T'' z tBl l M2) (ha : EV X a Γ M T x M1) (hb : EV X b Γ M1 T' y M2) (hc : k = true → EV X c Γ M2 T'' z M2)
    (hm : lastMarks [op, op'] [b, c] = false := by with_unfolding_all rfl) : ET X (.Compare a [op, op'] [b, c] pos) Γ M (k && l) M2 := fun σ I H Q g s ow q =>
  rdT_of (pt_chain rdO_ok rdO_ok pe_rd pe_rd pe_rd hm) (chain2 h1 h2 ha hb hc g s ow fun I' H' g' => ⟨_, rfl, q I' H' g'⟩)
def tTy : FTy String := ⟨fun _ v n => v = .ty n, fun _ h => h⟩
theorem ev_ty {t : String} (hm : X.mg n = none) (hv : bootBuiltins n = some (.type t)) (hg : Gl X n := by rfl) (hn : n ≠ "__name__" := by decide) (hd : (n == ("__debug__" : Str)) = false := by decide) : EV X (.Name n pos) Γ M tTy t M := fun σ I H Q g s ow k =>
  rd_of (pe_bltn (v := .ty t) hg hm hv rfl hn hd) (k _ I H (Go.refl s ow) rfl)
def TyV (K : PySem.W.Frag) (T : FTy α) (x : α) (t : Value) : Prop := ∀ I H v, Same I H → T.r I v x → TyX K H v t
theorem tv_int {K : PySem.W.Frag} {i : Int} : TyV K tInt i (.type "int") := fun I H v s r => by cases r; exact .base (.int _)
theorem tv_bl {K : PySem.W.Frag} {i : Bool} : TyV K tBl i (.type "bool") := fun I H v s r => by cases r; exact .base (.bl _)
theorem tv_str {K : PySem.W.Frag} {i : Str} : TyV K tStr i (.type "str") := fun I H v s r => by cases r; exact .base (.str _)
structure ClsI (K : PySem.W.Frag) (C : Addr) : Prop where
  c : Cls K C
  a : PySem.W.findIn K (.ref C) "__class__" = some (some (.builtin "object.__class__"))
  n : PySem.W.specialIn K (.builtin "object.__class__") "__get__" = some (some (.builtin "getset_descriptor.__get__"))
  t : PySem.W.takesIn K (.builtin "object.__class__") = some true
  m : PySem.W.mroIn K C (.type "object") = some true
theorem tv_own {K : PySem.W.Frag} {Cl : Addr} (hT : IsIns T Cl x) (ci : ClsI K Cl) : TyV K T x (.ref Cl) := fun I H v s r => by
  obtain ⟨a, dx, fs, rfl, h1⟩ := hT I v r
  exact .base (.ins (s _ _ h1) ci.c ci.a ci.n ci.t ci.m)
theorem cv_isiB {t : Value} {tn : String} {k : Bool} (ht : TyV X.K T x t) (hk : PySem.W.kitOne X.K t (.type tn) = some k) : CV X (.builtin "isinstance") [⟨α, T, x⟩, ⟨String, tTy, tn⟩] M tBl k M := cv2 call_isi fun I H v w Q s ow rv rw k' => by
  cases rw
  exact ⟨v, .ty tn, t, .type tn, k, rfl, .ty tn, ht I H v s rv, hk, k' _ rfl⟩
theorem cv_isiO {t : Value} {Cl : Addr} {k : Bool} (ht : TyV X.K T x t) (hk : PySem.W.kitOne X.K t (.ref Cl) = some k) : CV X (.builtin "isinstance") [⟨α, T, x⟩, ⟨Addr, tAdr, Cl⟩] M tBl k M := cv2 call_isi fun I H v w Q s ow rv rw k' => by
  cases rw
  exact ⟨v, .ref Cl, t, .ref Cl, k, rfl, .own Cl, ht I H v s rv, hk, k' _ rfl⟩
theorem cv_isiBO {t : Value} {tn : String} {Cl : Addr} {k : Bool} (ht : TyV X.K T x t) (hk : PySem.W.kitAny X.K t [.type tn, .ref Cl] = some k) : CV X (.builtin "isinstance") [⟨α, T, x⟩, ⟨Unit, tHT [⟨String, tTy, tn⟩, ⟨Addr, tAdr, Cl⟩], ()⟩] M tBl k M := cv2 call_isiT fun I H v w Q s ow rv rw k' => by
  obtain ⟨tp, us, rfl, h1, r⟩ := rw
  obtain ⟨u1, u2, rfl, q1, q2⟩ := frs2 r
  cases q1; cases q2
  exact ⟨v, tp, [.ty tn, .ref Cl], t, [.type tn, .ref Cl], k, rfl, s _ _ h1, .cons (.ty tn) (.cons (.own Cl) .nil), ht I H v s rv, hk, k' _ rfl⟩
theorem vbl_of {I : Hp} : ∀ {us : List V} {xs : List Bool}, Paired (tBl.r I) us xs → us = xs.map V.bl
  | _, _, .nil => rfl
  | _, _, .cons h t => by rw [vbl_of t]; cases h; rfl
theorem vint_of {I : Hp} : ∀ {us : List V} {xs : List Int}, Paired (tInt.r I) us xs → us = xs.map V.int
  | _, _, .nil => rfl
  | _, _, .cons h t => by rw [vint_of t]; cases h; rfl
theorem vint_to {I : Hp} : ∀ {xs : List Int}, Paired (tInt.r I) (xs.map V.int) xs
  | [] => .nil
  | x :: xs => .cons rfl vint_to
theorem cv_all {xs : List Bool} (hc : X.calm = true) : CV X (.builtin "all") [⟨_, tLs tBl, xs⟩] M tBl (xs.all id) M := cv1 (cr_all hc) fun I H v Q s ow rv k => by
  obtain ⟨p, us, rfl, h1, r⟩ := rv
  rw [vbl_of r] at h1
  exact ⟨p, xs, rfl, SqL.of (s _ _ h1), k _ rfl⟩
theorem cv_any {xs : List Bool} (hc : X.calm = true) : CV X (.builtin "any") [⟨_, tLs tBl, xs⟩] M tBl (xs.any id) M := cv1 (cr_any hc) fun I H v Q s ow rv k => by
  obtain ⟨p, us, rfl, h1, r⟩ := rv
  rw [vbl_of r] at h1
  exact ⟨p, xs, rfl, SqL.of (s _ _ h1), k _ rfl⟩
theorem ov_inSign {c : Nat} {w : Str} : OV X (compareOp .In) M tStr (⟨#[c]⟩ : Str) tStr w tBl (decide (c ∈ w.cps.toList)) M := ov_of op_in_sign fun I H v w' Q s ow r1 r2 k => ⟨c, w, r1, r2, k _ rfl⟩
theorem cv_intS {w : Str} {i : Int} (h1 : PySem.intText? w = some i) (h2 : w.length ≤ 640) : CV X (.type "int") [⟨Str, tStr, w⟩] M tInt i M := cv1 call_int_str fun I H v Q s ow rv k => ⟨w, i, by cases rv; rfl, h1, h2, k _ rfl⟩
theorem rep_size (w : Array Nat) : ∀ (n : Nat) (a : Array Nat), ((List.replicate n w).foldl (· ++ ·) a).size = a.size + n * w.size
  | 0, a => by simp
  | n + 1, a => by
    rw [List.replicate_succ, List.foldl_cons, rep_size w n, Array.size_append, Nat.succ_mul]
    omega
theorem ov_mulS {w : Str} {i : Int} (h1 : 1 < i) (h2 : i ≤ 1000) (h3 : 0 < w.length) (h4 : w.length ≤ 1000) : OV X (binaryOp .Mult) M tStr w tInt i tStr (⟨(List.replicate i.toNat w.cps).foldl (· ++ ·) #[]⟩ : Str) M := fun I H v v2 Q s ow r1 r2 k pins sh σ v' w' iv rv rw => by
  cases r1; cases r2
  obtain ⟨t, rfl⟩ := rv
  obtain ⟨t2, rfl⟩ := rw
  have z1 : decide (i < -(2 ^ 63 : Int)) = false := decide_eq_false (by omega)
  have z2 : decide (i ≥ 2 ^ 63) = false := decide_eq_false (by omega)
  have n1 : ¬ i < 1 := by omega
  have n2 : (i == 1 || w.length == 0) = false := by
    have y1 : (i == 1) = false := by simpa using (by omega : i ≠ 1)
    have y2 : (w.length == 0) = false := by simpa using (by omega : w.length ≠ 0)
    rw [y1, y2]; rfl
  have sz : w.length * i.toNat ≤ 1000 * 1000 := Nat.mul_le_mul h4 (by omega)
  refine PySem.P.mul_str (by rw [z1, z2]; rfl) (fun _ _ => ?_) (fun _ _ => ?_) ?_
  · have y : (w.length : Int) * i ≤ 2 ^ 63 - 1 := by
      have y1 : ((w.length * i.toNat : Nat) : Int) ≤ 1000000 := Int.ofNat_le.mpr sz
      rw [Int.natCast_mul, Int.toNat_of_nonneg (by omega)] at y1
      omega
    have := Int.le_ediv_of_mul_le (by omega) y
    omega
  · have z : sizeLine = 16777216 := sizeLine_eq
    generalize w.length * i.toNat = m at sz
    exact decide_eq_false (by rw [z]; omega)
  · rw [if_neg n1, if_neg (by rw [n2]; exact Bool.false_ne_true)]
    refine ⟨?_, ⟨.str _, H, iv.tok _, ⟨_, rfl⟩, k _ I H (Go.refl s ow) rfl⟩⟩
    have y := rep_size w.cps i.toNat #[]
    have y2 : (⟨(List.replicate i.toNat w.cps).foldl (· ++ ·) #[]⟩ : Str).length = i.toNat * w.length := by
      show (Array.size _) = _
      rw [y]; simp; rfl
    rw [y2, Nat.mul_comm, sizeLine_eq]
    omega
end
end FL
set_option maxHeartbeats 4000000
namespace FL
open PySem L2 PyProof.Rows

section
variable {X : Cx} {W : WX} {Γ : Gm} {M M' M1 M2 M3 M4 A B : Mem} {α β γ δ : Type} {T : FTy α} {T' : FTy β} {T'' : FTy γ} {T3 : FTy δ} {C : FC α} {a b c e o : Expr} {es : List Expr} {pos p p' : Pos} {ts : List FV} {x : α} {y : β} {z : γ} {u : δ} {Φ : Out → Prop} {n : Str}
theorem ev_m1 {id : String} {name : Str} {r : V → List V → Hp → VK → Prop} {apos : Pos} {s1 s2 : Str} (slot : Slot "str" name id) (ty : typeOf (.builtin id) = pure (.type "method_descriptor")) (rule : MtR X id r) (ho : EV X o Γ M tStr s1 M1) (he : EV X e Γ M1 tStr s2 M2)
    (hr : ∀ (I H : Hp) (Q : VK), Same I H → Own M2 I H → (∀ u I' H', Go I H M2 I' H' M3 → T.r I' u x → Q u H') → r (.str s1) [.str s2] H Q)
    (hs : starEach [e] X.env = [(false, eval e X.env)] := by rfl) (hbase : attributeBase o name X.env (eval o X.env) = eval o X.env := by rfl) (hline : (apos.endLine == pos.line) = true := by rfl) : EV X (.Call (.Attribute o name apos) [e] [] pos) Γ M T x M3 := fun σ I H Q g s ow k =>
  rd_of (pe_m1 slot ty rule pe_rd pe_rd hs hbase hline) (ho σ I H _ g s ow fun v I1 H1 g1 r1 => by
    cases r1
    refine ⟨⟨_, rfl⟩, he σ I1 H1 _ (g.mono g1.ii) g1.ih g1.own fun w I2 H2 g2 r2 => ?_⟩
    cases r2
    exact hr I2 H2 Q g2.ih g2.own fun u I3 H3 g3 r3 => k u I3 H3 ((g1.trans ow g2).trans ow g3) r3)
theorem ev_removeprefix {apos : Pos} {s1 s2 : Str} (ho : EV X o Γ M tStr s1 M1) (he : EV X e Γ M1 tStr s2 M2) (hz : s1.length ≤ sizeLine)
    (hs : starEach [e] X.env = [(false, eval e X.env)] := by rfl) (hbase : attributeBase o "removeprefix" X.env (eval o X.env) = eval o X.env := by rfl) (hline : (apos.endLine == pos.line) = true := by rfl) : EV X (.Call (.Attribute o "removeprefix" apos) [e] [] pos) Γ M tStr (Txt.removeprefix s1 s2) M2 :=
  ev_m1 F.slot_str_removeprefix F.type_str_removeprefix mt_removeprefix ho he (fun I H Q s ow k => ⟨s1, s2, rfl, rfl, hz, k _ I H (Go.refl s ow) rfl⟩) hs hbase hline
theorem ev_startswith {apos : Pos} {s1 s2 : Str} (ho : EV X o Γ M tStr s1 M1) (he : EV X e Γ M1 tStr s2 M2)
    (hs : starEach [e] X.env = [(false, eval e X.env)] := by rfl) (hbase : attributeBase o "startswith" X.env (eval o X.env) = eval o X.env := by rfl) (hline : (apos.endLine == pos.line) = true := by rfl) : EV X (.Call (.Attribute o "startswith" apos) [e] [] pos) Γ M tBl (Txt.startswith s1 s2) M2 :=
  ev_m1 F.slot_str_startswith F.type_str_startswith mt_startswith ho he (fun I H Q s ow k => ⟨s1, s2, rfl, rfl, k _ I H (Go.refl s ow) rfl⟩) hs hbase hline
theorem ev_partition {apos : Pos} {s1 s2 : Str} (ho : EV X o Γ M tStr s1 M1) (he : EV X e Γ M1 tStr s2 M2) (hb : (s2.length == 0) = false) (hz : s1.length ≤ sizeLine)
    (hs : starEach [e] X.env = [(false, eval e X.env)] := by rfl) (hbase : attributeBase o "partition" X.env (eval o X.env) = eval o X.env := by rfl) (hline : (apos.endLine == pos.line) = true := by rfl) :
    EV X (.Call (.Attribute o "partition" apos) [e] [] pos) Γ M (tHT [⟨Str, tStr, (Txt.partition s1 s2).1⟩, ⟨Str, tStr, (Txt.partition s1 s2).2.1⟩, ⟨Str, tStr, (Txt.partition s1 s2).2.2⟩]) () M2 :=
  ev_m1 F.slot_str_partition F.type_str_partition mt_partition ho he (fun I H Q s ow k => ⟨s1, s2, rfl, rfl, hb, hz, fun p hp => k _ _ _ (Go.new s ow hp (by show (3 : Nat) ≤ sizeLine; decide)) ⟨p, _, rfl, upd_same, rfl, rfl, rfl, trivial⟩⟩) hs hbase hline
theorem ev_fmtI {i : Int} (h : EV X e Γ M tInt i M1) (hz : i.natAbs.log2 < 1920) : EV X (.FormattedValue e (-1) none pos) Γ M tStr (toString i : Str) M1 := fun σ I H Q g s ow k => rd_of (pe_fmt pe_rd) (h σ I H _ g s ow fun v I1 H1 g1 r1 => .inr ⟨i, r1, hz, k _ I1 H1 g1 rfl⟩)
theorem ev_fmtS {i : Str} (h : EV X e Γ M tStr i M1) (hz : i.length ≤ sizeLine) : EV X (.FormattedValue e (-1) none pos) Γ M tStr i M1 := fun σ I H Q g s ow k => rd_of (pe_fmt pe_rd) (h σ I H _ g s ow fun v I1 H1 g1 r1 => .inl ⟨i, r1, hz, k _ I1 H1 g1 rfl⟩)
inductive FJ (X : Cx) (Γ : Gm) : List Expr → Str → Mem → Str → Mem → Prop
  | nil {w : Str} {M : Mem} : FJ X Γ [] w M w M
  | cons {e : Expr} {es : List Expr} {w y z : Str} {M M1 M2 : Mem} : EV X e Γ M tStr y M1 → (w ++ y).length ≤ sizeLine → FJ X Γ es (w ++ y) M1 z M2 → FJ X Γ (e :: es) w M z M2
theorem pj_rd : ∀ es : List Expr, PJ X es (es.map (rdE X))
  | [] => .nil
  | e :: es => .cons pe_rd (pj_rd es)
theorem fj_run {σ : L2.St} {Q : Str → Hp → Prop} : ∀ {es : List Expr} {w z : Str} {M M2 : Mem} {I H : Hp}, FJ X Γ es w M z M2 → EnvR I σ Γ → Same I H → Own M I H → (∀ I' H', Go I H M I' H' M2 → Q z H') → tJs (es.map (rdE X)) w σ H Q
  | [], _, _, _, _, I, H, .nil, g, s, ow, k => k I H (Go.refl s ow)
  | _ :: _, _, _, _, _, I, H, .cons h hz hr, g, s, ow, k => h σ I H _ g s ow fun v I1 H1 g1 r1 => ⟨_, r1, hz, fj_run hr (g.mono g1.ii) g1.ih g1.own fun I2 H2 g2 => k I2 H2 (g1.trans ow g2)⟩
theorem ev_joined {v1 v2 : Expr} {rest : List Expr} {w : Str} (h : FJ X Γ (v1 :: v2 :: rest) Str.empty M w M1) : EV X (.JoinedStr (v1 :: v2 :: rest) pos) Γ M tStr w M1 := fun σ I H Q g s ow k =>
  rd_of (pe_joined (pj_rd _)) (fj_run h g s ow fun I1 H1 g1 => k _ I1 H1 g1 rfl)
def signs (w : Str) : List Str := w.cps.toList.map fun c => ⟨#[c]⟩
theorem signs_len {w : Str} : (signs w).length = w.cps.size := by unfold signs; rw [List.length_map, Array.length_toList]
theorem signs_at {w : Str} {j c : Nat} (h : w.cps[j]? = some c) : (signs w)[j]? = some ⟨#[c]⟩ := by
  unfold signs
  rw [List.getElem?_map, Array.getElem?_toList, h]; rfl
section
variable {elt iter : Expr} {ifs : List Expr} {scope : Scope} {own : List (Str × Nat)} {w : Str} {ys : List β}
theorem evl_lcS (i : Nat) (own : List (Str × Nat)) (hc : X.calm = true) (hN : X.N.Nodup) (ok : BlkOk X.N X.env.scope scope own) (hit : EV X iter Γ M tStr w M1) (h : LC X scope (wipeG Γ (own.map (·.2))) i ifs elt tStr T' (signs w) M1 ys M2) (hz : w.length ≤ sizeLine)
    (hi : i ∈ own.map (·.2) := by simp) (hg : ∀ (s : Shared) (H : Hp) (C : Addr) (cl : List (Str × Addr)) (fp : List Addr), PG (X.blk s H scope (compEnvC scope cl C X.env) fp) (.Name n p) (gName i) := by exact fun _ _ _ _ _ => pg_name (by assumption) rfl (Or.inl rfl))
    (hs : ∀ x, foldedSetIterable iter X.env x = pure x := by intro _; rfl) : EVL X (.ListComp elt [⟨.Name n p, iter, ifs, 0⟩] scope pos) Γ M T' ys M2 := fun σ I H Q g s o k => by
  refine rd_of (pe_lc hc hN (pi_str pe_rd) ok hg (pts_b ifs) pe_blk hs) (hit σ I H _ g s o fun v I1 H1 g1 r1 => ?_)
  cases r1
  refine ⟨w, rfl, fun D hD => ?_⟩
  have hl : (signs w).length ≤ sizeLine := by rw [signs_len]; exact hz
  obtain ⟨Pv, p0, pl, pt, pd⟩ := lc_run o g g1 hi hl hD h k
  refine lc_it walk_str Pv p0 (fun _ _ _ _ => trivial) (fun j v H' H'' hj pj hv => ?_) (by rw [← signs_len]; exact pd)
  obtain ⟨rfl, c, hcx, rfl⟩ := hv
  exact pt j _ H'' (by rw [signs_len]; exact hj) (fun I' s' => ⟨_, signs_at hcx, rfl⟩) pj
end
section
variable {px py pz pt : Pos} {n1 n2 n3 : Str} {t1 t2 t3 : FV} {kt k2 : Nat} {pt2 : Pos}
theorem s_unp3 (i j k : Nat) (hc : X.calm = true) (hN : X.N.Nodup) (h : EV X e Γ M (tHT [t1, t2, t3]) () M1) (kk : Φ (.next (((Γ.set i (some t1)).set j (some t2)).set k (some t3)) M1))
    (h1 : X.N[i]? = some n1 := by rfl) (h2 : X.N[j]? = some n2 := by rfl) (h3 : X.N[k]? = some n3 := by rfl) (l1 : X.env.scope.names.lookup n1 = some .local := by rfl) (l2 : X.env.scope.names.lookup n2 = some .local := by rfl) (l3 : X.env.scope.names.lookup n3 = some .local := by rfl)
    (hs : swapsWithSole [.Tuple [.Name n1 px, .Name n2 py, .Name n3 pz] kt pt] e pos.line X.env = pure false := by rfl) (hw : swappedStores [.Tuple [.Name n1 px, .Name n2 py, .Name n3 pz] kt pt] e X.env = pure none := by rfl)
    (ha : (assignEach [.Tuple [.Name n1 px, .Name n2 py, .Name n3 pz] kt pt] X.env).map (·.2) = [assign (.Tuple [.Name n1 px, .Name n2 py, .Name n3 pz] kt pt) X.env] := by rfl)
    (hg : PG X (.Tuple [.Name n1 px, .Name n2 py, .Name n3 pz] kt pt) (gTup X.K 3 (gCons (gName i) (gCons (gName j) (gCons (gName k) gNil)))) := by exact pg_tup (by first | assumption | rfl) (pgs_cons (pg_name (by assumption) rfl (.inl rfl)) (pgs_cons (pg_name (by assumption) rfl (.inl rfl)) (pgs_cons (pg_name (by assumption) rfl (.inl rfl)) pgs_nil)))) :
    S1 X W (.Assign [.Tuple [.Name n1 px, .Name n2 py, .Name n3 pz] kt pt] e pos) Γ M Φ := fun σ I H D g s ow q =>
  rdS_of (ps_asg pe_rd hg hs hw ha) (h σ I H _ g s ow fun v I1 H1 g1 r1 => by
    obtain ⟨a, us, rfl, hu, r⟩ := r1
    obtain ⟨u1, u2, u3, rfl, r1, r2, r3⟩ := frs3 r
    exact ⟨a, _, rfl, SqT.of (g1.ih _ _ hu), rfl, u1, [u2, u3], rfl, u2, [u3], rfl, u3, [], rfl, rfl, (q _ kk) _ I1 H1 g1 ((((g.mono g1.ii).set r1 i).set r2 j).set r3 k)⟩)
theorem s_unp2 (i j : Nat) (hc : X.calm = true) (hN : X.N.Nodup) (h : EV X e Γ M (tHT [t1, t2]) () M1) (kk : Φ (.next ((Γ.set i (some t1)).set j (some t2)) M1))
    (h1 : X.N[i]? = some n1 := by rfl) (h2 : X.N[j]? = some n2 := by rfl) (l1 : X.env.scope.names.lookup n1 = some .local := by rfl) (l2 : X.env.scope.names.lookup n2 = some .local := by rfl)
    (hs : swapsWithSole [.Tuple [.Name n1 px, .Name n2 py] kt pt] e pos.line X.env = pure false := by rfl) (hw : swappedStores [.Tuple [.Name n1 px, .Name n2 py] kt pt] e X.env = pure none := by rfl)
    (ha : (assignEach [.Tuple [.Name n1 px, .Name n2 py] kt pt] X.env).map (·.2) = [assign (.Tuple [.Name n1 px, .Name n2 py] kt pt) X.env] := by rfl)
    (hg : PG X (.Tuple [.Name n1 px, .Name n2 py] kt pt) (gTup X.K 2 (gCons (gName i) (gCons (gName j) gNil))) := by exact pg_tup (by first | assumption | rfl) (pgs_cons (pg_name (by assumption) rfl (.inl rfl)) (pgs_cons (pg_name (by assumption) rfl (.inl rfl)) pgs_nil))) :
    S1 X W (.Assign [.Tuple [.Name n1 px, .Name n2 py] kt pt] e pos) Γ M Φ := fun σ I H D g s ow q =>
  rdS_of (ps_asg pe_rd hg hs hw ha) (h σ I H _ g s ow fun v I1 H1 g1 r1 => by
    obtain ⟨a, us, rfl, hu, r⟩ := r1
    obtain ⟨u1, u2, rfl, r1, r2⟩ := frs2 r
    exact ⟨a, _, rfl, SqT.of (g1.ih _ _ hu), rfl, u1, [u2], rfl, u2, [], rfl, rfl, (q _ kk) _ I1 H1 g1 (((g.mono g1.ii).set r1 i).set r2 j)⟩)
theorem s_par (i j : Nat) (hc : X.calm = true) (hN : X.N.Nodup) (hij : i ≠ j) (h : EA X [a, b] Γ M [t1, t2] M1) (kk : Φ (.next ((Γ.set i (some t1)).set j (some t2)) M1))
    (hw : swappedStores [.Tuple [.Name n1 px, .Name n2 py] kt pt] (.Tuple [a, b] k2 pt2) X.env = pure (some [n1, n2]) := by rfl)
    (h1 : X.N[i]? = some n1 := by rfl) (h2 : X.N[j]? = some n2 := by rfl) (l1 : X.env.scope.names.lookup n1 = some .local := by rfl) (l2 : X.env.scope.names.lookup n2 = some .local := by rfl)
    (hs : swapsWithSole [.Tuple [.Name n1 px, .Name n2 py] kt pt] (.Tuple [a, b] k2 pt2) pos.line X.env = pure false := by rfl) :
    S1 X W (.Assign [.Tuple [.Name n1 px, .Name n2 py] kt pt] (.Tuple [a, b] k2 pt2) pos) Γ M Φ := fun σ I H D g s ow q =>
  rdS_of (ps_par hc hN h1 h2 hij l1 l2 pa_rd hw hs) (h σ I H _ g s ow fun vs I1 H1 g1 r1 => by
    obtain ⟨u1, u2, rfl, r1, r2⟩ := frs2 r1
    exact ⟨u1, u2, rfl, (q _ kk) _ I1 H1 g1 (((g.mono g1.ii).set r1 i).set r2 j)⟩)
end
theorem ov_catLs {xs ys : List α} (hz : xs.length + ys.length ≤ sizeLine) : OV X (binaryOp .Add) M (tLs T) xs (tLs T) ys (tLs T) (xs ++ ys) M := fun I H v w Q s ow r1 r2 k => by
  obtain ⟨p1, us, rfl, h1, q1⟩ := r1
  obtain ⟨p2, ws, rfl, h2, q2⟩ := r2
  have l1 := Paired.length q1
  have l2 := Paired.length q2
  have hw : WfO (.lst (us ++ ws)) := by show (us ++ ws).length ≤ sizeLine; rw [List.length_append, l1, l2]; exact hz
  refine rdO_of op_cat ⟨p1, p2, us, ws, rfl, rfl, s _ _ h1, s _ _ h2, by rw [l1, l2]; exact hz, fun p hp => ?_⟩
  have gn := Go.new s ow hp hw
  exact k _ _ _ gn ⟨p, _, rfl, upd_same, paired_mono gn.ii (paired_append q1 q2)⟩
theorem paired_take {R : V → α → Prop} : ∀ {us : List V} {xs : List α} (n : Nat), Paired R us xs → Paired R (us.take n) (xs.take n)
  | _, _, 0, _ => .nil
  | _, _, n + 1, .nil => .nil
  | _, _, n + 1, .cons h t => .cons h (paired_take n t)
theorem evl_take {xs : List α} {i : Int} {sp : Pos} (he : EV X e Γ M (tLs T) xs M1) (hk : EV X b Γ M1 tInt i M2) (h0 : 0 ≤ i) : EVL X (.Subscript e (.Slice none (some b) none sp) pos) Γ M T (xs.take i.toNat) M2 := fun σ I H Q g s ow k =>
  rd_of (pe_slice sl_list pe_rd po_none (po_some pe_rd)) (he σ I H _ g s ow fun v I1 H1 g1 r1 => by
    obtain ⟨p1, us, rfl, h1, q1⟩ := r1
    refine hk σ I1 H1 _ (g.mono g1.ii) g1.ih g1.own fun w I2 H2 g2 r2 => ?_
    cases r2
    refine ⟨i, rfl, p1, us, rfl, SqL.of (g2.ih _ _ (g2.ii _ _ h1)), fun p hp => ?_⟩
    have e1 : cutV us none (some i) = us.take i.toNat := by
      unfold cutV
      show (us.drop 0).take ((if i < 0 then (i + (us.length : Int)).toNat else min i.toNat us.length) - 0) = _
      rw [if_neg (by omega), List.drop_zero, Nat.sub_zero, ← List.take_take, List.take_length]
    rw [e1]
    have g12 := g1.trans ow g2
    have hwu : us.length ≤ sizeLine := g1.own.wf _ _ (g1.ih _ _ h1)
    have hw : WfO (.lst (us.take i.toNat)) := by show (us.take i.toNat).length ≤ sizeLine; rw [List.length_take]; omega
    exact k p I2 _ (g12.al p hp) (g12.trans ow (Go.newO g2.ih g2.own hp ⟨_, rfl, paired_take _ (paired_mono g2.ii q1)⟩ hw)))
theorem ev_clsI {Cl : Addr} {i : Int} {t : Tok} (h : EV X o Γ M tAdr Cl M1) (hr : PySem.W.readsIn X.K Cl (.type "type") = true) (hf : PySem.W.findCls X.K (.ref Cl) (.type "type") n = some (.val (.int i t)))
    (hb : attributeBase o n X.env (eval o X.env) = eval o X.env := by rfl) : EV X (.Attribute o n pos) Γ M tInt i M1 := EV.mk fun σ I H Q g s ow k pins sh iv =>
  attr_of hb (thn (EV.go h σ I H (fun v H1 => v = .ref Cl ∧ ∀ u, tInt.r I u i → Q u H1) g s ow (fun v I1 H1 g1 r1 => ⟨r1, fun u hu => k u I1 H1 g1 hu⟩) pins sh iv) fun u s1 hh => by
    obtain ⟨v, H1, I1, rv, rfl, q⟩ := hh
    obtain rfl : u = Value.ref Cl := rv
    exact PySem.W.cls_value I1.kIn hr hf rfl ⟨.int i, H1, I1.tok _, ⟨t, rfl⟩, q _ rfl⟩)
theorem evn_call0 {f : Addr} (hm : X.mg n = some (.ref f)) (hk : PySem.W.keepIn X.K (.ref f) = true) (hc : CVN X (.ref f) [] M C x M2) (hg : Gl X n := by rfl) (hdb : (n == ("__debug__" : Str)) = false := by decide) :
    EVN X (.Call (.Name n p) [] [] pos) Γ M C x M2 := EVN.mk fun σ I H Q g s ow k pins sh iv =>
  wpAny_Call_Name_kw (ld_glob iv hg hm (PySem.W.callWith_K0 iv.kIn hk (hc I H [] Q s ow trivial k pins sh σ [] iv .nil)) hdb)
def CDivX (_ j : Int) : Prop := j ≠ 0 ∧ j.natAbs.log2 < 9000
theorem op_fdivX : OpR X (binaryOp .FloorDiv) (rI CDivX fun i j => .int (i.fdiv j)) := opI fun i j _ _ _ _ _ hc q => floordiv_int hc.1 q (.inl (PyProof.noPylong_of_log2 hc.2))
theorem ov_fdiv {i j : Int} (hc : CDivX i j) : OV X (binaryOp .FloorDiv) M tInt i tInt j tInt (i.fdiv j) M := ov_I op_fdivX hc
theorem ov_pow {i j : Int} (hc : CPow i j) : OV X (binaryOp .Pow) M tInt i tInt j tInt (i ^ j.toNat) M := ov_I op_pow hc
end
end FL
set_option maxHeartbeats 4000000
namespace FL
open PySem L2 PyProof.Rows

section
variable {X : Cx} {W : WX} {Γ : Gm} {M M' M1 M2 M3 M4 A B : Mem} {α β γ δ : Type} {T : FTy α} {T' : FTy β} {T'' : FTy γ} {C : FC α} {a b c e o : Expr} {es : List Expr} {pos p p' : Pos} {ts : List FV} {x : α} {y : β} {z : γ} {Φ : Out → Prop} {n : Str}
def LH (X : Cx) (W : WX) (i : Nat) (body : List Stmt) (Φ : Out → Prop) : List FV → Gm → Mem → Prop
  | [], Γ, M => Φ (.next Γ M)
  | t :: ts, Γ, M => SV X W body (Γ.set i (some t)) M (Turn1 Φ fun Γ' M' => LH X W i body Φ ts Γ' M')
theorem dropH {ts : List FV} {i : Nat} {t : FV} (h : ts[i]? = some t) : ts.drop i = t :: ts.drop (i + 1) := by
  obtain ⟨hi, e⟩ := List.getElem?_eq_some_iff.mp h
  rw [List.drop_eq_getElem_cons hi, e]
theorem frs_getU {I : Hp} {us : List V} {ts : List FV} {i : Nat} {u : V} (r : FRs I us ts) (h : us[i]? = some u) : ∃ t, ts[i]? = some t ∧ FR I u t := by
  have hl := r.length
  obtain ⟨hi, e⟩ := List.getElem?_eq_some_iff.mp h
  have ht : ts[i]? = some (ts[i]'(by omega)) := List.getElem?_eq_getElem (by omega)
  obtain ⟨u', hu, ru⟩ := frs_get r ht
  rw [h] at hu; cases hu
  exact ⟨_, ht, ru⟩
theorem s_forH {iter : Expr} {body : List Stmt} (i : Nat) (hp : PassesOwn (model X.prog X.w) X.A X.env X.xe) (hc : X.calm = true) (hN : X.N.Nodup) (h : EV X iter Γ M (tHL ts) () M1) (k : LH X W i body Φ ts Γ M1)
    (hi : X.N[i]? = some n := by rfl) (hx : Loc X.env.scope n := by first | exact Or.inl rfl | exact Or.inr rfl) (hf : X.fn n = true ∨ X.env.scope.names.lookup n = some .local := by first | exact .inl rfl | exact .inr rfl) (hfs : ∀ x, foldedSetIterable iter X.env x = pure x := by intro _; rfl) :
    S1 X W (.For (.Name n p) iter body [] pos) Γ M Φ := fun σ I H D g s o q => by
  refine rdS_of (ps_for hp hc (pi_list pe_rd) (pg_name hN hi hx hf) pss_rd hfs) (h σ I H _ g s o fun v I1 H1 g1 r1 => ?_)
  obtain ⟨a, us, rfl, h2, h3⟩ := r1
  refine ⟨a, rfl, ⟨us, SqL.of (g1.ih _ _ h2)⟩, for_list (xs := us) (fun j σ' H' => ∃ I' Γ' M', EnvR I' σ' Γ' ∧ Go I H M I' H' M' ∧ Same I1 I' ∧ LH X W i body Φ (ts.drop j) Γ' M') ⟨I1, Γ, M1, g.mono g1.ii, g1, Same.refl _, k⟩ ?_ ?_ ?_⟩
  · rintro j σ' H' _ ⟨I', Γ', M', e', g', s', k'⟩
    exact SqL.of (g'.ih _ _ (s' _ _ h2))
  · rintro j u σ' H' hu ⟨I', Γ', M', e', g', s', k'⟩
    obtain ⟨t, ht, rt⟩ := frs_getU h3 hu
    rw [dropH ht] at k'
    exact (show SV X W body _ _ _ from k') _ I' H' _ (e'.set (t := t) (rt.mono s') i) g'.ih g'.own (turn_acc o g' q fun Γ2 M2 σ2 I2 H2 k2 g2 e2 s2 => ⟨I2, Γ2, M2, e2, g2, s'.trans s2, k2⟩)
  · rintro σ' H' ⟨I', Γ', M', e', g', s', k'⟩
    have hl : us.length = ts.length := h3.length
    rw [List.drop_eq_nil_of_le (by omega)] at k'
    exact (q _ (show Φ (.next Γ' M') from k')) σ' I' H' g' e'
theorem s_appendH {q : Addr} {ap p2 : Pos} (ha : EV X a Γ M tAdr q M1) (hv : EV X e Γ M1 T x (A ++ [⟨q, _, cHet ts, ()⟩] ++ B)) (hz : ts.length < 1000) (k : Φ (.next Γ (A ++ [⟨q, _, cHet (ts ++ [⟨α, T, x⟩]), ()⟩] ++ B))) (hm : (⟨q, _, cHet ts, ()⟩ : FCell) ∈ M1)
    (hp : ∀ {to : TE} {ta : TA}, PE X a to → PA X [e] ta → PE X (.Call (.Attribute a "append" ap) [e] [] p2) (tBM X.K "list" rAppend to ta) := by exact fun h1 h2 => pe_bm PySem.F.plainAttrs_list PySem.F.slot_list_append PySem.F.type_list_append mt_append h1 h2)
    (hse : starEach [e] X.env = (false, eval e X.env) :: starEach [] X.env := by rfl)
    (hs : swapsWith (.Call (.Attribute a "append" ap) [e] [] p2) none pos.line X.env = pure false := by rfl) : S1 X W (.Expr (.Call (.Attribute a "append" ap) [e] [] p2) pos) Γ M Φ := fun σ I H D g s o kk =>
  rdS_of (ps_expr (hp pe_rd (pa_cons pe_rd pa_nil hse)) hs) (ha σ I H _ g s o fun v I1 H1 g1 r1 => by
    cases r1
    obtain ⟨_, u1, h1, us1, rfl, rr1⟩ := g1.own.at_ _ hm
    refine ⟨.inl ⟨rfl, _, SqL.of h1⟩, hv σ I1 H1 _ (g.mono g1.ii) g1.ih g1.own fun w I2 H2 g2 r2 => ?_⟩
    have g12 := g1.trans o g2
    obtain ⟨_, u, h2, us, rfl, r⟩ := g12.own.at_ ⟨q, _, cHet ts, ()⟩ (by simp)
    have hl := r.length
    have hlt : us.length < sizeLine := by rw [hl, sizeLine_eq]; omega
    have hzz : WfO (.lst (us ++ [w])) := by show (us ++ [w]).length ≤ sizeLine; rw [List.length_append]; exact hlt
    have gp := (Go.put1 (c := ⟨q, _, cHet ts, ()⟩) (c' := ⟨q, _, cHet (ts ++ [⟨α, T, x⟩]), ()⟩) (u := .lst (us ++ [w])) g12.ih g12.own.part rfl ⟨_, rfl, frs_append (ws := [w]) (qs := [⟨α, T, x⟩]) r ⟨r2, trivial⟩⟩ hzz).frame g12.own
    exact ⟨q, us, w, rfl, rfl, h2, hlt, (kk _ k) σ I2 _ (g12.trans o gp) (g.mono g12.ii)⟩)
theorem own_frz {I H : Hp} {c : FCell} (s : Same I H) (o : Own (A ++ [c] ++ B) I H) : ∃ u, H c.a = some u ∧ c.C.r I u c.x ∧ I c.a = none ∧ Same I (upd I c.a u) ∧ Go I H (A ++ [c] ++ B) (upd I c.a u) H (A ++ B) := by
  have g0 : Go I H (A ++ [c] ++ B) I H (c :: (A ++ B)) := (Go.refl s o).perm (by rw [List.append_assoc]; exact List.perm_middle)
  obtain ⟨u, h1, h2, h3, h4, h5⟩ := g0.frz
  exact ⟨u, h1, h2, h3, h4, h5⟩
theorem sv_frz {sts : List Stmt} (i : Nat) {c : FCell} {T : FTy c.α} (z : Frz c.C T) (h : SV X W sts (Γ.set i (some ⟨c.α, T, c.x⟩)) (A ++ B) Φ) (hi : Γ[i]? = some (some ⟨Addr, tAdr, c.a⟩) := by rfl) : SV X W sts Γ (A ++ [c] ++ B) Φ := fun σ I H D g s o k => by
  obtain ⟨u, h1, h2, h3, h4, h5⟩ := own_frz s o
  obtain ⟨v, hv, hr⟩ := g.get hi
  cases hr
  have g2 : EnvR (upd I c.a u) σ (Γ.set i (some ⟨c.α, T, c.x⟩)) := by
    have e : σ.set i (some (.ref c.a)) = σ := by
      refine List.ext_getElem? fun j => ?_
      rw [List.getElem?_set]
      by_cases hj : i = j
      · subst hj
        have := (List.getElem?_eq_some_iff.mp hv).1
        rw [if_pos rfl, if_pos this, hv]
      · rw [if_neg hj]
    have y := (g.mono h4).set (t := ⟨c.α, T, c.x⟩) (v := .ref c.a) (z.to h3 h2) i
    rw [e] at y
    exact y
  exact h σ (upd I c.a u) H D g2 h5.ih h5.own fun out ho => (k out ho).after o h5
def EX (X : Cx) (W : WX) (e : Expr) (Γ : Gm) (M : Mem) (x : Exn) (M' : Mem) : Prop :=
  ∀ (σ : L2.St) (I H : Hp) (Q : VK), EnvR I σ Γ → Same I H → Own M I H → (∀ cls d I' H', Go I H M I' H' M' → ExnR I' H' cls d x → W cls d σ H') → rdE X e σ H Q
theorem EX.mk {X : Cx} {W : WX} {e : Expr} {Γ : Gm} {M : Mem} {x : Exn} {M' : Mem} (h : ∀ (σ : L2.St) (I H : Hp) (Q : VK), EnvR I σ Γ → Same I H → Own M I H → (∀ cls d I' H', Go I H M I' H' M' → ExnR I' H' cls d x → W cls d σ H') → ∀ (pins : List (Addr × Obj)) (s : Shared), Inv X pins σ H s → wpAny (model X.prog X.w) X.A (eval e X.env) (EP X pins σ Q) X.xe s) : EX X W e Γ M x M' := fun σ I H Q g s o k => ⟨h σ I H Q g s o k⟩
variable {ex : Exn}
theorem s_exprX (h : EX X W e Γ M ex M1) (k : Φ (.exc ex Γ M1)) (hs : swapsWith e none pos.line X.env = pure false := by rfl) : S1 X W (.Expr e pos) Γ M Φ := fun σ I H D g s ow q =>
  rdS_of (ps_expr pe_rd hs) (h σ I H _ g s ow fun cls d I1 H1 g1 r1 => (q _ k) cls d σ I1 H1 g1 (g.mono g1.ii) r1)
theorem s_retX (h : EX X W e Γ M ex M1) (k : Φ (.exc ex Γ M1)) : S1 X W (.Return (some e) pos) Γ M Φ := fun σ I H D g s ow q =>
  rdS_of (ps_ret pe_rd) (h σ I H _ g s ow fun cls d I1 H1 g1 r1 => (q _ k) cls d σ I1 H1 g1 (g.mono g1.ii) r1)
theorem s_setX {i : Nat} (h : EX X W e Γ M ex M1) (k : Φ (.exc ex Γ M1)) (hN : X.N.Nodup) (hi : X.N[i]? = some n) (hx : Loc X.env.scope n := by first | exact Or.inl rfl | exact Or.inr rfl)
    (hs : swapsWith e (some (.Name n p)) pos.line X.env = pure false := by rfl) (hf : X.fn n = true ∨ X.env.scope.names.lookup n = some .local := by first | exact .inl rfl | exact .inr rfl) : S1 X W (.Assign [.Name n p] e pos) Γ M Φ := fun σ I H D g s ow q =>
  rdS_of (ps_set hN hi hx pe_rd hs hf) (h σ I H _ g s ow fun cls d I1 H1 g1 r1 => (q _ k) cls d σ I1 H1 g1 (g.mono g1.ii) r1)
theorem ex_opR {op : Operator} (ha : EV X a Γ M T x M1) (hb : EX X W b Γ M1 ex M2) : EX X W (.BinOp a op b pos) Γ M ex M2 := fun σ I H Q g s ow k =>
  rd_of (pe_op rdO_ok pe_rd pe_rd) (ha σ I H _ g s ow fun v I1 H1 g1 r1 => hb σ I1 H1 _ (g.mono g1.ii) g1.ih g1.own fun cls d I2 H2 g2 r2 => k cls d I2 H2 (g1.trans ow g2) r2)
def OX (X : Cx) (W : WX) (f : Value → Value → Sem Value) (M : Mem) (T : FTy α) (x : α) (T' : FTy β) (y : β) (ex : Exn) (M' : Mem) : Prop :=
  ∀ (I H : Hp) (v w : V) (Q : VK) (pins : List (Addr × Obj)) (s : Shared) (σ : L2.St) (v' w' : Value), Same I H → Own M I H → T.r I v x → T'.r I w y → (∀ cls d I' H', Go I H M I' H' M' → ExnR I' H' cls d ex → W cls d σ H') → Inv X pins σ H s → RelV v v' → RelV w w' → wpAny (model X.prog X.w) X.A (f v' w') (EP X pins σ Q) X.xe s
theorem ex_op {op : Operator} (ho : OX X W (binaryOp op) M2 T x T' y ex M3) (ha : EV X a Γ M T x M1) (hb : EV X b Γ M1 T' y M2) : EX X W (.BinOp a op b pos) Γ M ex M3 := EX.mk fun σ I H Q g s ow k pins sh iv => by
  refine wpAny_BinOp (thn (EV.go ha σ I H (fun v H1 => ∃ I1, Go I H M I1 H1 M1 ∧ T.r I1 v x) g s ow (fun v I1 H1 g1 r1 => ⟨I1, g1, r1⟩) pins sh iv) fun v' s1 ⟨v, H1, iv1, rv, I1, g1, r1⟩ => ?_)
  refine thn (EV.go hb σ I1 H1 (fun w H2 => ∃ I2, Go I H M I2 H2 M2 ∧ T.r I2 v x ∧ T'.r I2 w y) (g.mono g1.ii) g1.ih g1.own (fun w I2 H2 g2 r2 => ⟨I2, g1.trans ow g2, T.mono g2.ii r1, r2⟩) pins s1 iv1) fun w' s2 ⟨w, H2, iv2, rw, I2, g2, q1, q2⟩ => ?_
  exact ho I2 H2 v w Q pins s2 σ v' w' g2.ih g2.own q1 q2 (fun cls d I3 H3 g3 r3 => k cls d I3 H3 (g2.trans ow g3) r3) iv2 rv rw
end
end FL
set_option maxHeartbeats 4000000
namespace FL
open PySem L2 PyProof.Rows

section
variable {X : Cx} {W : WX} {Γ : Gm} {M M' M1 M2 M3 M4 A B : Mem} {α β γ δ : Type} {T : FTy α} {T' : FTy β} {T'' : FTy γ} {C : FC α} {a b c e o : Expr} {es : List Expr} {pos p p' : Pos} {ts : List FV} {x : α} {y : β} {z : γ} {Φ : Out → Prop} {n : Str} {f g Cl : Addr} {ex : Exn}
theorem ex_call (hm : X.mg n = some (.ref f)) (hk : PySem.W.keepIn X.K (.ref f) = true) (ha : EA X (e :: es) Γ M ts M1) (hc : CVX X W (.ref f) ts M1 ex M2) (hg : Gl X n := by rfl)
    (hdb : (n == ("__debug__" : Str)) = false := by decide) (he : starEach (e :: es) X.env = (false, eval e X.env) :: starEach es X.env := by rfl) (hpl : (backTo pos (starEach es X.env)).any (·.1) = false := by rfl) :
    EX X W (.Call (.Name n p) (e :: es) [] pos) Γ M ex M2 := EX.mk fun σ I H Q g s ow k pins sh iv =>
  wpAny_Call_Name_kw (ld_glob iv hg hm (PySem.W.callWith_K (h₀ := X.base) iv.ok.mod.kin hk (thn (EA.go ha σ I H (fun vs H1 => ∃ I1, Go I H M I1 H1 M1 ∧ FRs I1 vs ts) g s ow (fun vs I1 H1 g1 r1 => ⟨I1, g1, r1⟩) pos pins sh iv) fun us s1 ⟨vs, H1, iv1, r, I1, g1, r1⟩ =>
    ⟨iv1.kIn, hc I1 H1 vs Q g1.ih g1.own r1 pins s1 σ us (fun cls d I2 H2 g2 r2 => k cls d I2 H2 (g1.trans ow g2) r2) iv1 r⟩) he hpl) hdb)
theorem ex_meth {pl : Sem Bool} {apos : Pos} {m : Str} (ho : EV X o Γ M T x M1) (hT : ∀ I v, T.r I v x → ∃ a dx fs, v = .ref a ∧ I a = some (.ins Cl dx fs) ∧ fs.lookup m = none) (c : Cls X.K Cl) (hm : Meth X.K Cl m f) (ha : EA X (e :: es) Γ M1 ts M2)
    (hc : CVX X W (.ref f) (⟨α, T, x⟩ :: ts) M2 ex M3)
    (hst : starEach (e :: es) X.env = (false, eval e X.env) :: starEach es X.env := by rfl) (hpl : (backTo pos (starEach es X.env)).any (·.1) = false := by rfl)
    (ht : eval (.Call (.Attribute o m apos) (e :: es) [] pos) X.env = (do
      let ov ← eval o X.env
      standAt apos.atName
      let (f, first) ← holding [ov] (getMethod ov m pl)
      callWith pos f first (backTo pos (starEach (e :: es) X.env)) (backToKw pos (keywordEach [] X.env))) := by rfl) :
    EX X W (.Call (.Attribute o m apos) (e :: es) [] pos) Γ M ex M3 := EX.mk fun σ I H Q g s ow k pins sh iv => by
  refine PySem.W.methodCall_KW (pl := pl) (thn (EV.go ho σ I H (fun v H1 => ∃ I1, Go I H M I1 H1 M1 ∧ T.r I1 v x) g s ow (fun v I1 H1 g1 r1 => ⟨I1, g1, r1⟩) pins sh iv) fun u s1 ⟨v, H1, iv1, rx, I1, g1, r1⟩ => ?_) ht
  obtain ⟨a, dx, fs, rfl, h1, l⟩ := hT I1 v r1
  obtain rfl : u = Value.ref a := rx
  refine getmeth_ok iv1 (g1.ih _ _ h1) c hm l ?_
  refine PySem.W.callWith_K (first := [.ref a]) (h₀ := X.base) iv1.ok.mod.kin hm.kp (thn (EA.go ha σ I1 H1 (fun vs H2 => ∃ I2, Go I1 H1 M1 I2 H2 M2 ∧ FRs I2 vs ts) (g.mono g1.ii) g1.ih g1.own (fun vs I2 H2 g2 r2 => ⟨I2, g2, r2⟩) pos pins s1 iv1) fun us s2 ⟨vs, H2, iv2, r, I2, g2, r2⟩ => ?_) hst hpl
  exact ⟨iv2.kIn, hc I2 H2 (.ref a :: vs) Q g2.ih g2.own ⟨T.mono g2.ii r1, r2⟩ pins s2 σ (.ref a :: us) (fun cls d I3 H3 g3 r3 => k cls d I3 H3 ((g1.trans ow g2).trans ow g3) r3) iv2 (.cons rfl r)⟩
theorem ex_stat {pl : Sem Bool} {apos : Pos} {m : Str} (ho : ∀ (M : Mem), EV X o Γ M tAdr Cl M) (st : Stat X.K Cl m f) (ha : EA X (e :: es) Γ M ts M2) (hc : CVX X W (.ref f) ts M2 ex M3)
    (hst : starEach (e :: es) X.env = (false, eval e X.env) :: starEach es X.env := by rfl) (hpl : (backTo pos (starEach es X.env)).any (·.1) = false := by rfl)
    (ht : eval (.Call (.Attribute o m apos) (e :: es) [] pos) X.env = (do
      let ov ← eval o X.env
      standAt apos.atName
      let (f, first) ← holding [ov] (getMethod ov m pl)
      callWith pos f first (backTo pos (starEach (e :: es) X.env)) (backToKw pos (keywordEach [] X.env))) := by rfl) :
    EX X W (.Call (.Attribute o m apos) (e :: es) [] pos) Γ M ex M3 := EX.mk fun σ I H Q g s ow k pins sh iv => by
  refine PySem.W.methodCall_KW (pl := pl) (thn (EV.go (ho M) σ I H (fun v H1 => ∃ I1, Go I H M I1 H1 M ∧ tAdr.r I1 v Cl) g s ow (fun v I1 H1 g1 r1 => ⟨I1, g1, r1⟩) pins sh iv) fun u s1 ⟨v, H1, iv1, rx, I1, g1, r1⟩ => ?_) ht
  cases r1
  obtain rfl : u = Value.ref Cl := rx
  obtain ⟨pp, hp, rest, hre⟩ := st.at_
  refine PySem.W.method_cls iv1.kIn st.ga (PySem.W.cls_bind iv1.kIn st.rd hp (wpAny_call (PySem.W.sm_get (s := { s1 with toks := s1.toks + 1 }) (iv1.tok _).kIn hre (PySem.W.handed_on rfl ?_))))
  refine PySem.W.callWith_K (first := []) (h₀ := X.base) iv1.ok.mod.kin st.kp (thn (EA.go ha σ I1 H1 (fun vs H2 => ∃ I2, Go I1 H1 M I2 H2 M2 ∧ FRs I2 vs ts) (g.mono g1.ii) g1.ih g1.own (fun vs I2 H2 g2 r2 => ⟨I2, g2, r2⟩) pos pins _ (iv1.tok _)) fun us s2 ⟨vs, H2, iv2, r, I2, g2, r2⟩ => ?_) hst hpl
  exact ⟨iv2.kIn, hc I2 H2 vs Q g2.ih g2.own r2 pins s2 σ us (fun cls d I3 H3 g3 r3 => k cls d I3 H3 ((g1.trans ow g2).trans ow g3) r3) iv2 r⟩
theorem ox_own {op : Operator} (hT : IsIns T Cl x) (hT' : IsIns T' Cl y) (ob : OpB X.K Cl op f) (hc : CVX X W (.ref f) [⟨α, T, x⟩, ⟨β, T', y⟩] M ex M') : OX X W (binaryOp op) M T x T' y ex M' := fun I H v w Q pins sh σ v' w' s ow r1 r2 k iv rv rw => by
  obtain ⟨a, dx, fs, rfl, h1⟩ := hT I v r1
  obtain ⟨b, dx2, fs2, rfl, h2⟩ := hT' I w r2
  obtain rfl : v' = Value.ref a := rv
  obtain rfl : w' = Value.ref b := rw
  obtain ⟨m, Fr⟩ := iv.fr
  obtain ⟨od, J⟩ := ins_at iv (s _ _ h1)
  obtain ⟨od2, J2⟩ := ins_at iv (s _ _ h2)
  exact PySem.W.binop_K Fr iv.ok.mod.kin J J2.type ob.sf ob.at_ ob.fn (wpAny_mono (hc I H [.ref a, .ref b] Q s ow ⟨r1, r2, trivial⟩ pins sh σ [.ref a, .ref b] k iv (.cons rfl (.cons rfl .nil))) (back_of fun _ _ q => q) fun _ _ q => q)
theorem ox_ownI {op : Operator} {j : Int} (hT : IsIns T Cl x) (ob : OpB X.K Cl op f) (hc : CVX X W (.ref f) [⟨α, T, x⟩, ⟨Int, tInt, j⟩] M ex M') : OX X W (binaryOp op) M T x tInt j ex M' := fun I H v w Q pins sh σ v' w' s ow r1 r2 k iv rv rw => by
  obtain ⟨a, dx, fs, rfl, h1⟩ := hT I v r1
  cases r2
  obtain rfl : v' = Value.ref a := rv
  obtain ⟨t, rfl⟩ := rw
  obtain ⟨m, Fr⟩ := iv.fr
  obtain ⟨od, J⟩ := ins_at iv (s _ _ h1)
  obtain ⟨rc, h3, h4⟩ := ob.r
  obtain ⟨fo, h5⟩ := ob.i1
  obtain ⟨ro, h6⟩ := ob.i2
  exact PySem.W.ksp_binT Fr iv.ok.mod.kin J (by rfl) ob.sf ob.at_ ob.fn h3 h4 h5 h6 ob.su (wpAny_mono (hc I H [.ref a, .int j] Q s ow ⟨r1, rfl, trivial⟩ pins sh σ [.ref a, .int j t] k iv (.cons rfl (.cons ⟨t, rfl⟩ .nil))) (back_of fun _ _ q => q) fun _ _ q => q)
theorem ox_refl {op : Operator} {id : String} {Bt : Builtin} {j : Int} (io : IntOp op id Bt) (hT : IsIns T Cl x) (rf : OpRf X.K Cl op g) (hc : CVX X W (.ref g) [⟨α, T, x⟩, ⟨Int, tInt, j⟩] M ex M') : OX X W (binaryOp op) M tInt j T x ex M' := fun I H v w Q pins sh σ v' w' s ow r1 r2 k iv rv rw => by
  obtain ⟨a, dx, fs, rfl, h1⟩ := hT I w r2
  cases r1
  obtain rfl : w' = Value.ref a := rw
  obtain ⟨t, rfl⟩ := rv
  obtain ⟨mA, O, _⟩ := ins_get iv.hok (s _ _ h1)
  obtain ⟨od, J, _⟩ := O.look
  exact binop_refl iv.kIn J O.obj io rf (wpAny_mono (hc I H [.ref a, .int j] Q s ow ⟨r2, rfl, trivial⟩ pins sh σ [.ref a, .int j t] k iv (.cons rfl (.cons ⟨t, rfl⟩ .nil))) (back_of fun _ _ q => q) fun _ _ q => q)
theorem Go.forget {I H I' H' : Hp} {c : FCell} (g : Go I H M I' H' (c :: M')) : Go I H M I' H' M' :=
  ⟨g.ii, g.ih, ⟨(List.nodup_cons.mp g.own.nd).2, fun d hd => g.own.at_ d (List.mem_cons_of_mem _ hd), g.own.wf⟩, g.fr, g.nw, fun b hb => g.dm b (List.mem_cons_of_mem _ hb), g.al⟩
variable {ι : Type} {pre : ι → Prop} {args : ι → List FV} {mem : ι → Mem} {post : ι → Out → Prop} {k : Nat} {fd : FuncData} {ps : List Str} {dvs : List V} {ds : List Value} {dts : List FV}
theorem cvx_make {c0 : Addr → FCell} (mk : Mk X.K Cl f) (F1 : FnOk X.prog X.w X.K X.mg X.base (L2N.CX X.prog X.w) k f fd ps (spF pre args mem post)) (tk : L2N.Takes X W) (hr : Room (k + 1) X.A) (hb : Binds X.K fd ps ds) (hd : Vals dvs ds) (hdt : ∀ I, FRs I dvs dts) (ix : Addr → ι) (hp : ∀ q, pre (ix q)) (ha : ∀ q, args (ix q) = ⟨Addr, tAdr, q⟩ :: (ts ++ dts))
    (hm : ∀ q, mem (ix q) = [⟨q, _, cIns Cl [], ()⟩]) (hq : ∀ q o, post (ix q) o → o = .exc ex [] [c0 q]) : CVX X W (.ref Cl) ts M ex M := fun I H vs Q s ow r pins sh σ us kk iv rv => by
  have iv2 := Inv.made (C := Cl) iv
  have hd1 : H sh.heap.objs.size = none := iv.hok.fresh (Nat.le_refl _)
  have hq1 : H (sh.heap.objs.size + 1) = none := iv.hok.fresh (Nat.le_succ _)
  have g1 := Go.lay (M := M) s ow hd1 (u := .own (sh.heap.objs.size + 1)) trivial
  have hq2 : upd H sh.heap.objs.size (.own (sh.heap.objs.size + 1)) (sh.heap.objs.size + 1) = none := by rw [upd_ne (Nat.succ_ne_self _)]; exact hq1
  have g2 := Go.newO (C := cIns Cl []) (x := ()) (u := .ins Cl sh.heap.objs.size []) g1.ih g1.own hq2 ⟨sh.heap.objs.size, [], rfl, rfl, trivial⟩ trivial
  have g12 := g1.trans ow g2
  have sp1 : spF pre args mem post (.ref (sh.heap.objs.size + 1) :: (vs ++ dvs)) (upd (upd H sh.heap.objs.size (.own (sh.heap.objs.size + 1))) (sh.heap.objs.size + 1) (.ins Cl sh.heap.objs.size [])) (fun _ _ => False) (WE W σ) := by
    refine ⟨ix (sh.heap.objs.size + 1), I, hp _, g2.ih, by rw [hm]; exact Own.part (A := []) (B := M) (by simpa using g2.own), by rw [ha]; exact ⟨rfl, frs_append r (hdt I)⟩, fun out ho => ?_⟩
    rw [hq _ out ho, hm]
    intro cls d I' H' g' rr
    have gf := g'.frame (A := []) (B := M) (by simpa using g2.own)
    exact kk cls d I' H' (Go.forget (g12.trans ow (by simpa using gf))) rr
  have rr : Vals (V.ref (sh.heap.objs.size + 1) :: (vs ++ dvs)) (Value.ref (sh.heap.objs.size + 1) :: (us ++ ds)) := .cons rfl (rv.append hd)
  have ln : (Value.ref (sh.heap.objs.size + 1) :: us ++ ds).length = ps.length := rr.length.symm.trans (F1.len _ _ _ _ sp1)
  refine wpAny_call (make_map (f := f) iv.kIn mk.makes mk.init (beq_iff_eq.mp mk.fn) (codeAny_mono (F1.run _ X.stack _ _ ⟨Value.ref (sh.heap.objs.size + 1) :: us, []⟩ _ _ (fun _ _ => False) (WE W σ) (hr.make Cl us [])
    (iv2.env0.make Cl us []) (hb _ (Value.ref (sh.heap.objs.size + 1) :: us) iv2.kIn ln) rr sp1) fun r s' hh => ?_))
  cases r with
  | error er => exact L2N.passAt tk σ pins _ _ er s' iv2 hh
  | ok fl =>
    cases fl with
    | ret u => exact (let ⟨_, _, _, _, q⟩ := iv2.after hh; q.elim)
    | next => exact hh.elim
    | brk => exact hh.elim
    | cont => exact hh.elim
theorem cvn_makeK {ks : List Str} {gg : List Value → List Value → List Value} {gV : List V → List V → List V} {kv : List FV} {fs : List (Str × FV)} (mk : Mk X.K Cl f) (F1 : FnOk X.prog X.w X.K X.mg X.base (L2N.CX X.prog X.w) k f fd ps (spF pre args mem post)) (hr : Room (k + 1) X.A) (hb : KBn X.K fd ps 1 ks gg gV)
    (hk : ks.length = kv.length) (ix : Addr → ι) (hp : ∀ q, pre (ix q)) (ha : ∀ q I zs, FRs I zs kv → FRs I (gV [.ref q] zs) (args (ix q))) (hm : ∀ q, mem (ix q) = [⟨q, _, cIns Cl [], ()⟩]) (hq : ∀ q o, post (ix q) o → o = .ret ⟨Unit, tNon, ()⟩ [⟨q, _, cIns Cl fs, ()⟩])
    {I H : Hp} {zs : List V} {Q : VK} (s : Same I H) (ow : Own M I H) (r : FRs I zs kv) (kk : ∀ p I' H', H p = none → Go I H M I' H' (⟨p, _, cIns Cl fs, ()⟩ :: M) → Q (.ref p) H') {pins : List (Addr × Obj)} {sh : Shared} {σ : L2.St} {ws : List Value} (iv : Inv X pins σ H sh) (rz : Vals zs ws) :
    wpAny (model X.prog X.w) X.A (call (.ref Cl) [] (ks.zip ws)) (EP X pins σ Q) X.xe sh :=
  run_makeN (n := 0) (us := []) (vs := []) (E := E0) mk F1 hr hb passN iv .nil rz rfl (by rw [r.length, hk]) fun q dx hq1 hd1 ne => by
    have g1 := Go.lay (M := M) s ow hd1 (u := .own q) trivial
    have hq2 : upd H dx (.own q) q = none := by rw [upd_ne ne.symm]; exact hq1
    have g2 := Go.newO (C := cIns Cl []) (x := ()) (u := .ins Cl dx []) g1.ih g1.own hq2 ⟨dx, [], rfl, rfl, trivial⟩ trivial
    have g12 := g1.trans ow g2
    refine ⟨ix q, I, hp q, g2.ih, by rw [hm]; exact Own.part (A := []) (B := M) (by simpa using g2.own), ha q I zs r, fun out ho => ?_⟩
    rw [hq q out ho, hm]
    rintro v I' H' g' rr
    have gf := g'.frame (A := []) (B := M) (by simpa using g2.own)
    exact ⟨rr, kk q I' H' hq1 (g12.trans ow (by simpa using gf))⟩
theorem evn_makeK2 {k1 k2 : Str} {e1 e2 : Expr} {p1 p2 : Pos} {gg : List Value → List Value → List Value} {gV : List V → List V → List V} {t1 : FTy β} {t2 : FTy γ} {fs : List (Str × FV)} (mk : Mk X.K Cl f) (F1 : FnOk X.prog X.w X.K X.mg X.base (L2N.CX X.prog X.w) k f fd ps (spF pre args mem post)) (hr : Room (k + 1) X.A) (hb : KBn X.K fd ps 1 [k1, k2] gg gV)
    (ix : Addr → ι) (hp : ∀ q, pre (ix q)) (ha : ∀ q I zs, FRs I zs [⟨β, t1, y⟩, ⟨γ, t2, z⟩] → FRs I (gV [.ref q] zs) (args (ix q))) (hm : ∀ q, mem (ix q) = [⟨q, _, cIns Cl [], ()⟩]) (hq : ∀ q o, post (ix q) o → o = .ret ⟨Unit, tNon, ()⟩ [⟨q, _, cIns Cl fs, ()⟩])
    (hmg : X.mg n = some (.ref Cl)) (h1 : EV X e1 Γ M t1 y M1) (h2 : EV X e2 Γ M1 t2 z M2) (hg : Gl X n := by rfl) (hdb : (n == ("__debug__" : Str)) = false := by decide)
    (hall : (backToKw pos (keywordEach [⟨some k1, e1, p1⟩, ⟨some k2, e2, p2⟩] X.env)).all (·.1.isSome) = true := by rfl) (hks : (backToKw pos (keywordEach [⟨some k1, e1, p1⟩, ⟨some k2, e2, p2⟩] X.env)).filterMap (·.1) = [k1, k2] := by rfl)
    (hpl : ((backTo pos (starEach [] X.env)).any (·.1) || (backToKw pos (keywordEach [⟨some k1, e1, p1⟩, ⟨some k2, e2, p2⟩] X.env)).any (·.1.isNone)) = false := by rfl) :
    EVN X (.Call (.Name n p) [] [⟨some k1, e1, p1⟩, ⟨some k2, e2, p2⟩] pos) Γ M (cIns Cl fs) () M2 := EVN.mk fun σ I H Q g s ow kk pins sh iv => by
  refine wpAny_Call_Name_kw (ld_glob iv hg hmg ?_ hdb)
  refine PySem.W.callWith_KW0 (h₀ := X.base) iv.ok.mod.kin mk.kp hall ?_ hpl
  refine thn ((pk_cons (nm := some k1) (kpos := p1) (pe_rd (X := X) (e := e1)) (pk_cons (nm := some k2) (kpos := p2) (pe_rd (X := X) (e := e2)) pk_nil)).run pos pins sh σ H (fun zs H2 => ∃ I2, Go I H M I2 H2 M2 ∧ FRs I2 zs [⟨β, t1, y⟩, ⟨γ, t2, z⟩]) iv
    (h1 σ I H _ g s ow fun v1 I1 H1 g1 r1 => h2 σ I1 H1 _ (g.mono g1.ii) g1.ih g1.own fun v2 I2 H2 g2 r2 => ⟨I2, g1.trans ow g2, t1.mono g2.ii r1, r2, trivial⟩)) fun ws s2 ⟨zs, H2, iv2, rz, I2, g2, r2⟩ => ⟨iv2.kIn, ?_⟩
  rw [hks]
  exact cvn_makeK mk F1 hr hb rfl ix hp ha hm hq g2.ih g2.own r2 (fun q I3 H3 hn g3 => kk q I3 H3 (g2.al q hn) (g2.trans ow g3)) iv2 rz
end
structure InB (K : PySem.W.Frag) (C : Addr) : Prop where
  mro : ∃ cd, PySem.W.clsIn K C = some cd ∧ cd.mro = [.ref C, .type "object"]
  io : PySem.W.findIn K (.ref C) "__iadd__" = some none
  oo : PySem.W.findIn K (.type "object") "__iadd__" = some none
section
open PySem.W
variable {prog : Program} {w : World} {A : Around} {E : Value → Shared → Prop} {s : Shared} {K : Frag} {C x f : Addr} {ox : Obj} {od : Option Obj} {b : Value}
theorem no_inplace {M : Model} {h : Heap} (inK : K.In h) (ib : InB K C) : Looks M h (fillsInplaceSlot (.ref C) "add" true) false := by
  obtain ⟨cd, hcd, hm⟩ := ib.mro
  intro A Q E s k q
  unfold fillsInplaceSlot
  refine wpAny_bind ((looks_clsIn inK hcd).andThen (f := fun cd => pure cd.mro) .now A _ E s k ?_)
  rw [hm, List.anyM_cons]
  refine wpAny_bind (wpAny_bind (looks_findIn inK ib.io A _ E s k (wpAny_pure ?_)))
  rw [List.anyM_cons]
  refine wpAny_bind (wpAny_bind (looks_findIn inK ib.oo A _ E s k (wpAny_pure ?_)))
  exact wpAny_pure q
theorem aug_own {Q : Value → Shared → Prop} (inK : K.In s.heap) (J : InstAt s.heap x ox C od) (hb : Looks (model prog w) s.heap (typeOf b) (.ref C)) (ib : InB K C) (ob : OpB K C .Add f)
    (h : wpAny (model prog w) A (call (.ref f) [.ref x, b]) (PySem.W.CmpBack Q) E s) : wpAny (model prog w) A (inplaceOp .Add (.ref x) b) Q E s := by
  obtain ⟨cd, rest, hcd, hm⟩ := ksp_first ob.sf
  unfold inplaceOp
  refine wpAny_holding (wpAny_bind (J.type.here (wpAny_bind ((no_inplace inK ib).here ?_))))
  simp only [Bool.false_eq_true, if_false, pure_bind]
  refine wpAny_bind ?_
  unfold binaryOp1
  refine wpAny_bind (J.type.here (wpAny_bind (hb.here (wpAny_bind ((fills_K inK hcd hm ob.at_).here ?_)))))
  simp only [beq_self_eq_true, if_true, pure_bind, Bool.and_false, Bool.false_eq_true, if_false, Bool.false_and]
  refine wpAny_bind (wpAny_mono (ksp_try inK J ob.at_ ob.fn h) (fun r s' z => ?_) fun _ _ e => e)
  obtain ⟨v, rfl, q⟩ := z
  exact wpAny_pure (wpAny_pure q)
end
section
variable {X : Cx} {W : WX} {Γ : Gm} {M M' M1 M2 M3 : Mem} {α β γ : Type} {T : FTy α} {T' : FTy β} {T'' : FTy γ} {e : Expr} {pos p : Pos} {x : α} {y : β} {z : γ} {Φ : Out → Prop} {n : Str} {f Cl : Addr}
theorem s_augO (i : Nat) (hN : X.N.Nodup) (hΓ : Γ[i]? = some (some ⟨α, T, x⟩)) (hT : IsIns T Cl x) (hT' : IsIns T' Cl y) (ib : InB X.K Cl) (ob : OpB X.K Cl .Add f) (he : EV X e Γ M T' y M1) (hc : CV X (.ref f) [⟨α, T, x⟩, ⟨β, T', y⟩] M1 T'' z M2) (k : Φ (.next (Γ.set i (some ⟨γ, T'', z⟩)) M2))
    (hi : X.N[i]? = some n := by rfl) (hx : Loc X.env.scope n := by first | exact Or.inl rfl | exact Or.inr rfl) (hf : X.fn n = true ∨ X.env.scope.names.lookup n = some .local := by first | exact .inl rfl | exact .inr rfl) : S1 X W (.AugAssign (.Name n p) .Add e pos) Γ M Φ := fun σ I H D g s ow q => by
  obtain ⟨v, hv, rv0⟩ := g.get hΓ
  have pip : PIp X .Add (fun v w H1 Q => ∃ I1, Same I1 H1 ∧ Own M1 I1 H1 ∧ T.r I1 v x ∧ T'.r I1 w y ∧ ∀ u I2 H2, Go I1 H1 M1 I2 H2 M2 → T''.r I2 u z → Q u H2) := fun pins sh σ' H1 v1 w1 v' w' Q iv r1 r2 ⟨I1, s1, o1, q1, q2, kk⟩ => by
    obtain ⟨a, dx, fs, rfl, h1⟩ := hT I1 v1 q1
    obtain ⟨b, dx2, fs2, rfl, h2⟩ := hT' I1 w1 q2
    obtain rfl : v' = Value.ref a := r1
    obtain rfl : w' = Value.ref b := r2
    obtain ⟨od, J⟩ := ins_at iv (s1 _ _ h1)
    obtain ⟨od2, J2⟩ := ins_at iv (s1 _ _ h2)
    exact aug_own iv.kIn J J2.type ib ob (wpAny_mono (hc I1 H1 [.ref a, .ref b] Q s1 o1 ⟨q1, q2, trivial⟩ kk pins sh σ' [.ref a, .ref b] iv (.cons rfl (.cons rfl .nil))) (back_of fun _ _ q => q) fun _ _ q => q)
  exact rdS_of (ps_aug hN hi hx pe_rd pip hf) ⟨v, hv, he σ I H _ g s ow fun w I1 H1 g1 r1 => ⟨I1, g1.ih, g1.own, T.mono g1.ii rv0, r1, fun u I2 H2 g2 r2 => (q _ k) _ I2 H2 (g1.trans ow g2) (((g.mono g1.ii).mono g2.ii).set (t := ⟨γ, T'', z⟩) r2 i)⟩⟩
end
end FL
set_option maxHeartbeats 4000000
namespace FL
open PySem PySem.Spec PyProof.Rows L2 He
structure DE where
  ad : PySem.W.Frag → Addr
  name : Str
  qual : Str
  params : Arguments
  body : List Stmt
  scope : Scope
  dfl : List Dv := []
  kwd : List (Str × Dv) := []
def fnE (K : PySem.W.Frag) (a : Addr) : FnW := match K.lookup a with
  | some ⟨_, _, .func fd, _⟩ => some (fd.name, fd.qualname, fd.params, fd.body, fd.scope, fd.globals, fd.closure, fd.builtins)
  | _ => none
def DE.val (d : DE) : FnW := some (d.name, d.qual, d.params, .stmts d.body, d.scope, mainGlobals, [], builtinsNs)
def DE.dvs (K : PySem.W.Frag) (d : DE) : List V := d.dfl.map (Dv.v K)
def DE.kws (K : PySem.W.Frag) (d : DE) : List (Str × V) := d.kwd.map fun q => (q.1, q.2.v K)
def DE.ok (K : PySem.W.Frag) (d : DE) : Bool := PySem.W.keepIn K (.ref (d.ad K)) && (match K.lookup (d.ad K) with
  | some ⟨_, _, .func fd, _⟩ => PySem.W.codeIn K fd.code d.qual && (dflB K fd.defaults (d.dvs K) && kwdB K fd.kwdefaults (d.kws K))
  | _ => false)
theorem DE.funD {K : PySem.W.Frag} {d : DE} (e : fnE K (d.ad K) = d.val) (c : d.ok K = true) : ∃ fd, FunD K d.name d.qual d.params d.body d.scope (d.dvs K) (d.kws K) (d.ad K) fd := by
  obtain ⟨kp, c2⟩ := ba c
  unfold fnE at e
  cases q : K.lookup (d.ad K) with
  | none => rw [q] at c2; cases c2
  | some o =>
    obtain ⟨oc, od, dt, osl⟩ := o
    rw [q] at c2 e
    cases dt with
    | func fd =>
      obtain ⟨n1, n2, n3, n4, n5, n6, n7, n8, n9, n10, n11, n12, n13, n14, n15⟩ := fd
      have e2 : (some (n1, n2, n3, n4, n5, n6, n7, n15) : FnW) = some (d.name, d.qual, d.params, .stmts d.body, d.scope, mainGlobals, [], builtinsNs) := e
      simp only [Option.some.injEq, Prod.mk.injEq] at e2
      obtain ⟨h1, h2, h3, h4, h5, h6, h7, h8⟩ := e2
      subst h1 h2 h3 h4 h5 h6 h7 h8
      have c3 : (PySem.W.codeIn K n13 d.qual && (dflB K n8 (d.dvs K) && kwdB K n9 (d.kws K))) = true := c2
      obtain ⟨k1, k2⟩ := ba c3
      obtain ⟨k3, k4⟩ := ba k2
      exact ⟨_, ⟨oc, od, n8, n9, n10, n11, n12, n13, n14, osl, rfl, q, k1, dflB_ok k3, kwdB_ok k4⟩, kp⟩
    | _ => cases c2
def obsQ (fa : List (PySem.W.Frag → Bool)) (fn : List DE) (K : PySem.W.Frag) : AlD := ((fa.all fun f => f K) && fn.all fun d => d.ok K, fn.map fun d => fnE K (d.ad K))
def valQ (fn : List DE) : AlD := (true, fn.map DE.val)
def SaysQ (fa : List (PySem.W.Frag → Bool)) (fn : List DE) (K : PySem.W.Frag) : Prop := obsQ fa fn K = valQ fn
def obsQG (n : Nat) (fa : List (PySem.W.Frag → Bool)) (fn : List DE) (g : Addr → Option Obj) : AlD := obsQ fa fn (frG g (asD g n ++ [cStatics]))
def hookQ (n : Nat) (fa : List (PySem.W.Frag → Bool)) (fn : List DE) : PySem.W.Hook where
  α := AlD
  obs := fun s => obsQG n fa fn s.heap.get?
  val := fun _ => valQ fn
  says := fun _ h => ∃ K : PySem.W.Frag, K.In h ∧ SaysQ fa fn K
  of := fun _ _ e => ⟨_, frG_in, e⟩
  keeps := fun _ _ _ ⟨K, hK, c⟩ k => ⟨K, PySem.W.Frag.In.keeps hK k, c⟩
theorem obsQG_eq {n : Nat} {fa : List (PySem.W.Frag → Bool)} {fn : List DE} {g : Addr → Option Obj} {s : Shared} (h : ∀ a, g a = s.heap.get? a) : obsQG n fa fn g = (hookQ n fa fn).obs s := by
  have e : g = s.heap.get? := funext h
  rw [e] <;> rfl
section
variable {fa : List (PySem.W.Frag → Bool)} {fn : List DE} {K : PySem.W.Frag}
theorem SaysQ.fact (c : SaysQ fa fn K) (i : Nat) {f : PySem.W.Frag → Bool} (h : fa[i]? = some f := by rfl) : f K = true := by
  have c1 := (ba (show ((fa.all fun f => f K) && fn.all fun d => d.ok K) = true from congrArg (fun z : AlD => z.1) c)).1
  exact List.all_eq_true.mp c1 f (List.mem_of_getElem? h)
theorem SaysQ.def_ (c : SaysQ fa fn K) (i : Nat) {d : DE} (h : fn[i]? = some d := by rfl) : ∃ fd, FunD K d.name d.qual d.params d.body d.scope (d.dvs K) (d.kws K) (d.ad K) fd := by
  have c2 := (ba (show ((fa.all fun f => f K) && fn.all fun d => d.ok K) = true from congrArg (fun z : AlD => z.1) c)).2
  have e : fn.map (fun d => fnE K (d.ad K)) = fn.map DE.val := congrArg (fun z : AlD => z.2) c
  have e2 : (fn.map fun d => fnE K (d.ad K))[i]? = (fn.map DE.val)[i]? := by rw [e]
  rw [List.getElem?_map, List.getElem?_map, h] at e2
  exact DE.funD (Option.some.inj e2) (List.all_eq_true.mp c2 d (List.mem_of_getElem? h))
end
theorem walk_ofQ {law : PySem.W.OpenLaw} {most lev : Nat} {view : Program} {loose : List Str} {XP : (Str → Option Value) → Heap → Prop} {YP : World → Heap → Prop} {df : DefRec} {CX : World → CXT} {arg : Str}
    (h1 : law.most = some most) (h2 : most ≤ sizeLine) (h3 : df.params.defaults = []) (room : Room lev callerA)
    (pr : ∀ (w : World) (mg : Str → Option Value) (at_ : Addr) (h : Heap), YP w h → h.Ns mainGlobals mg → mg df.name = some (.ref at_) → ∃ (K : PySem.W.Frag) (fd : FuncData) (sp : Sp), K.In h ∧ (∀ (s : Shared) (u : Value), BindsTo s fd ⟨[u], []⟩ [(arg, u)]) ∧
      (∀ (H : Hp) (a : Addr) (ns : List Int), ns.length ≤ most → (∀ z ∈ ns, Builtin.Int.intBits z ≤ 1048576) → L2.Only H → SqL K H a (ns.map V.int) → sp [.ref a] H (fun v _ => v = .bl true) fun _ _ _ => False) ∧ ∀ base : Heap, K.In base → base.Ns mainGlobals mg → FnOk law.prog w K mg base (CX w) lev at_ fd [arg] sp)
    (out : ∀ (w : World) (H : Hp) (s : Shared) (e : Value) (s' : Shared), CX w [] H s (fun _ _ _ => False) e s' → False) : PySem.W.WalkO view loose XP YP law.row.toRowW df [] (fun f vs => PySem.call f vs) := by
  refine Att.attach_callB h1 h3 fun w _ sh mg _ at_ _ _ _ _ a _ ns gd yp _ _ _ named held its len bits gens => ?_
  obtain ⟨K, fd, sp, inK, binds, kept, okF⟩ := pr w mg at_ _ yp gd.T.g named
  exact law_call inK gd.T.g gd.T.b gd.T.builtins gd.T.nolimit gens held its (Nat.le_trans len h2) room okF binds (fun H only seq => kept H a ns len bits only seq) fun H e s' => out w H sh e s'
def pG (x : Str) : PySem.W.Frag → Addr := fun K => ga K x
def pM (x m : Str) : PySem.W.Frag → Addr := fun K => ma K (ga K x) m
def pS (x m : Str) : PySem.W.Frag → Addr := fun K => He5.wf K (ga K x) "staticmethod" m
end FL
set_option maxHeartbeats 4000000
namespace FL
open PySem L2 PyProof.Rows He

def Fu (K : PySem.W.Frag) (d : DE) : Prop := ∃ fd, FunD K d.name d.qual d.params d.body d.scope (d.dvs K) (d.kws K) (d.ad K) fd
structure Fo (P : Program) (w : World) (K : PySem.W.Frag) (mg : Str → Option Value) (base : Heap) (k : Nat) (d : DE) (ps : List Str) (sp : Sp) : Prop where
  ex : ∃ fd, FnOk P w K mg base (L2N.CX P w) k (d.ad K) fd ps sp ∧ Binds K fd ps []
  kp : PySem.W.keepIn K (.ref (d.ad K)) = true
section
variable {P : Program} {w : World} {K : PySem.W.Frag} {mg : Str → Option Value} {base : Heap} {d : DE} {N ps : List Str} {k : Nat} {ι : Type} {pre : ι → Prop} {args : ι → List FV} {mem : ι → Mem} {post : ι → Out → Prop}
theorem takesOf {qual : Str} {scope : Scope} {f : Addr} {cdv : Value} {A : Around} {outer : List Env} {s : Shared} {H : Hp} {E : XK} : L2N.Takes (cxOf (L2N.CX P w) P w K mg base N qual scope f cdv A outer s H E) (fun cls d _ H' => E cls d H') := L2N.takes_of rfl rfl rfl rfl
theorem Fo.of (F : Fu K d) (S : FnScope N ps d.scope) (len : ∀ i, (args i).length = ps.length) (hb : ∀ fd, FunD K d.name d.qual d.params d.body d.scope (d.dvs K) (d.kws K) (d.ad K) fd → Binds K fd ps [])
    (h : ∀ i, pre i → ∀ (cdv : Value) (A : Around) (outer : List Env) (s : Shared) (H : Hp) (E : XK), Room k (A.deeper (envOfC d.qual d.scope s.heap.objs.size (d.ad K) cdv)) →
      SV (cxOf (L2N.CX P w) P w K mg base N d.qual d.scope (d.ad K) cdv A outer s H E) (fun cls d _ H' => E cls d H') d.body (startG N (args i)) (mem i) (retN (post i))) :
    Fo P w K mg base (k + 1) d ps (spF pre args mem post) := by
  obtain ⟨fd, F⟩ := F
  exact ⟨⟨fd, fn_sv F S len h, hb fd F⟩, F.kp⟩
end
abbrev spP {ι : Type} {α : ι → Type} (pre : ι → Prop) (args : ι → List FV) (T : ∀ i, FTy (α i)) (val : ∀ i, α i) : Sp := spF pre args (fun _ => []) (fun i o => o = .ret ⟨α i, T i, val i⟩ [])
section
variable {X : Cx} {W : WX} {Γ : Gm} {M M1 : Mem} {d : DE} {ps : List Str} {k j : Nat} {ι : Type} {pre : ι → Prop} {args : ι → List FV} {mem : ι → Mem} {post : ι → Out → Prop} {ts : List FV} {α : Type} {T : FTy α} {x : α} {ex : Exn}
theorem Fo.cv (h : Fo X.prog X.w X.K X.mg X.base k d ps (spF pre args mem post)) (hr : Room j X.A) (i : ι) (hp : pre i) (ha : args i = ts) {Mo : Mem} (hq : ∀ o, post i o → o = .ret ⟨α, T, x⟩ Mo) (A B : Mem) (hj : k ≤ j := by decide) : CV X (.ref (d.ad X.K)) ts (A ++ mem i ++ B) T x (A ++ Mo ++ B) := by
  obtain ⟨fd, F, b⟩ := h.ex
  exact cv_fn (dts := []) F (hr.mono hj) b .nil (fun _ => trivial) i hp (by rw [ha, List.append_nil]) hq A B
theorem Fo.cvP {α : ι → Type} {T : ∀ i, FTy (α i)} {val : ∀ i, α i} (h : Fo X.prog X.w X.K X.mg X.base k d ps (spP pre args T val)) (hr : Room j X.A) (i : ι) (hp : pre i) (ha : args i = ts) (hj : k ≤ j := by decide) : CV X (.ref (d.ad X.K)) ts M (T i) (val i) M :=
  h.cv hr i hp ha (fun o e => e) [] M hj
theorem Fo.cv0 (h : Fo X.prog X.w X.K X.mg X.base k d ps (spF pre args (fun _ => []) post)) (hr : Room j X.A) (i : ι) (hp : pre i) (ha : args i = ts) (hq : ∀ o, post i o → o = .ret ⟨α, T, x⟩ []) (hj : k ≤ j := by decide) : CV X (.ref (d.ad X.K)) ts M T x M := h.cv hr i hp ha hq [] M hj
theorem Fo.cvx (h : Fo X.prog X.w X.K X.mg X.base k d ps (spF pre args mem post)) (tk : L2N.Takes X W) (hr : Room j X.A) (i : ι) (hp : pre i) (ha : args i = ts) {Mo : Mem} (hq : ∀ o, post i o → o = .exc ex [] Mo) (A B : Mem) (hj : k ≤ j := by decide) : CVX X W (.ref (d.ad X.K)) ts (A ++ mem i ++ B) ex (A ++ Mo ++ B) := by
  obtain ⟨fd, F, b⟩ := h.ex
  exact cvx_fn F tk (hr.mono hj) b i hp ha hq A B
end
section
variable {X : Cx} {W : WX} {M : Mem} {d : DE} {ps : List Str} {k j : Nat} {ι : Type} {pre : ι → Prop} {args : ι → List FV} {post : ι → Out → Prop} {ts : List FV} {ex : Exn}
theorem Fo.cvx0 (h : Fo X.prog X.w X.K X.mg X.base k d ps (spF pre args (fun _ => []) post)) (tk : L2N.Takes X W) (hr : Room j X.A) (i : ι) (hp : pre i) (ha : args i = ts) (hq : ∀ o, post i o → o = .exc ex [] []) (hj : k ≤ j := by decide) : CVX X W (.ref (d.ad X.K)) ts M ex M := h.cvx tk hr i hp ha hq [] M hj
end
section
variable {X : Cx} {Γ : Gm} {M M1 M2 M3 : Mem} {α β γ : Type} {T : FTy α} {T' : FTy β} {T'' : FTy γ} {a b e : Expr} {pos : Pos} {x : α} {y : β} {z : γ}
theorem fe_op {op : Operator} (ha : EV X a Γ M T x M1) (hb : EV X b Γ M1 T' y M2) (ho : OV X (binaryOp op) M2 T x T' y T'' z M3) : EV X (.BinOp a op b pos) Γ M T'' z M3 := ev_op ho ha hb
theorem fe_un {op : UnaryOp} (ha : EV X a Γ M T x M1) (ho : UV X (unaryOp op) M1 T x T'' z M2) : EV X (.UnaryOp op a pos) Γ M T'' z M2 := ev_un ho ha
theorem fe_cmp {op : CmpOp} (ha : EV X a Γ M T x M1) (hb : EV X b Γ M1 T' y M2) (ho : OV X (compareOp op) M2 T x T' y T'' z M3) (hm : behindInMarks op b = false) : EV X (.Compare a [op] [b] pos) Γ M T'' z M3 := ev_cmp ho ha hb hm
theorem ft_cmp {op : CmpOp} {k : Bool} (ha : EV X a Γ M T x M1) (hb : EV X b Γ M1 T' y M2) (ho : OV X (compareOp op) M2 T x T' y tBl k M3) (hm : behindInMarks op b = false) : ET X (.Compare a [op] [b] pos) Γ M k M3 := et_cmp ho ha hb hm
theorem fa_cons {x : α} {es : List Expr} {ts : List FV} {M' : Mem} (ha : EV X e Γ M T x M1) (hr : EA X es Γ M1 ts M') (hs : starEach (e :: es) X.env = (false, eval e X.env) :: starEach es X.env) : EA X (e :: es) Γ M (⟨α, T, x⟩ :: ts) M' := ea_cons ha hr hs
theorem fe_isi {k : Bool} {p : Pos} (ha : EV X a Γ M T x M1) (hb : EV X b Γ M1 T' y M2) (hc : CV X (.builtin "isinstance") [⟨α, T, x⟩, ⟨β, T', y⟩] M2 tBl k M3) (hm : X.mg "isinstance" = none) (hg : Gl X "isinstance")
    (h1 : starEach [a, b] X.env = (false, eval a X.env) :: starEach [b] X.env) (h2 : starEach [b] X.env = (false, eval b X.env) :: starEach [] X.env) (hpl : (backTo pos (starEach [b] X.env)).any (·.1) = false) : EV X (.Call (.Name "isinstance" p) [a, b] [] pos) Γ M tBl k M3 :=
  ev_callB hm PyProof.Rows.Boot.«isinstance» (ea_cons ha (ea_cons hb ea_nil h2) h1) hc hg (by decide) (by decide) h1 hpl
end
structure VarOk (N : List Str) (sc : Scope) (i : Nat) (n : Str) : Prop where
  at_ : N[i]? = some n
  vis : Vis sc n
  d1 : (n == ("__debug__" : Str)) = false
  d2 : (n == ("__classdict__" : Str)) = false
theorem fv {X : Cx} {Γ : Gm} {M : Mem} {α : Type} {T : FTy α} {x : α} {n : Str} {i : Nat} {pos : Pos} (v : VarOk X.N X.env.scope i n) (hΓ : Γ[i]? = some (some ⟨α, T, x⟩)) : EV X (.Name n pos) Γ M T x M := ev_var i hΓ v.at_ v.vis v.d1 v.d2
section
variable {X : Cx} {M : Mem} {α β γ : Type} {T : FTy α} {T' : FTy β} {elt : Expr} {scope : Scope} {i : Nat} {Γ' : Gm}
theorem lc_map2 {g : γ → α} {f : γ → β} : ∀ {cs : List γ}, (∀ c ∈ cs, ∀ (s : Shared) (H : Hp) (C : Addr) (cl : List (Str × Addr)) (fp : List Addr), EV (X.blk s H scope (compEnvC scope cl C X.env) fp) elt (Γ'.set i (some ⟨α, T, g c⟩)) M T' (f c) M) → LC X scope Γ' i [] elt T T' (cs.map g) M (cs.map f) M
  | [], _ => ⟨rfl, rfl⟩
  | c :: cs, h => ⟨true, M, ⟨rfl, rfl⟩, .inr ⟨rfl, f c, cs.map f, M, rfl, h c List.mem_cons_self, lc_map2 fun y hy => h y (List.mem_cons_of_mem _ hy)⟩⟩
end
end FL
set_option maxHeartbeats 4000000
namespace FL
open PySem PySem.Spec PyProof.Rows L2 He
section
variable {K : PySem.W.Frag} {C f g : Addr} {op : Operator} {co : CmpOp} {m : Str}
def clsB (K : PySem.W.Frag) (C : Addr) : Bool := PySem.W.plainGet K C Str.empty && (PySem.W.hasDictIn K C && (PySem.W.plainOver K C && eqO (PySem.W.findIn K (.ref C) "__setattr__") (some (some (.builtin "object.__setattr__")))))
theorem clsB_ok (h : clsB K C = true) : Cls K C := by
  obtain ⟨c1, c⟩ := ba h
  obtain ⟨c2, c⟩ := ba c
  obtain ⟨c3, c4⟩ := ba c
  exact ⟨c1, c2, c3, eqO_ok c4⟩
def clsIB (K : PySem.W.Frag) (C : Addr) : Bool := clsB K C && (eqO (PySem.W.findIn K (.ref C) "__class__") (some (some (.builtin "object.__class__"))) && (eqO (PySem.W.specialIn K (.builtin "object.__class__") "__get__") (some (some (.builtin "getset_descriptor.__get__"))) && (decide (PySem.W.takesIn K (.builtin "object.__class__") = some true) && decide (PySem.W.mroIn K C (.type "object") = some true))))
theorem clsIB_ok (h : clsIB K C = true) : ClsI K C := by
  obtain ⟨c1, c⟩ := ba h
  obtain ⟨c2, c⟩ := ba c
  obtain ⟨c3, c⟩ := ba c
  obtain ⟨c4, c5⟩ := ba c
  exact ⟨clsB_ok c1, eqO_ok c2, eqO_ok c3, of_decide_eq_true c4, of_decide_eq_true c5⟩
def methB (K : PySem.W.Frag) (C : Addr) (m : Str) : Bool := eqO (PySem.W.findIn K (.ref C) m) (some (some (.ref (ma K C m)))) && (PySem.W.isFn K (.ref (ma K C m)) && PySem.W.keepIn K (.ref (ma K C m)))
theorem methB_ok (h : methB K C m = true) : Meth K C m (ma K C m) := by
  obtain ⟨c1, c⟩ := ba h
  obtain ⟨c2, c3⟩ := ba c
  exact ⟨eqO_ok c1, c2, c3⟩
theorem spB_ok (h : methB K C m = true) : SpB K C m (ma K C m) := ⟨(methB_ok h).at_, (methB_ok h).fn⟩
def mkB (K : PySem.W.Frag) (C : Addr) : Bool := PySem.W.makesIn K C && (eqO (PySem.W.findIn K (.ref C) "__init__") (some (some (.ref (ma K C "__init__")))) && (PySem.W.isFn K (.ref (ma K C "__init__")) && PySem.W.keepIn K (.ref C)))
theorem mkB_ok (h : mkB K C = true) : Mk K C (ma K C "__init__") := by
  obtain ⟨c1, c⟩ := ba h
  obtain ⟨c2, c⟩ := ba c
  obtain ⟨c3, c4⟩ := ba c
  exact ⟨c1, eqO_ok c2, c3, c4⟩
def revB (K : PySem.W.Frag) (C : Addr) (x : Str) : Bool := match PySem.W.findIn K (.ref C) x with
  | some none => true
  | some (some (.ref _)) => true
  | _ => false
theorem revB_ok {x : Str} (h : revB K C x = true) : ∃ rc, PySem.W.findIn K (.ref C) x = some rc ∧ (rc = none ∨ ∃ g : Addr, rc = some (.ref g)) := by
  unfold revB at h
  split at h
  · rename_i e; exact ⟨_, e, .inl rfl⟩
  · rename_i g e; exact ⟨_, e, .inr ⟨g, rfl⟩⟩
  · cases h
def opB (op : Operator) (K : PySem.W.Frag) (C : Addr) : Bool := PySem.W.selfFirst K C && (methB K C (PySem.dunder op.info.2) && (revB K C (dunderR op.info.2) && ((PySem.W.findIn K (.type "int") (PySem.dunder op.info.2)).isSome && ((PySem.W.findIn K (.type "int") (dunderR op.info.2)).isSome && decide (PySem.W.subIn K (.type "int") (.ref C) = some false)))))
theorem opB_ok (h : opB op K C = true) : OpB K C op (ma K C (PySem.dunder op.info.2)) := by
  obtain ⟨c1, c⟩ := ba h
  obtain ⟨c2, c⟩ := ba c
  obtain ⟨c3, c⟩ := ba c
  obtain ⟨c4, c⟩ := ba c
  obtain ⟨c5, c6⟩ := ba c
  have m := methB_ok c2
  exact ⟨c1, m.at_, m.fn, revB_ok c3, Option.isSome_iff_exists.mp c4, Option.isSome_iff_exists.mp c5, of_decide_eq_true c6⟩
def opRB (op : Operator) (K : PySem.W.Frag) (C : Addr) : Bool := PySem.W.selfFirst K C && (methB K C (PySem.dunder op.info.2) && (methB K C (dunderR op.info.2) && decide (PySem.W.subIn K (.ref C) (.type "int") = some false)))
theorem opRB_ok (h : opRB op K C = true) : OpRf K C op (ma K C (dunderR op.info.2)) := by
  obtain ⟨c1, c⟩ := ba h
  obtain ⟨c2, c⟩ := ba c
  obtain ⟨c3, c4⟩ := ba c
  have m := methB_ok c3
  exact ⟨c1, ⟨_, (methB_ok c2).at_⟩, m.at_, m.fn, of_decide_eq_true c4⟩
def cmB (co : CmpOp) (K : PySem.W.Frag) (C : Addr) : Bool := methB K C (cmpInfo co).2.1 && decide (PySem.W.subIn K (.type "int") (.ref C) = some false)
theorem cmB_ok (h : cmB co K C = true) : CmpB K C co (ma K C (cmpInfo co).2.1) := by
  obtain ⟨c1, c2⟩ := ba h
  exact ⟨(methB_ok c1).at_, (methB_ok c1).fn, of_decide_eq_true c2⟩
def cmRB (co : CmpOp) (K : PySem.W.Frag) (C : Addr) : Bool := methB K C (cmpInfo co).2.2 && decide (PySem.W.subIn K (.ref C) (.type "int") = some false)
theorem cmRB_ok (h : cmRB co K C = true) : CmpRf K C co (ma K C (cmpInfo co).2.2) := by
  obtain ⟨c1, c2⟩ := ba h
  exact ⟨(methB_ok c1).at_, (methB_ok c1).fn, of_decide_eq_true c2⟩
def neB (K : PySem.W.Frag) (C : Addr) : Bool := eqO (PySem.W.findIn K (.ref C) "__ne__") (some (some (.builtin "object.__ne__"))) && (methB K C "__eq__" && (decide (PySem.W.mroIn K C (.type "object") = some true) && decide (PySem.W.subIn K (.type "int") (.ref C) = some false)))
theorem neB_ok (h : neB K C = true) : NeB K C (ma K C "__eq__") := by
  obtain ⟨c1, c⟩ := ba h
  obtain ⟨c2, c⟩ := ba c
  obtain ⟨c3, c4⟩ := ba c
  exact ⟨eqO_ok c1, (methB_ok c2).at_, (methB_ok c2).fn, of_decide_eq_true c3, of_decide_eq_true c4⟩
def inB (K : PySem.W.Frag) (C : Addr) : Bool := (match PySem.W.clsIn K C with
  | some cd => decide (cd.mro = [.ref C, .type "object"])
  | none => false) && (eqO (PySem.W.findIn K (.ref C) "__iadd__") (some none) && eqO (PySem.W.findIn K (.type "object") "__iadd__") (some none))
theorem inB_ok (h : inB K C = true) : InB K C := by
  obtain ⟨c1, c⟩ := ba h
  obtain ⟨c2, c3⟩ := ba c
  refine ⟨?_, eqO_ok c2, eqO_ok c3⟩
  split at c1
  · rename_i cd e; exact ⟨cd, e, of_decide_eq_true c1⟩
  · cases c1
def statB (K : PySem.W.Frag) (C : Addr) (m : Str) : Bool := PySem.W.readsIn K C (.type "type") && (eqO (PySem.W.specialIn K (.ref C) "__getattribute__") (some (some (.builtin "type.__getattribute__"))) && (He5.wrapB K C "staticmethod" "staticmethod.__get__" m && PySem.W.keepIn K (.ref (He5.wf K C "staticmethod" m))))
theorem statB_ok (h : statB K C m = true) : Stat K C m (He5.wf K C "staticmethod" m) := by
  obtain ⟨c1, c⟩ := ba h
  obtain ⟨c2, c⟩ := ba c
  obtain ⟨c3, c4⟩ := ba c
  obtain ⟨w1, w2⟩ := He5.wrapB_ok c3
  exact ⟨c1, eqO_ok c2, ⟨_, w1, w2⟩, c4⟩
def oexB (K : PySem.W.Frag) (C : Addr) : Bool := (match K.lookup C with
  | some ⟨.type t, _, .cls cd, sl⟩ => decide (t = "type") && ((match cd.mro with
    | .ref D :: bm => decide (D = C) && PySem.HandSPX.refsVE bm
    | _ => false) && (cd.hasDict && (!cd.hasDel && (match sl.toList with
    | [_, _, _, _, some (.builtin n), _] => decide (n = "ValueError.__new__")
    | _ => false))))
  | _ => false) && (eqO (PySem.W.findIn K (.ref C) "__setattr__") (some (some (.builtin "object.__setattr__"))) && (decide (PySem.W.subIn K (.ref C) (.type "BaseException") = some true) && (decide (PySem.W.typeIn K (.ref C) = some (.type "type")) && PySem.W.keepIn K (.ref C))))
theorem oexB_ok (h : oexB K C = true) : OexC K C := by
  obtain ⟨c1, c⟩ := ba h
  obtain ⟨c2, c⟩ := ba c
  obtain ⟨c3, c⟩ := ba c
  obtain ⟨c4, c5⟩ := ba c
  refine ⟨?_, eqO_ok c2, of_decide_eq_true c3, of_decide_eq_true c4, c5⟩
  split at c1
  · rename_i t dd cd sl e
    obtain ⟨d1, d⟩ := ba c1
    obtain ⟨d2, d⟩ := ba d
    obtain ⟨d3, d⟩ := ba d
    obtain ⟨d4, d5⟩ := ba d
    obtain rfl : t = "type" := of_decide_eq_true d1
    split at d2
    · rename_i D bm em
      obtain ⟨g1, g2⟩ := ba d2
      obtain rfl : D = C := of_decide_eq_true g1
      split at d5
      · rename_i k0 k1 k2 k3 n k5 es
        obtain rfl : n = "ValueError.__new__" := of_decide_eq_true d5
        obtain ⟨nm, bs, mro, ns, q, hd, sn, sub, ab, col, hdel⟩ := cd
        have h1 : mro = .ref D :: bm := em
        have h2 : hd = true := d3
        have h3 : hdel = false := by simpa using d4
        subst h1 h2 h3
        have h4 : sl = #[k0, k1, k2, k3, some (.builtin "ValueError.__new__"), k5] := by
          have := congrArg List.toArray es
          simpa using this
        subst h4
        exact ⟨nm, q, ns, bs, bm, sn, sub, ab, col, dd, k0, k1, k2, k3, k5, e, g2⟩
      · cases d5
    · cases d2
  · cases c1
def excB (K : PySem.W.Frag) (C : Addr) : Bool := xfB K C && (eqO (PySem.W.findIn K (.ref C) "__class__") (some (some (.builtin "object.__class__"))) && (eqO (PySem.W.specialIn K (.builtin "object.__class__") "__get__") (some (some (.builtin "getset_descriptor.__get__"))) && (decide (PySem.W.takesIn K (.builtin "object.__class__") = some true) && decide (PySem.W.mroIn K C (.type "object") = some true))))
theorem excB_ok (h : excB K C = true) : ExcC K C := by
  obtain ⟨c1, c⟩ := ba h
  obtain ⟨c2, c⟩ := ba c
  obtain ⟨c3, c⟩ := ba c
  obtain ⟨c4, c5⟩ := ba c
  have x := xfB_ok c1
  exact ⟨x.ga, x.gg, x.exC, x.hdC, eqO_ok c2, eqO_ok c3, of_decide_eq_true c4, of_decide_eq_true c5⟩
def mdB (K : PySem.W.Frag) (C : Addr) (n : Str) (i : Int) : Bool := match PySem.W.findCls K (.ref C) (.type "type") n with
  | some (.val (.int j _)) => decide (j = i)
  | _ => false
theorem mdB_ok {n : Str} {i : Int} (h : mdB K C n i = true) : ∃ t, PySem.W.findCls K (.ref C) (.type "type") n = some (.val (.int i t)) := by
  unfold mdB at h
  split at h
  · rename_i j t e
    obtain rfl : j = i := of_decide_eq_true h
    exact ⟨t, e⟩
  · cases h
end
end FL
namespace Lw
open PySem
abbrev chs (x : Str) : List Nat := x.cps.toList
theorem chs_ext {x y : Str} (h : chs x = chs y) : x = y := by
  cases x; cases y
  simp only [chs] at h
  rw [Array.toList_inj.mp h]
theorem chs_app {x y : Str} : chs (x ++ y) = chs x ++ chs y := Array.toList_append
theorem chs_len {x : Str} : (chs x).length = x.length := Array.length_toList
theorem chs_of (s : String) : chs (Str.ofString s) = s.toList.map Char.toNat := PyProof.Rows.signs_ofString s
def dgN (n : Nat) : List Nat := chs (Str.ofString (Nat.repr n))
def dgI (i : Int) : List Nat := chs (toString i : Str)
theorem dgI_nat {n : Nat} : dgI (n : Int) = dgN n := rfl
theorem dgI_neg {n : Nat} : dgI (Int.negSucc n) = 45 :: dgN (n + 1) := by
  unfold dgI dgN
  rw [chs_of, chs_of]
  have e : toString (Int.negSucc n) = "-" ++ Nat.repr (n + 1) := rfl
  rw [e, String.toList_append, List.map_append]
  rfl
theorem dgN_eq (n : Nat) : dgN n = (Nat.toDigits 10 n).map Char.toNat := by
  unfold dgN
  rw [chs_of, Nat.toList_repr]
theorem digit_nat : ∀ d : Nat, d < 10 → (Nat.digitChar d).toNat = 48 + d := by decide
theorem dgN_lt {n : Nat} (h : n < 10) : dgN n = [48 + n] := by
  rw [dgN_eq, Nat.toDigits_of_lt_base h, List.map_cons, digit_nat n h]
  rfl
theorem dgN_ge {n : Nat} (h : 10 ≤ n) : dgN n = dgN (n / 10) ++ [48 + n % 10] := by
  have h1 : n % 10 < 10 := Nat.mod_lt _ (by decide)
  have e : n = 10 * (n / 10) + n % 10 := (Nat.div_add_mod n 10).symm
  rw [dgN_eq, dgN_eq]
  conv => lhs; rw [e]
  rw [← Nat.toDigits_append_toDigits (by decide) (by omega) h1, List.map_append, Nat.toDigits_of_lt_base h1]
  rw [List.map_cons, digit_nat _ h1]
  rfl
structure DgN (n : Nat) : Prop where
  a : NumText.AllDigits (dgN n)
  v : NumText.digitsVal (dgN n) = n
  h : (n = 0 ∧ dgN n = [48]) ∨ ∃ c r, dgN n = c :: r ∧ 49 ≤ c
theorem dg_ok (n : Nat) : DgN n := by
  induction n using Nat.strongRecOn with
  | _ n ih =>
    by_cases h : n < 10
    · have e := dgN_lt h
      refine ⟨?_, ?_, ?_⟩
      · rw [e]; intro c hc; rw [List.mem_singleton.mp hc]; omega
      · rw [e]; show 0 * 10 + (48 + n - 48) = n; omega
      · by_cases h0 : n = 0
        · left; exact ⟨h0, by rw [e, h0]⟩
        · right; exact ⟨48 + n, [], e, by omega⟩
    · have e := dgN_ge (n := n) (by omega)
      have q := ih (n / 10) (by omega)
      refine ⟨?_, ?_, ?_⟩
      · rw [e]
        intro c hc
        rcases List.mem_append.mp hc with hc | hc
        · exact q.a c hc
        · rw [List.mem_singleton.mp hc]
          have : n % 10 < 10 := Nat.mod_lt _ (by decide)
          omega
      · rw [e, NumText.digitsVal_snoc, q.v]; omega
      · right
        rcases q.h with ⟨h0, _⟩ | ⟨c, r, hc, h1⟩
        · omega
        · exact ⟨c, r ++ [48 + n % 10], by rw [e, hc]; rfl, h1⟩
theorem dg_ne (n : Nat) : dgN n ≠ [] := by
  rcases (dg_ok n).h with ⟨_, h⟩ | ⟨c, r, h, _⟩ <;> rw [h] <;> simp
theorem dgN_len {n k : Nat} (hk : 0 < k) (h : n < 10 ^ k) : (dgN n).length ≤ k := by
  unfold dgN
  rw [chs_len, ofString_length]
  exact (Nat.length_repr_le_iff hk).mpr h
theorem dgN_len2 {n k : Nat} (hk : 0 < k) (h : (dgN n).length ≤ k) : n < 10 ^ k := by
  unfold dgN at h
  rw [chs_len, ofString_length] at h
  exact (Nat.length_repr_le_iff hk).mp h
theorem split_at {c : Nat} : ∀ {a b a' b' : List Nat}, c ∉ a → c ∉ a' → a ++ c :: b = a' ++ c :: b' → a = a' ∧ b = b'
  | [], b, [], b', _, _, h => ⟨rfl, (List.cons.inj h).2⟩
  | [], b, x :: a', b', _, h2, h => absurd (List.cons.inj h).1 (fun e => h2 (by rw [e]; exact List.mem_cons_self))
  | x :: a, b, [], b', h1, _, h => absurd (List.cons.inj h).1 (fun e => h1 (by rw [← e]; exact List.mem_cons_self))
  | x :: a, b, y :: a', b', h1, h2, h => by
    obtain ⟨e1, e2⟩ := List.cons.inj h
    obtain ⟨r1, r2⟩ := split_at (fun m => h1 (List.mem_cons_of_mem _ m)) (fun m => h2 (List.mem_cons_of_mem _ m)) e2
    exact ⟨by rw [e1, r1], r2⟩
theorem no_sl {n : Nat} {c : Nat} (hc : c < 48 ∨ 57 < c) : c ∉ dgN n := fun h => by
  have := (dg_ok n).a c h
  omega
theorem no_slI {i : Int} {c : Nat} (hc : (c < 48 ∨ 57 < c) ∧ c ≠ 45) : c ∉ dgI i := by
  cases i with
  | ofNat n => exact no_sl hc.1
  | negSucc n =>
    rw [dgI_neg]
    intro h
    rcases List.mem_cons.mp h with h | h
    · exact hc.2 h
    · exact no_sl hc.1 h
theorem dgN_inj {m n : Nat} (h : dgN m = dgN n) : m = n := by
  rw [← (dg_ok m).v, ← (dg_ok n).v, h]
open PyProof.Rows
theorem sl_at (x : Str) (i : Nat) : StrLaws.At x "/" x.length i ↔ (chs x)[i]? = some 47 := StrLaws.subAt_one x 47 i
theorem part_some {x : Str} {a b : List Nat} (h : chs x = a ++ 47 :: b) (ha : 47 ∉ a) : chs (Txt.partition x "/").1 = a ∧ (Txt.partition x "/").2.1 = "/" ∧ chs (Txt.partition x "/").2.2 = b := by
  have hl : x.length = a.length + (b.length + 1) := by rw [← chs_len, h]; simp
  have at1 : StrLaws.At x "/" x.length a.length := (sl_at x _).mpr (by rw [h]; simp)
  unfold Txt.partition
  rcases StrLaws.occ_head x "/" 1 (Nat.le_refl 1) with ⟨_, hn⟩ | ⟨i, r, e, hi, hn⟩
  · exact absurd at1 (hn _)
  · have i1 : i = a.length := by
      rcases Nat.lt_trichotomy i a.length with q | q | q
      · have hi2 := (sl_at x i).mp hi
        rw [h, List.getElem?_append_left q] at hi2
        exact absurd (List.mem_of_getElem? hi2) ha
      · exact q
      · exact absurd at1 (hn _ q)
    subst i1
    rw [e]
    refine ⟨?_, rfl, ?_⟩
    · show chs (Builtin.Str.strSub x 0 a.length) = a
      rw [chs, StrLaws.strSub_toList, show x.cps.toList = a ++ 47 :: b from h]
      simp
    · show chs (Builtin.Str.strSub x (a.length + 1) x.length) = b
      rw [chs, StrLaws.strSub_toList, show x.cps.toList = a ++ 47 :: b from h, hl]
      have e1 : a ++ 47 :: b = (a ++ [47]) ++ b := by simp
      rw [e1, List.drop_append_of_le_length (by simp)]
      simp
      rw [List.take_of_length_le (by omega)]
theorem part_none {x : Str} (h : 47 ∉ chs x) : Txt.partition x "/" = (x, Str.empty, Str.empty) := by
  unfold Txt.partition
  rcases StrLaws.occ_head x "/" 1 (Nat.le_refl 1) with ⟨e, _⟩ | ⟨i, r, e, hi, hn⟩
  · rw [e]
  · exact absurd (List.mem_of_getElem? ((sl_at x i).mp hi)) h
theorem mi_at (x : Str) : (decide (0 + ("-" : Str).length ≤ x.length) && Builtin.Str.subAt x "-" 0) = true ↔ (chs x)[0]? = some 45 := by
  rw [Bool.and_eq_true, decide_eq_true_eq]
  exact StrLaws.subAt_one x 45 0
theorem starts_yes {x : Str} {r : List Nat} (h : chs x = 45 :: r) : Txt.startswith x "-" = true ∧ chs (Txt.removeprefix x "-") = r := by
  have q : (decide (0 + ("-" : Str).length ≤ x.length) && Builtin.Str.subAt x "-" 0) = true := (mi_at x).mpr (by rw [h]; rfl)
  refine ⟨q, ?_⟩
  rw [StrLaws.removeprefix_eq, if_pos q]
  have hl : x.length = r.length + 1 := by rw [← chs_len, h]; simp
  show (List.take (x.length - 1) (List.drop 1 (chs x))) = r
  rw [h, hl]
  simp
theorem starts_no {x : Str} (h : (chs x)[0]? ≠ some 45) : Txt.startswith x "-" = false ∧ Txt.removeprefix x "-" = x := by
  have q : ¬ (decide (0 + ("-" : Str).length ≤ x.length) && Builtin.Str.subAt x "-" 0) = true := fun z => h ((mi_at x).mp z)
  refine ⟨?_, ?_⟩
  · cases e : Txt.startswith x "-" with
    | false => rfl
    | true => exact absurd e q
  · rw [StrLaws.removeprefix_eq, if_neg q]
end Lw
set_option maxHeartbeats 0

namespace Lw
open PySem PySem.Spec PyProof.Rows L2 He FL
def top (i : Nat) : Stmt := PySem.Challenge.pw_stayorsway_k00_fractions.main.body.getD i (.Pass ⟨0, 0, 0, 0⟩)

abbrev s_BadText_init : Stmt := (inClass (top 4) 0)
def d_BadText_init : DE := ⟨pM "BadText" "__init__", "__init__", "BadText.__init__", defArgs s_BadText_init, defBody s_BadText_init, defScope s_BadText_init, [], []⟩
abbrev s_BadCount_init : Stmt := (inClass (top 5) 0)
def d_BadCount_init : DE := ⟨pM "BadCount" "__init__", "__init__", "BadCount.__init__", defArgs s_BadCount_init, defBody s_BadCount_init, defScope s_BadCount_init, [], []⟩
abbrev s_is_natural : Stmt := (top 9)
def d_is_natural : DE := ⟨pG "is_natural", "is_natural", "is_natural", defArgs s_is_natural, defBody s_is_natural, defScope s_is_natural, [], []⟩
abbrev s_floor_quotient : Stmt := (top 10)
def d_floor_quotient : DE := ⟨pG "floor_quotient", "floor_quotient", "floor_quotient", defArgs s_floor_quotient, defBody s_floor_quotient, defScope s_floor_quotient, [], []⟩
abbrev s_Frac_init : Stmt := (inClass (top 11) 1)
def d_Frac_init : DE := ⟨pM "Frac" "__init__", "__init__", "Frac.__init__", defArgs s_Frac_init, defBody s_Frac_init, defScope s_Frac_init, [.int 0, .int 1], []⟩
abbrev s_Frac_of : Stmt := (inClass (top 11) 2)
def d_Frac_of : DE := ⟨pS "Frac" "of", "of", "Frac.of", defArgs s_Frac_of, defBody s_Frac_of, defScope s_Frac_of, [], []⟩
abbrev s_Frac_read : Stmt := (inClass (top 11) 3)
def d_Frac_read : DE := ⟨pS "Frac" "read", "read", "Frac.read", defArgs s_Frac_read, defBody s_Frac_read, defScope s_Frac_read, [], []⟩
abbrev s_Frac_str : Stmt := (inClass (top 11) 4)
def d_Frac_str : DE := ⟨pM "Frac" "__str__", "__str__", "Frac.__str__", defArgs s_Frac_str, defBody s_Frac_str, defScope s_Frac_str, [], []⟩
abbrev s_Frac_repr : Stmt := (inClass (top 11) 5)
def d_Frac_repr : DE := ⟨pM "Frac" "__repr__", "__repr__", "Frac.__repr__", defArgs s_Frac_repr, defBody s_Frac_repr, defScope s_Frac_repr, [], []⟩
abbrev s_Frac_over : Stmt := (inClass (top 11) 6)
def d_Frac_over : DE := ⟨pM "Frac" "over", "over", "Frac.over", defArgs s_Frac_over, defBody s_Frac_over, defScope s_Frac_over, [], []⟩
abbrev s_Frac_sign : Stmt := (inClass (top 11) 7)
def d_Frac_sign : DE := ⟨pM "Frac" "sign", "sign", "Frac.sign", defArgs s_Frac_sign, defBody s_Frac_sign, defScope s_Frac_sign, [], []⟩
abbrev s_Frac_raised : Stmt := (inClass (top 11) 8)
def d_Frac_raised : DE := ⟨pM "Frac" "raised", "raised", "Frac.raised", defArgs s_Frac_raised, defBody s_Frac_raised, defScope s_Frac_raised, [], []⟩
abbrev s_Frac_add : Stmt := (inClass (top 11) 9)
def d_Frac_add : DE := ⟨pM "Frac" "__add__", "__add__", "Frac.__add__", defArgs s_Frac_add, defBody s_Frac_add, defScope s_Frac_add, [], []⟩
abbrev s_Frac_radd : Stmt := (inClass (top 11) 10)
def d_Frac_radd : DE := ⟨pM "Frac" "__radd__", "__radd__", "Frac.__radd__", defArgs s_Frac_radd, defBody s_Frac_radd, defScope s_Frac_radd, [], []⟩
abbrev s_Frac_sub : Stmt := (inClass (top 11) 11)
def d_Frac_sub : DE := ⟨pM "Frac" "__sub__", "__sub__", "Frac.__sub__", defArgs s_Frac_sub, defBody s_Frac_sub, defScope s_Frac_sub, [], []⟩
abbrev s_Frac_rsub : Stmt := (inClass (top 11) 12)
def d_Frac_rsub : DE := ⟨pM "Frac" "__rsub__", "__rsub__", "Frac.__rsub__", defArgs s_Frac_rsub, defBody s_Frac_rsub, defScope s_Frac_rsub, [], []⟩
abbrev s_Frac_mul : Stmt := (inClass (top 11) 13)
def d_Frac_mul : DE := ⟨pM "Frac" "__mul__", "__mul__", "Frac.__mul__", defArgs s_Frac_mul, defBody s_Frac_mul, defScope s_Frac_mul, [], []⟩
abbrev s_Frac_rmul : Stmt := (inClass (top 11) 14)
def d_Frac_rmul : DE := ⟨pM "Frac" "__rmul__", "__rmul__", "Frac.__rmul__", defArgs s_Frac_rmul, defBody s_Frac_rmul, defScope s_Frac_rmul, [], []⟩
abbrev s_Frac_floordiv : Stmt := (inClass (top 11) 15)
def d_Frac_floordiv : DE := ⟨pM "Frac" "__floordiv__", "__floordiv__", "Frac.__floordiv__", defArgs s_Frac_floordiv, defBody s_Frac_floordiv, defScope s_Frac_floordiv, [], []⟩
abbrev s_Frac_rfloordiv : Stmt := (inClass (top 11) 16)
def d_Frac_rfloordiv : DE := ⟨pM "Frac" "__rfloordiv__", "__rfloordiv__", "Frac.__rfloordiv__", defArgs s_Frac_rfloordiv, defBody s_Frac_rfloordiv, defScope s_Frac_rfloordiv, [], []⟩
abbrev s_Frac_mod : Stmt := (inClass (top 11) 17)
def d_Frac_mod : DE := ⟨pM "Frac" "__mod__", "__mod__", "Frac.__mod__", defArgs s_Frac_mod, defBody s_Frac_mod, defScope s_Frac_mod, [], []⟩
abbrev s_Frac_rmod : Stmt := (inClass (top 11) 18)
def d_Frac_rmod : DE := ⟨pM "Frac" "__rmod__", "__rmod__", "Frac.__rmod__", defArgs s_Frac_rmod, defBody s_Frac_rmod, defScope s_Frac_rmod, [], []⟩
abbrev s_Frac_pow : Stmt := (inClass (top 11) 19)
def d_Frac_pow : DE := ⟨pM "Frac" "__pow__", "__pow__", "Frac.__pow__", defArgs s_Frac_pow, defBody s_Frac_pow, defScope s_Frac_pow, [], []⟩
abbrev s_Frac_neg : Stmt := (inClass (top 11) 20)
def d_Frac_neg : DE := ⟨pM "Frac" "__neg__", "__neg__", "Frac.__neg__", defArgs s_Frac_neg, defBody s_Frac_neg, defScope s_Frac_neg, [], []⟩
abbrev s_Frac_abs : Stmt := (inClass (top 11) 21)
def d_Frac_abs : DE := ⟨pM "Frac" "__abs__", "__abs__", "Frac.__abs__", defArgs s_Frac_abs, defBody s_Frac_abs, defScope s_Frac_abs, [], []⟩
abbrev s_Frac_bool : Stmt := (inClass (top 11) 22)
def d_Frac_bool : DE := ⟨pM "Frac" "__bool__", "__bool__", "Frac.__bool__", defArgs s_Frac_bool, defBody s_Frac_bool, defScope s_Frac_bool, [], []⟩
abbrev s_Frac_eq : Stmt := (inClass (top 11) 23)
def d_Frac_eq : DE := ⟨pM "Frac" "__eq__", "__eq__", "Frac.__eq__", defArgs s_Frac_eq, defBody s_Frac_eq, defScope s_Frac_eq, [], []⟩
abbrev s_Frac_equals : Stmt := (inClass (top 11) 24)
def d_Frac_equals : DE := ⟨pM "Frac" "equals", "equals", "Frac.equals", defArgs s_Frac_equals, defBody s_Frac_equals, defScope s_Frac_equals, [], []⟩
abbrev s_Frac_lt : Stmt := (inClass (top 11) 25)
def d_Frac_lt : DE := ⟨pM "Frac" "__lt__", "__lt__", "Frac.__lt__", defArgs s_Frac_lt, defBody s_Frac_lt, defScope s_Frac_lt, [], []⟩
abbrev s_Frac_le : Stmt := (inClass (top 11) 26)
def d_Frac_le : DE := ⟨pM "Frac" "__le__", "__le__", "Frac.__le__", defArgs s_Frac_le, defBody s_Frac_le, defScope s_Frac_le, [], []⟩
abbrev s_Frac_gt : Stmt := (inClass (top 11) 27)
def d_Frac_gt : DE := ⟨pM "Frac" "__gt__", "__gt__", "Frac.__gt__", defArgs s_Frac_gt, defBody s_Frac_gt, defScope s_Frac_gt, [], []⟩
abbrev s_Frac_ge : Stmt := (inClass (top 11) 28)
def d_Frac_ge : DE := ⟨pM "Frac" "__ge__", "__ge__", "Frac.__ge__", defArgs s_Frac_ge, defBody s_Frac_ge, defScope s_Frac_ge, [], []⟩
abbrev s_law_open : Stmt := (top 13)
def d_law_open : DE := ⟨pG "_law_open", "_law_open", "_law_open", defArgs s_law_open, defBody s_law_open, defScope s_law_open, [], []⟩
abbrev s_law_turn : Stmt := (top 14)
def d_law_turn : DE := ⟨pG "_law_turn", "_law_turn", "_law_turn", defArgs s_law_turn, defBody s_law_turn, defScope s_law_turn, [], []⟩
abbrev s_law_draw : Stmt := (top 15)
def d_law_draw : DE := ⟨pG "_law_draw", "_law_draw", "_law_draw", defArgs s_law_draw, defBody s_law_draw, defScope s_law_draw, [], []⟩
abbrev s_law_is_integer : Stmt := (top 16)
def d_law_is_integer : DE := ⟨pG "_law_is_integer", "_law_is_integer", "_law_is_integer", defArgs s_law_is_integer, defBody s_law_is_integer, defScope s_law_is_integer, [], []⟩
abbrev s_law_is_truth : Stmt := (top 17)
def d_law_is_truth : DE := ⟨pG "_law_is_truth", "_law_is_truth", "_law_is_truth", defArgs s_law_is_truth, defBody s_law_is_truth, defScope s_law_is_truth, [], []⟩
abbrev s_law_divisor : Stmt := (top 18)
def d_law_divisor : DE := ⟨pG "_law_divisor", "_law_divisor", "_law_divisor", defArgs s_law_divisor, defBody s_law_divisor, defScope s_law_divisor, [], []⟩
abbrev s_law_is_frac : Stmt := (top 19)
def d_law_is_frac : DE := ⟨pG "_law_is_frac", "_law_is_frac", "_law_is_frac", defArgs s_law_is_frac, defBody s_law_is_frac, defScope s_law_is_frac, [], []⟩
abbrev s_law_parts : Stmt := (top 20)
def d_law_parts : DE := ⟨pG "_law_parts", "_law_parts", "_law_parts", defArgs s_law_parts, defBody s_law_parts, defScope s_law_parts, [], []⟩
abbrev s_law_second : Stmt := (top 21)
def d_law_second : DE := ⟨pG "_law_second", "_law_second", "_law_second", defArgs s_law_second, defBody s_law_second, defScope s_law_second, [], []⟩
abbrev s_law_upright : Stmt := (top 22)
def d_law_upright : DE := ⟨pG "_law_upright", "_law_upright", "_law_upright", defArgs s_law_upright, defBody s_law_upright, defScope s_law_upright, [], []⟩
abbrev s_law_pair : Stmt := (top 23)
def d_law_pair : DE := ⟨pG "_law_pair", "_law_pair", "_law_pair", defArgs s_law_pair, defBody s_law_pair, defScope s_law_pair, [], []⟩
abbrev s_law_divided : Stmt := (top 24)
def d_law_divided : DE := ⟨pG "_law_divided", "_law_divided", "_law_divided", defArgs s_law_divided, defBody s_law_divided, defScope s_law_divided, [], []⟩
abbrev s_law_zero_refused : Stmt := (top 25)
def d_law_zero_refused : DE := ⟨pG "_law_zero_refused", "_law_zero_refused", "_law_zero_refused", defArgs s_law_zero_refused, defBody s_law_zero_refused, defScope s_law_zero_refused, [], []⟩
abbrev s_law_count_refused : Stmt := (top 26)
def d_law_count_refused : DE := ⟨pG "_law_count_refused", "_law_count_refused", "_law_count_refused", defArgs s_law_count_refused, defBody s_law_count_refused, defScope s_law_count_refused, [], []⟩
abbrev s_law_text_refused : Stmt := (top 27)
def d_law_text_refused : DE := ⟨pG "_law_text_refused", "_law_text_refused", "_law_text_refused", defArgs s_law_text_refused, defBody s_law_text_refused, defScope s_law_text_refused, [], []⟩
abbrev s_law_power : Stmt := (top 28)
def d_law_power : DE := ⟨pG "_law_power", "_law_power", "_law_power", defArgs s_law_power, defBody s_law_power, defScope s_law_power, [], []⟩
abbrev s_law_written : Stmt := (top 29)
def d_law_written : DE := ⟨pG "_law_written", "_law_written", "_law_written", defArgs s_law_written, defBody s_law_written, defScope s_law_written, [], []⟩
abbrev s_law_near_texts : Stmt := (top 30)
def d_law_near_texts : DE := ⟨pG "_law_near_texts", "_law_near_texts", "_law_near_texts", defArgs s_law_near_texts, defBody s_law_near_texts, defScope s_law_near_texts, [], []⟩
abbrev s_law_reads : Stmt := (top 31)
def d_law_reads : DE := ⟨pG "_law_reads", "_law_reads", "_law_reads", defArgs s_law_reads, defBody s_law_reads, defScope s_law_reads, [], []⟩
abbrev s_law_equalities : Stmt := (top 32)
def d_law_equalities : DE := ⟨pG "_law_equalities", "_law_equalities", "_law_equalities", defArgs s_law_equalities, defBody s_law_equalities, defScope s_law_equalities, [], []⟩
abbrev s_law_single : Stmt := (top 33)
def d_law_single : DE := ⟨pG "_law_single", "_law_single", "_law_single", defArgs s_law_single, defBody s_law_single, defScope s_law_single, [], []⟩
abbrev s_law_long_texts : Stmt := (top 34)
def d_law_long_texts : DE := ⟨pG "_law_long_texts", "_law_long_texts", "_law_long_texts", defArgs s_law_long_texts, defBody s_law_long_texts, defScope s_law_long_texts, [], []⟩
abbrev s_law_zeros : Stmt := (top 35)
def d_law_zeros : DE := ⟨pG "_law_zeros", "_law_zeros", "_law_zeros", defArgs s_law_zeros, defBody s_law_zeros, defScope s_law_zeros, [], []⟩
abbrev s_law_run : Stmt := (top 36)
def d_law_run : DE := ⟨pG "_law_run", "_law_run", "_law_run", defArgs s_law_run, defBody s_law_run, defScope s_law_run, [], []⟩
abbrev s_law : Stmt := (top 37)
def d_law : DE := ⟨pG "law", "law", "law", defArgs s_law, defBody s_law, defScope s_law, [], []⟩
end Lw
set_option maxHeartbeats 4000000
namespace Lw
open PySem PyProof.Rows L2 FL

structure Fr where
  num : Int
  den : Int
  deriving DecidableEq
def tFr (C : Addr) : FTy Fr := ⟨fun I v x => ∃ a dx, v = .ref a ∧ I a = some (.ins C dx [("num", .int x.num), ("den", .int x.den)]), fun e ⟨a, dx, h1, h2⟩ => ⟨a, dx, h1, e _ _ h2⟩⟩
def cFr (C : Addr) : FC Fr := ⟨fun I o x => ∃ dx, o = .ins C dx [("num", .int x.num), ("den", .int x.den)], fun _ h => h⟩
theorem frz_fr {C : Addr} : Frz (cFr C) (tFr C) := ⟨fun {I p o x} h ⟨dx, e⟩ => ⟨p, dx, rfl, by rw [upd_same, e]⟩⟩
theorem isIns {C : Addr} {x : Fr} : IsIns (tFr C) C x := fun I v ⟨a, dx, h1, h2⟩ => ⟨a, dx, _, h1, h2⟩
def Sb (b : Nat) (i : Int) : Prop := i.natAbs < 2 ^ b
theorem Sb.mono {a b : Nat} {i : Int} (h : Sb a i) (hab : a ≤ b) : Sb b i := Nat.lt_of_lt_of_le h (Nat.pow_le_pow_right (by decide) hab)
theorem Sb.mul {a b : Nat} {i j : Int} (h : Sb a i) (h' : Sb b j) : Sb (a + b) (i * j) := wide_lt h h'
theorem Sb.cm {a b : Nat} {i j : Int} (h : Sb a i) (h' : Sb b j) (ha : 0 < a := by decide) (hb : 0 < b := by decide) (hab : a + b ≤ 1000000 := by decide) : CMulW i j := wide_mul h h' ha hb hab
theorem Sb.add {a : Nat} {i j : Int} (h : Sb a i) (h' : Sb a j) : Sb (a + 1) (i + j) := by
  unfold Sb at *
  rw [Nat.pow_succ]
  have := Int.natAbs_add_le i j
  omega
theorem Sb.neg {a : Nat} {i : Int} (h : Sb a i) : Sb a (-i) := by unfold Sb at *; rw [Int.natAbs_neg]; exact h
theorem Sb.sub {a : Nat} {i j : Int} (h : Sb a i) (h' : Sb a j) : Sb (a + 1) (i - j) := by rw [Int.sub_eq_add_neg]; exact h.add h'.neg
structure Ok (b : Nat) (x : Fr) : Prop where
  n : Sb b x.num
  d : Sb 1400 x.den
  p : 0 < x.den
theorem Ok.mono {a b : Nat} {x : Fr} (h : Ok a x) (hab : a ≤ b) : Ok b x := ⟨h.n.mono hab, h.d, h.p⟩
def dvs (n d : Int) : Int := if d < 0 then -((Nat.gcd n.natAbs d.natAbs : Nat) : Int) else ((Nat.gcd n.natAbs d.natAbs : Nat) : Int)
def nrm (n d : Int) : Fr := ⟨n.fdiv (dvs n d), d.fdiv (dvs n d)⟩
theorem dvs_ne {n d : Int} (h : d ≠ 0) : dvs n d ≠ 0 := by
  have : Nat.gcd n.natAbs d.natAbs ≠ 0 := Nat.gcd_ne_zero_right (by omega)
  unfold dvs
  split <;> omega
theorem dvs_log {n d : Int} (h : Nat.gcd n.natAbs d.natAbs < 2 ^ 3000) : (dvs n d).natAbs.log2 < 9000 := by
  have e : (dvs n d).natAbs = Nat.gcd n.natAbs d.natAbs := by
    unfold dvs
    split <;> omega
  rw [e]
  exact Nat.lt_trans (PySem.Flt.log2_lt_of (by decide) h) (by decide)
section
variable {X : Cx} {Γ : Gm} {M M1 : Mem} {e : Expr} {pos : Pos} {x : Fr} {C : Addr}
theorem ev_num (c : Cls X.K C) (na : NoAttr X.K C "num") (h : EV X e Γ M (tFr C) x M1) (hb : attributeBase e "num" X.env (eval e X.env) = eval e X.env := by rfl) : EV X (.Attribute e "num" pos) Γ M tInt x.num M1 := ev_fld h c na (fun I v ⟨a, dx, h1, h2⟩ => ⟨a, dx, _, _, h1, h2, rfl, rfl⟩) hb
theorem ev_den (c : Cls X.K C) (na : NoAttr X.K C "den") (h : EV X e Γ M (tFr C) x M1) (hb : attributeBase e "den" X.env (eval e X.env) = eval e X.env := by rfl) : EV X (.Attribute e "den" pos) Γ M tInt x.den M1 := ev_fld h c na (fun I v ⟨a, dx, h1, h2⟩ => ⟨a, dx, _, _, h1, h2, rfl, rfl⟩) hb
end
section
variable {X : Cx} {Γ : Gm} {M M1 : Mem} {e : Expr} {pos : Pos} {x : Fr} {C : Addr}
theorem fe_num (h : EV X e Γ M (tFr C) x M1) (c : Cls X.K C) (na : NoAttr X.K C "num") (hb : attributeBase e "num" X.env (eval e X.env) = eval e X.env) : EV X (.Attribute e "num" pos) Γ M tInt x.num M1 := ev_num c na h hb
theorem fe_den (h : EV X e Γ M (tFr C) x M1) (c : Cls X.K C) (na : NoAttr X.K C "den") (hb : attributeBase e "den" X.env (eval e X.env) = eval e X.env) : EV X (.Attribute e "den" pos) Γ M tInt x.den M1 := ev_den c na h hb
end
local macro_rules | `(tactic| walk_at "fv") => `(tactic| first | exact ev_var 0 | exact ev_var 1 | exact ev_var 2 | exact ev_var 3 | exact ev_var 4 | exact ev_var 5 | exact ev_var 6 | exact ev_var 7 | exact ev_var 8 | exact ev_var 9)
local macro_rules | `(tactic| walk_at "mk") => `(tactic| first | exact nomark _ | rfl | (with_unfolding_all rfl))
local macro_rules | `(tactic| walk_at "ov") => `(tactic| first | exact ov_add | exact ov_sub | exact ov_lt | exact ov_le | exact ov_gt | exact ov_ge | exact ov_eqI | exact ov_neI | exact ov_eqB | exact ov_eqS | exact ov_neS | exact ov_mul (by assumption) | exact ov_fdiv (by assumption) | exact ov_mod (by assumption))
local macro_rules | `(tactic| walk_at "uv") => `(tactic| exact uv_neg)
local macro_rules | `(tactic| walk_at "f1") => `(tactic| first | exact ev_int | exact ev_str | exact ev_bl | exact ev_non | walk_at "fv")
local macro_rules | `(tactic| walk_at "f2") => `(tactic| first | (apply fe_num; walk_at "fe"; assumption; assumption; rfl) | (apply fe_den; walk_at "fe"; assumption; assumption; rfl))
local macro_rules | `(tactic| walk_at "f3") => `(tactic| first | (apply fe_op; walk_at "fe"; walk_at "fe"; walk_at "ov") | (apply fe_un; walk_at "fe"; walk_at "uv") | (apply fe_cmp; walk_at "fe"; walk_at "fe"; walk_at "ov"; walk_at "mk"))
local macro_rules | `(tactic| walk_at "fe") => `(tactic| first | walk_at "f1" | walk_at "f2" | walk_at "f3")
local macro_rules | `(tactic| walk_at "ft") => `(tactic| first | (apply ft_cmp; walk_at "fe"; walk_at "fe"; walk_at "ov"; walk_at "mk") | (apply et_val; walk_at "fe"))
local macro_rules | `(tactic| walk_at "fa") => `(tactic| first | exact ea_nil | (apply fa_cons; walk_at "fe"; walk_at "fa"; rfl))
local macro_rules | `(tactic| walk_at "sc") => `(tactic| exact ⟨by rfl, by rfl, by rfl, by decide, by rfl, by decide, by decide⟩)

variable {P : Program} {w : World} {K : PySem.W.Frag} {mg : Str → Option Value} {base : Heap} {C : Addr}
def iniPost (C CD q : Addr) (n d : Int) : Out → Prop := fun o => if d = 0 then o = .exc ⟨CD, []⟩ [] [⟨q, _, cIns C [], ()⟩] else o = .ret ⟨Unit, tNon, ()⟩ [⟨q, _, cIns C [("num", ⟨Int, tInt, (nrm n d).num⟩), ("den", ⟨Int, tInt, (nrm n d).den⟩)], ()⟩]
def spIni (C CD : Addr) : Sp := spF (ι := Addr × Int × Int) (fun i => i.2.2 = 0 ∨ Nat.gcd i.2.1.natAbs i.2.2.natAbs < 2 ^ 3000) (fun i => [⟨Addr, tAdr, i.1⟩, ⟨Int, tInt, i.2.1⟩, ⟨Int, tInt, i.2.2⟩]) (fun i => [⟨i.1, _, cIns C [], ()⟩]) (fun i => iniPost C CD i.1 i.2.1 i.2.2)
structure KFr (K : PySem.W.Frag) (mg : Str → Option Value) (C CD : Addr) : Prop where
  gC : mg "Frac" = some (.ref C)
  c : Cls K C
  n1 : NoAttr K C "num"
  n2 : NoAttr K C "den"
  ci : ClsI K C
  kC : PySem.W.keepIn K (.ref C) = true
  isi : mg "isinstance" = none
  gI : mg "int" = none
  kFF : PySem.W.kitOne K (.ref C) (.ref C) = some true
  kIF : PySem.W.kitOne K (.type "int") (.ref C) = some false
  kFI : PySem.W.kitOne K (.ref C) (.type "int") = some false
  gG : mg "gcd" = some (.builtin "math.gcd")
  gD : mg "DivisionByZero" = some (.ref CD)
  kD : PySem.W.keepIn K (.ref CD) = true
  xD : PySem.W.excIn K CD [.type "ValueError", .type "Exception", .type "BaseException", .type "object"] "ValueError.__new__" = true
  eD : PySem.W.subIn K (.ref CD) (.type "BaseException") = some true
  tD : PySem.W.typeIn K (.ref CD) = some (.type "type")
theorem ok_ini {CD : Addr} {fd : FuncData} (F : FunD K d_Frac_init.name d_Frac_init.qual d_Frac_init.params d_Frac_init.body d_Frac_init.scope (d_Frac_init.dvs K) (d_Frac_init.kws K) (d_Frac_init.ad K) fd) (kf : KFr K mg C CD) :
    FnOk P w K mg base (L2N.CX P w) 1 (d_Frac_init.ad K) fd ["self", "num", "den"] (spIni C CD) := by
  obtain ⟨gC, c, n1, n2, ci, kC, isi, gI, kFF, kIF, kFI, gG, gD, kD, xD, eD, tD⟩ := kf
  have S : FnScope ["self", "num", "den", "divisor"] ["self", "num", "den"] d_Frac_init.scope := by walk_at "sc"
  refine fn_sv F S (fun _ => rfl) ?_
  rintro ⟨q, n, d⟩ hpre cdv A outer s H E hr
  have hN := S.nd
  have rest : ∀ (Γ : Gm), Γ = [some ⟨Addr, tAdr, q⟩, some ⟨Int, tInt, n⟩, some ⟨Int, tInt, d⟩, some ⟨Int, tInt, dvs n d⟩] → d ≠ 0 → Nat.gcd n.natAbs d.natAbs < 2 ^ 3000 →
      SV (cxOf (L2N.CX P w) P w K mg base ["self", "num", "den", "divisor"] d_Frac_init.qual d_Frac_init.scope (d_Frac_init.ad K) cdv A outer s H E) (fun cls d _ H' => E cls d H') (d_Frac_init.body.drop 3) Γ [⟨q, _, cIns C [], ()⟩] (retN (iniPost C CD q n d)) := by
    rintro _ rfl h0 hg
    have h1 : CDivX n (dvs n d) := ⟨dvs_ne h0, dvs_log hg⟩
    have h2 : CDivX d (dvs n d) := ⟨dvs_ne h0, dvs_log hg⟩
    refine sv_cons (s_fld (A := []) (B := []) (by walk_at "fe") (by walk_at "fe") c n1 (by decide) ?_)
    refine sv_one (s_fld (A := []) (B := []) (by walk_at "fe") (by walk_at "fe") c n2 (by show (1 : Nat) < 1000; decide) ?_)
    show iniPost C CD q n d _
    unfold iniPost
    rw [if_neg h0]
    rfl
  refine sv_cons (s_if (by walk_at "ft") (fun hk => ?_) fun hk => ?_)
  · have h0 : d = 0 := of_decide_eq_true hk
    refine sv_one (s_raise rfl takesOf (em_exc0 xD kD (raises_own eD tD) gD) ?_)
    show iniPost C CD q n d _
    unfold iniPost
    rw [if_pos h0]
  · have h0 : d ≠ 0 := of_decide_eq_false hk
    have hg : Nat.gcd n.natAbs d.natAbs < 2 ^ 3000 := hpre.resolve_left h0
    refine sv_nil (sv_cons (s_set 3 hN (ev_callF gG (by walk_at "fa") cv_gcd) ?_))
    refine sv_cons (s_if (by walk_at "ft") (fun hk => ?_) fun hk => ?_)
    · refine sv_one (s_set 3 hN (by walk_at "fe") (rest _ ?_ h0 hg))
      have : d < 0 := of_decide_eq_true hk
      unfold dvs
      rw [if_pos this]
      rfl
    · refine sv_nil (rest _ ?_ h0 hg)
      have : ¬ d < 0 := of_decide_eq_false hk
      unfold dvs
      rw [if_neg this]
      rfl
structure FI (P : Program) (w : World) (K : PySem.W.Frag) (mg : Str → Option Value) (base : Heap) (C CD : Addr) : Prop where
  mkr : Mk K C (d_Frac_init.ad K)
  ex : ∃ fd, FunD K d_Frac_init.name d_Frac_init.qual d_Frac_init.params d_Frac_init.body d_Frac_init.scope (d_Frac_init.dvs K) (d_Frac_init.kws K) (d_Frac_init.ad K) fd ∧ FnOk P w K mg base (L2N.CX P w) 1 (d_Frac_init.ad K) fd ["self", "num", "den"] (spIni C CD)
  gC : mg "Frac" = some (.ref C)
theorem gcd_ok {n d : Int} (h : Sb 3000 d) : d = 0 ∨ Nat.gcd n.natAbs d.natAbs < 2 ^ 3000 := by
  by_cases h0 : d = 0
  · exact .inl h0
  · exact .inr (Nat.lt_of_le_of_lt (Nat.le_of_dvd (by omega) (Nat.gcd_dvd_right _ _)) h)
section
variable {X : Cx} {W : WX} {Γ : Gm} {M M1 : Mem} {e : Expr} {es : List Expr} {p pos : Pos} {x : Fr} {CD : Addr} {j : Nat} {n d : Int}
theorem ini_fr {q : Addr} {d : Int} (h0 : d ≠ 0) : ∀ o, iniPost C CD q n d o → o = .ret ⟨Unit, tNon, ()⟩ [⟨q, _, cIns C [("num", ⟨Int, tInt, (nrm n d).num⟩), ("den", ⟨Int, tInt, (nrm n d).den⟩)], ()⟩] := fun o h => by
  unfold iniPost at h
  rw [if_neg h0] at h
  exact h
theorem ins_fr {a b : Int} : ∀ (I : Hp) (u : HO), (cIns C [("num", ⟨Int, tInt, a⟩), ("den", ⟨Int, tInt, b⟩)]).r I u () → (cFr C).r I u ⟨a, b⟩ := fun I u h => by
  obtain ⟨dx, vs, rfl, h1, h2⟩ := h
  match vs, h1, h2 with
  | [(a1, v1), (a2, v2)], h1, h2 =>
    obtain ⟨e1, e2⟩ := List.cons.inj (show a1 :: [a2] = ("num" : Str) :: ["den"] from h1)
    obtain ⟨e2, _⟩ := List.cons.inj e2
    subst e1 e2
    obtain ⟨r1, r2, _⟩ := h2
    cases (show v1 = _ from r1)
    cases (show v2 = _ from r2)
    exact ⟨dx, rfl⟩
theorem ev_frac2 (fi : FI X.prog X.w X.K X.mg X.base C CD) (hr : Room j X.A) (ha : EA X (e :: es) Γ M [⟨Int, tInt, n⟩, ⟨Int, tInt, d⟩] M1) (h0 : d ≠ 0) (hg : Nat.gcd n.natAbs d.natAbs < 2 ^ 3000) (hj : 2 ≤ j := by decide) (hG : Gl X "Frac" := by rfl)
    (he : starEach (e :: es) X.env = (false, eval e X.env) :: starEach es X.env := by rfl) (hpl : (backTo pos (starEach es X.env)).any (·.1) = false := by rfl) : EV X (.Call (.Name "Frac" p) (e :: es) [] pos) Γ M (tFr C) (nrm n d) M1 := by
  obtain ⟨fd, F, Fok⟩ := fi.ex
  obtain ⟨ds, hd, hb⟩ := F.binds1 (ps := ["self", "num", "den"]) 3 2 (by show [V.int 0, V.int 1] ≠ []; simp) (by show 3 + (2 - 2) = 3; rfl) (fun T kV doc pm an cdv ct us its h1 h2 => match us, its, h1, h2 with
    | [a, b, c], [x, y], _, _ => ⟨_, rfl, rfl⟩)
  exact ((evn_call fi.gC fi.mkr.kp ha (cvn_make (fs := [("num", ⟨Int, tInt, (nrm n d).num⟩), ("den", ⟨Int, tInt, (nrm n d).den⟩)]) fi.mkr Fok (hr.mono hj) hb hd (dts := []) (fun _ => trivial) (fun q => (q, n, d)) (fun q => .inr hg) (fun q => rfl) (fun q => rfl) (fun q => ini_fr h0)) hG (by decide) he hpl).as ins_fr).frz frz_fr
theorem nrm_one : nrm n 1 = ⟨n, 1⟩ := by
  have e : dvs n 1 = 1 := by
    unfold dvs
    rw [if_neg (by decide)]
    simp
  unfold nrm
  rw [e]
  simp
theorem ev_frac1 (fi : FI X.prog X.w X.K X.mg X.base C CD) (hr : Room j X.A) (ha : EA X (e :: es) Γ M [⟨Int, tInt, n⟩] M1) (hj : 2 ≤ j := by decide) (hG : Gl X "Frac" := by rfl)
    (he : starEach (e :: es) X.env = (false, eval e X.env) :: starEach es X.env := by rfl) (hpl : (backTo pos (starEach es X.env)).any (·.1) = false := by rfl) : EV X (.Call (.Name "Frac" p) (e :: es) [] pos) Γ M (tFr C) ⟨n, 1⟩ M1 := by
  obtain ⟨fd, F, Fok⟩ := fi.ex
  obtain ⟨ds, hd, hb⟩ := F.binds1 (ps := ["self", "num", "den"]) 2 1 (by show [V.int 0, V.int 1] ≠ []; simp) (by show 2 + (2 - 1) = 3; rfl) (fun T kV doc pm an cdv ct us its h1 h2 => match us, its, h1, h2 with
    | [a, b], [x, y], _, _ => ⟨_, rfl, rfl⟩)
  rw [← nrm_one]
  exact ((evn_call fi.gC fi.mkr.kp ha (cvn_make (fs := [("num", ⟨Int, tInt, (nrm n 1).num⟩), ("den", ⟨Int, tInt, (nrm n 1).den⟩)]) fi.mkr Fok (hr.mono hj) hb hd (dts := [⟨Int, tInt, 1⟩]) (fun _ => ⟨rfl, trivial⟩) (fun q => (q, n, 1)) (fun q => .inr (by rw [show (1 : Int).natAbs = 1 from rfl, Nat.gcd_one_right]; decide)) (fun q => rfl) (fun q => rfl) (fun q => ini_fr (show (1 : Int) ≠ 0 by decide))) hG (by decide) he hpl).as ins_fr).frz frz_fr
theorem ev_frac0 (fi : FI X.prog X.w X.K X.mg X.base C CD) (hr : Room j X.A) (hj : 2 ≤ j := by decide) (hG : Gl X "Frac" := by rfl) : EV X (.Call (.Name "Frac" p) [] [] pos) Γ M (tFr C) ⟨0, 1⟩ M := by
  obtain ⟨fd, F, Fok⟩ := fi.ex
  obtain ⟨ds, hd, hb⟩ := F.binds1 (ps := ["self", "num", "den"]) 1 0 (by show [V.int 0, V.int 1] ≠ []; simp) (by show 1 + (2 - 0) = 3; rfl) (fun T kV doc pm an cdv ct us its h1 h2 => match us, its, h1, h2 with
    | [a], [x, y], _, _ => ⟨_, rfl, rfl⟩)
  rw [← nrm_one]
  exact ((evn_call0 fi.gC fi.mkr.kp (cvn_make (ts := []) (fs := [("num", ⟨Int, tInt, (nrm 0 1).num⟩), ("den", ⟨Int, tInt, (nrm 0 1).den⟩)]) fi.mkr Fok (hr.mono hj) hb hd (dts := [⟨Int, tInt, 0⟩, ⟨Int, tInt, 1⟩]) (fun _ => ⟨rfl, rfl, trivial⟩) (fun q => (q, 0, 1)) (fun q => .inr (show Nat.gcd (0 : Int).natAbs (1 : Int).natAbs < 2 ^ 3000 by decide)) (fun q => rfl) (fun q => rfl) (fun q => ini_fr (show (1 : Int) ≠ 0 by decide))) hG (by decide)).as ins_fr).frz frz_fr
theorem ev_fracK {e1 e2 : Expr} {p1 p2 : Pos} {M2 : Mem} (fi : FI X.prog X.w X.K X.mg X.base C CD) (hr : Room j X.A) (h1 : EV X e1 Γ M tInt d M1) (h2 : EV X e2 Γ M1 tInt n M2) (h0 : d ≠ 0) (hg : Nat.gcd n.natAbs d.natAbs < 2 ^ 3000) (hj : 2 ≤ j := by decide) (hG : Gl X "Frac" := by rfl)
    (hall : (backToKw pos (keywordEach [⟨some ("den" : Str), e1, p1⟩, ⟨some "num", e2, p2⟩] X.env)).all (·.1.isSome) = true := by rfl) (hks : (backToKw pos (keywordEach [⟨some "den", e1, p1⟩, ⟨some "num", e2, p2⟩] X.env)).filterMap (·.1) = (["den", "num"] : List Str) := by rfl)
    (hpl : ((backTo pos (starEach [] X.env)).any (·.1) || (backToKw pos (keywordEach [⟨some "den", e1, p1⟩, ⟨some "num", e2, p2⟩] X.env)).any (·.1.isNone)) = false := by rfl) :
    EV X (.Call (.Name "Frac" p) [] [⟨some "den", e1, p1⟩, ⟨some "num", e2, p2⟩] pos) Γ M (tFr C) (nrm n d) M2 := by
  obtain ⟨fd, F, Fok⟩ := fi.ex
  obtain ⟨its, hb⟩ := F.kbindsD (ps := ["self", "num", "den"]) 1 ["den", "num"] (fun us _ zs => us ++ zs.reverse) (by show [V.int 0, V.int 1] ≠ []; simp) (fun r1 _ r3 => r1.append r3.reverse) (fun T kV doc pm an cdv ct us its ws h1 h2 h3 => match us, its, ws, h1, h2, h3 with
    | [a], [x, y], [z1, z2], _, _, _ => ⟨_, rfl, rfl⟩)
  refine ((evn_makeK2 (fs := [("num", ⟨Int, tInt, (nrm n d).num⟩), ("den", ⟨Int, tInt, (nrm n d).den⟩)]) fi.mkr Fok (hr.mono hj) hb (fun q => (q, n, d)) (fun q => .inr hg) (fun q I zs r => ?_) (fun q => rfl) (fun q => ini_fr h0) fi.gC h1 h2 hG (by decide) hall hks hpl).as ins_fr).frz frz_fr
  obtain ⟨z1, z2, rfl, r1, r2⟩ := frs2 r
  exact ⟨rfl, r2, r1, trivial⟩
theorem ex_frac2 (fi : FI X.prog X.w X.K X.mg X.base C CD) (tk : L2N.Takes X W) (hr : Room j X.A) (ha : EA X (e :: es) Γ M [⟨Int, tInt, n⟩, ⟨Int, tInt, 0⟩] M1) (hj : 2 ≤ j := by decide) (hG : Gl X "Frac" := by rfl)
    (he : starEach (e :: es) X.env = (false, eval e X.env) :: starEach es X.env := by rfl) (hpl : (backTo pos (starEach es X.env)).any (·.1) = false := by rfl) : EX X W (.Call (.Name "Frac" p) (e :: es) [] pos) Γ M ⟨CD, []⟩ M1 := by
  obtain ⟨fd, F, Fok⟩ := fi.ex
  obtain ⟨ds, hd, hb⟩ := F.binds1 (ps := ["self", "num", "den"]) 3 2 (by show [V.int 0, V.int 1] ≠ []; simp) (by show 3 + (2 - 2) = 3; rfl) (fun T kV doc pm an cdv ct us its h1 h2 => match us, its, h1, h2 with
    | [a, b, c], [x, y], _, _ => ⟨_, rfl, rfl⟩)
  exact ex_call fi.gC fi.mkr.kp ha (cvx_make (c0 := fun q => ⟨q, _, cIns C [], ()⟩) fi.mkr Fok tk (hr.mono hj) hb hd (dts := []) (fun _ => trivial) (fun q => (q, n, 0)) (fun q => .inl rfl) (fun q => rfl) (fun q => rfl) (fun q o h => by unfold iniPost at h; rw [if_pos rfl] at h; exact h)) hG (by decide) he hpl
end
end Lw
set_option maxHeartbeats 4000000
namespace Lw
open PySem PyProof.Rows L2 FL
local macro_rules | `(tactic| walk_at "mk") => `(tactic| first | exact nomark _ | rfl | (with_unfolding_all rfl))
local macro_rules | `(tactic| walk_at "ov") => `(tactic| first | exact ov_add | exact ov_sub | exact ov_lt | exact ov_le | exact ov_gt | exact ov_ge | exact ov_eqI | exact ov_neI | exact ov_eqB | exact ov_neB | exact ov_eqS | exact ov_neS | exact ov_mul (by assumption) | exact ov_fdiv (by assumption) | exact ov_mod (by assumption))
local macro_rules | `(tactic| walk_at "uv") => `(tactic| exact uv_neg)
local macro_rules | `(tactic| walk_at "ci") => `(tactic| first | exact cv_isiO (tv_own isIns (by assumption)) (by assumption) | exact cv_isiO tv_int (by assumption) | exact cv_isiB (tv_own isIns (by assumption)) (by assumption) | exact cv_isiB tv_int (kit_ty (r := true) (by decide +kernel)) | exact cv_isiB tv_int (kit_ty (r := false) (by decide +kernel)) | exact cv_isiB tv_bl (kit_ty (r := true) (by decide +kernel)) | exact cv_isiB tv_bl (kit_ty (r := false) (by decide +kernel)) | exact cv_isiB tv_str (kit_ty (r := true) (by decide +kernel)) | exact cv_isiB tv_str (kit_ty (r := false) (by decide +kernel)))

variable {P : Program} {w : World} {K : PySem.W.Frag} {mg : Str → Option Value} {base : Heap} {C CD : Addr}
def toF : Fr ⊕ Int → Fr
  | .inl x => x
  | .inr i => ⟨i, 1⟩
def nmV (C : Addr) : Fr ⊕ Int → FV
  | .inl x => ⟨Fr, tFr C, x⟩
  | .inr i => ⟨Int, tInt, i⟩
def OkN (b : Nat) (y : Fr ⊕ Int) : Prop := Ok b (toF y)
def addF (x y : Fr) : Fr := nrm (x.num * y.den + y.num * x.den) (x.den * y.den)
def subF (x y : Fr) : Fr := nrm (x.num * y.den - y.num * x.den) (x.den * y.den)
def mulF (x y : Fr) : Fr := nrm (x.num * y.num) (x.den * y.den)
def fqF (x y : Fr) : Int := (x.num * y.den).fdiv (x.den * y.num)
def modF (x y : Fr) : Fr := subF x (mulF y ⟨fqF x y, 1⟩)
def overF (x y : Fr) : Fr := nrm (x.num * y.den) (x.den * y.num)
theorem log_ok {n d : Int} (h : Sb 3000 d) (h0 : d ≠ 0) : Nat.gcd n.natAbs d.natAbs < 2 ^ 3000 := (gcd_ok h).resolve_left h0
theorem dd_ok {x y : Fr} {a b : Nat} (hx : Ok a x) (hy : Ok b y) : Sb 3000 (x.den * y.den) := (hx.d.mul hy.d).mono (by decide)
theorem dd_ne {x y : Fr} {a b : Nat} (hx : Ok a x) (hy : Ok b y) : x.den * y.den ≠ 0 := Int.ne_of_gt (Int.mul_pos hx.p hy.p)
abbrev spB (C : Addr) (g : Fr → Fr → Fr) : Sp := spP (ι := Fr × (Fr ⊕ Int)) (fun i => Ok 100000 i.1 ∧ OkN 100000 i.2) (fun i => [⟨Fr, tFr C, i.1⟩, nmV C i.2]) (fun _ => tFr C) (fun i => g i.1 (toF i.2))
abbrev spC (C : Addr) (g : Fr → Fr → Bool) : Sp := spP (ι := Fr × (Fr ⊕ Int)) (fun i => Ok 100000 i.1 ∧ OkN 100000 i.2) (fun i => [⟨Fr, tFr C, i.1⟩, nmV C i.2]) (fun _ => tBl) (fun i => g i.1 (toF i.2))
abbrev spR (C : Addr) (g : Fr → Fr → Fr) : Sp := spP (ι := Fr × Int) (fun i => Ok 100000 i.1 ∧ Sb 100000 i.2) (fun i => [⟨Fr, tFr C, i.1⟩, ⟨Int, tInt, i.2⟩]) (fun _ => tFr C) (fun i => g ⟨i.2, 1⟩ i.1)
def ltF (x y : Fr) : Bool := decide (x.num * y.den < y.num * x.den)
def leF (x y : Fr) : Bool := decide (x.num * y.den ≤ y.num * x.den)
def gtF (x y : Fr) : Bool := decide (y.num * x.den < x.num * y.den)
def geF (x y : Fr) : Bool := decide (y.num * x.den ≤ x.num * y.den)
abbrev N_Frac_lt : List Str := ["self", "other"]
theorem S_Frac_lt : FnScope N_Frac_lt ["self", "other"] d_Frac_lt.scope := ⟨by rfl, by rfl, by rfl, by decide, by rfl, by decide, by decide⟩
theorem V_Frac_lt_0 : VarOk N_Frac_lt d_Frac_lt.scope 0 "self" := ⟨by rfl, by first | exact Or.inl rfl | exact Or.inr (Or.inl rfl) | exact Or.inr (Or.inr rfl), by decide, by decide⟩
theorem V_Frac_lt_1 : VarOk N_Frac_lt d_Frac_lt.scope 1 "other" := ⟨by rfl, by first | exact Or.inl rfl | exact Or.inr (Or.inl rfl) | exact Or.inr (Or.inr rfl), by decide, by decide⟩
theorem B_Frac_lt {K : PySem.W.Frag} : ∀ fd, FunD K d_Frac_lt.name d_Frac_lt.qual d_Frac_lt.params d_Frac_lt.body d_Frac_lt.scope (d_Frac_lt.dvs K) (d_Frac_lt.kws K) (d_Frac_lt.ad K) fd → Binds K fd ["self", "other"] [] := fun fd F => FunD.bindsN (show FunD K d_Frac_lt.name d_Frac_lt.qual d_Frac_lt.params d_Frac_lt.body d_Frac_lt.scope [] (d_Frac_lt.kws K) (d_Frac_lt.ad K) fd from F) fun kV doc pm an cdv ct us h => match us, h with
  | [u0, u1], _ => rfl
theorem fo_lt (F : Fu K d_Frac_lt) (kf : KFr K mg C CD) : Fo P w K mg base 1 d_Frac_lt ["self", "other"] (spC C ltF) := by
  refine Fo.of F S_Frac_lt (fun _ => rfl) B_Frac_lt ?_
  rintro ⟨x, y⟩ ⟨hx, hy⟩ cdv A outer s H E hr
  have ci := kf.ci
  have kFF := kf.kFF
  have kIF := kf.kIF
  have kFI := kf.kFI
  have hx : Ok 100000 x := hx
  cases y with
  | inl y =>
    have hy : Ok 100000 y := hy
    have m1 : CMulW x.num y.den := hx.n.cm hy.d
    have m2 : CMulW y.num x.den := hy.n.cm hx.d
    refine sv_cons (s_if (et_val (fe_isi (fv V_Frac_lt_1 rfl) (ev_glob kf.gC) (by walk_at "ci") kf.isi rfl rfl rfl rfl)) (fun hk => ?_) fun hk => absurd hk (by decide))
    exact sv_one (s_ret (x := ltF x y) (fe_cmp (fe_op (ev_num kf.c kf.n1 (fv V_Frac_lt_0 rfl)) (ev_den kf.c kf.n2 (fv V_Frac_lt_1 rfl)) (by walk_at "ov")) (fe_op (ev_num kf.c kf.n1 (fv V_Frac_lt_1 rfl)) (ev_den kf.c kf.n2 (fv V_Frac_lt_0 rfl)) (by walk_at "ov")) (by walk_at "ov") (by walk_at "mk")) rfl)
  | inr i =>
    have hi : Sb 100000 i := hy.n
    have m1 : CMulW i x.den := hi.cm hx.d
    have e : ltF x ⟨i, 1⟩ = decide (x.num < i * x.den) := by simp [ltF]
    refine sv_cons (s_if (et_val (fe_isi (fv V_Frac_lt_1 rfl) (ev_glob kf.gC) (by walk_at "ci") kf.isi rfl rfl rfl rfl)) (fun hk => absurd hk (by decide)) fun hk => ?_)
    refine sv_nil (sv_cons (s_if (et_val (fe_isi (fv V_Frac_lt_1 rfl) (ev_ty kf.gI PyProof.Rows.Boot.«int») (by walk_at "ci") kf.isi rfl rfl rfl rfl)) (fun hk => ?_) fun hk => absurd hk (by decide)))
    refine sv_one (s_ret (x := decide (x.num < i * x.den)) (fe_cmp (ev_num kf.c kf.n1 (fv V_Frac_lt_0 rfl)) (fe_op (fv V_Frac_lt_1 rfl) (ev_den kf.c kf.n2 (fv V_Frac_lt_0 rfl)) (by walk_at "ov")) (by walk_at "ov") (by walk_at "mk")) ?_)
    show (Out.ret ⟨Bool, tBl, _⟩ [] : Out) = Out.ret ⟨Bool, tBl, ltF x ⟨i, 1⟩⟩ []
    rw [e]
abbrev N_Frac_add : List Str := ["self", "other"]
theorem S_Frac_add : FnScope N_Frac_add ["self", "other"] d_Frac_add.scope := ⟨by rfl, by rfl, by rfl, by decide, by rfl, by decide, by decide⟩
theorem V_Frac_add_0 : VarOk N_Frac_add d_Frac_add.scope 0 "self" := ⟨by rfl, by first | exact Or.inl rfl | exact Or.inr (Or.inl rfl) | exact Or.inr (Or.inr rfl), by decide, by decide⟩
theorem V_Frac_add_1 : VarOk N_Frac_add d_Frac_add.scope 1 "other" := ⟨by rfl, by first | exact Or.inl rfl | exact Or.inr (Or.inl rfl) | exact Or.inr (Or.inr rfl), by decide, by decide⟩
theorem B_Frac_add {K : PySem.W.Frag} : ∀ fd, FunD K d_Frac_add.name d_Frac_add.qual d_Frac_add.params d_Frac_add.body d_Frac_add.scope (d_Frac_add.dvs K) (d_Frac_add.kws K) (d_Frac_add.ad K) fd → Binds K fd ["self", "other"] [] := fun fd F => FunD.bindsN (show FunD K d_Frac_add.name d_Frac_add.qual d_Frac_add.params d_Frac_add.body d_Frac_add.scope [] (d_Frac_add.kws K) (d_Frac_add.ad K) fd from F) fun kV doc pm an cdv ct us h => match us, h with
  | [u0, u1], _ => rfl
theorem fo_add (F : Fu K d_Frac_add) (kf : KFr K mg C CD) (fi : FI P w K mg base C CD) : Fo P w K mg base 3 d_Frac_add ["self", "other"] (spB C addF) := by
  refine Fo.of F S_Frac_add (fun _ => rfl) B_Frac_add ?_
  rintro ⟨x, y⟩ ⟨hx, hy⟩ cdv A outer s H E hr
  have ci := kf.ci
  have kFF := kf.kFF
  have kIF := kf.kIF
  have kFI := kf.kFI
  have hx : Ok 100000 x := hx
  cases y with
  | inl y =>
    have hy : Ok 100000 y := hy
    have m1 : CMulW x.num y.den := hx.n.cm hy.d
    have m2 : CMulW y.num x.den := hy.n.cm hx.d
    have m3 : CMulW x.den y.den := hx.d.cm hy.d
    have m4 : CMulW x.num y.num := hx.n.cm hy.n
    have h0 := dd_ne hx hy
    have hg := log_ok (n := x.num * y.den + y.num * x.den) (dd_ok hx hy) h0
    refine sv_cons (s_if (et_val (fe_isi (fv V_Frac_add_1 rfl) (ev_glob kf.gC) (by walk_at "ci") kf.isi rfl rfl rfl rfl)) (fun hk => ?_) fun hk => absurd hk (by decide))
    exact sv_one (s_ret (x := nrm (x.num * y.den + y.num * x.den) (x.den * y.den)) (ev_frac2 fi hr (ea_cons (fe_op (fe_op (ev_num kf.c kf.n1 (fv V_Frac_add_0 rfl)) (ev_den kf.c kf.n2 (fv V_Frac_add_1 rfl)) (by walk_at "ov")) (fe_op (ev_num kf.c kf.n1 (fv V_Frac_add_1 rfl)) (ev_den kf.c kf.n2 (fv V_Frac_add_0 rfl)) (by walk_at "ov")) (by walk_at "ov")) (ea_cons (fe_op (ev_den kf.c kf.n2 (fv V_Frac_add_0 rfl)) (ev_den kf.c kf.n2 (fv V_Frac_add_1 rfl)) (by walk_at "ov")) ea_nil)) (by assumption) (by assumption)) rfl)
  | inr i =>
    have hi : Sb 100000 i := hy.n
    have m1 : CMulW i x.den := hi.cm hx.d
    have m2 : CMulW x.num i := hx.n.cm hi
    have h0 : x.den ≠ 0 := Int.ne_of_gt hx.p
    have hg := log_ok (n := x.num + i * x.den) (hx.d.mono (by decide)) h0
    have e : addF x ⟨i, 1⟩ = nrm (x.num + i * x.den) x.den := by simp [addF]
    refine sv_cons (s_if (et_val (fe_isi (fv V_Frac_add_1 rfl) (ev_glob kf.gC) (by walk_at "ci") kf.isi rfl rfl rfl rfl)) (fun hk => absurd hk (by decide)) fun hk => ?_)
    refine sv_nil (sv_cons (s_if (et_val (fe_isi (fv V_Frac_add_1 rfl) (ev_ty kf.gI PyProof.Rows.Boot.«int») (by walk_at "ci") kf.isi rfl rfl rfl rfl)) (fun hk => ?_) fun hk => absurd hk (by decide)))
    refine sv_one (s_ret (x := nrm (x.num + i * x.den) x.den) (ev_frac2 fi hr (ea_cons (fe_op (ev_num kf.c kf.n1 (fv V_Frac_add_0 rfl)) (fe_op (fv V_Frac_add_1 rfl) (ev_den kf.c kf.n2 (fv V_Frac_add_0 rfl)) (by walk_at "ov")) (by walk_at "ov")) (ea_cons (ev_den kf.c kf.n2 (fv V_Frac_add_0 rfl)) ea_nil)) (by assumption) (by assumption)) ?_)
    show (Out.ret ⟨Fr, tFr C, _⟩ [] : Out) = Out.ret ⟨Fr, tFr C, addF x ⟨i, 1⟩⟩ []
    rw [e]
abbrev N_Frac_radd : List Str := ["self", "other"]
theorem S_Frac_radd : FnScope N_Frac_radd ["self", "other"] d_Frac_radd.scope := ⟨by rfl, by rfl, by rfl, by decide, by rfl, by decide, by decide⟩
theorem V_Frac_radd_0 : VarOk N_Frac_radd d_Frac_radd.scope 0 "self" := ⟨by rfl, by first | exact Or.inl rfl | exact Or.inr (Or.inl rfl) | exact Or.inr (Or.inr rfl), by decide, by decide⟩
theorem V_Frac_radd_1 : VarOk N_Frac_radd d_Frac_radd.scope 1 "other" := ⟨by rfl, by first | exact Or.inl rfl | exact Or.inr (Or.inl rfl) | exact Or.inr (Or.inr rfl), by decide, by decide⟩
theorem B_Frac_radd {K : PySem.W.Frag} : ∀ fd, FunD K d_Frac_radd.name d_Frac_radd.qual d_Frac_radd.params d_Frac_radd.body d_Frac_radd.scope (d_Frac_radd.dvs K) (d_Frac_radd.kws K) (d_Frac_radd.ad K) fd → Binds K fd ["self", "other"] [] := fun fd F => FunD.bindsN (show FunD K d_Frac_radd.name d_Frac_radd.qual d_Frac_radd.params d_Frac_radd.body d_Frac_radd.scope [] (d_Frac_radd.kws K) (d_Frac_radd.ad K) fd from F) fun kV doc pm an cdv ct us h => match us, h with
  | [u0, u1], _ => rfl
theorem fo_radd (F : Fu K d_Frac_radd) (kf : KFr K mg C CD) (fi : FI P w K mg base C CD) : Fo P w K mg base 3 d_Frac_radd ["self", "other"] (spR C addF) := by
  refine Fo.of F S_Frac_radd (fun _ => rfl) B_Frac_radd ?_
  rintro ⟨x, i⟩ ⟨hx, hi⟩ cdv A outer s H E hr
  have ci := kf.ci
  have kFF := kf.kFF
  have kIF := kf.kIF
  have kFI := kf.kFI
  have hx : Ok 100000 x := hx
  have hi : Sb 100000 i := hi
  have m1 : CMulW i x.den := hi.cm hx.d
  have m2 : CMulW i x.num := hi.cm hx.n
  have h0 : x.den ≠ 0 := Int.ne_of_gt hx.p
  have hg := log_ok (n := i * x.den + x.num) (hx.d.mono (by decide)) h0
  have e : addF ⟨i, 1⟩ x = nrm (i * x.den + x.num) x.den := by simp [addF]
  refine sv_cons (s_if (et_not (et_val (fe_isi (fv V_Frac_radd_1 rfl) (ev_ty kf.gI PyProof.Rows.Boot.«int») (by walk_at "ci") kf.isi rfl rfl rfl rfl))) (fun hk => absurd hk (by decide)) fun hk => ?_)
  refine sv_nil (sv_one (s_ret (x := nrm (i * x.den + x.num) x.den) (ev_frac2 fi hr (ea_cons (fe_op (fe_op (fv V_Frac_radd_1 rfl) (ev_den kf.c kf.n2 (fv V_Frac_radd_0 rfl)) (by walk_at "ov")) (ev_num kf.c kf.n1 (fv V_Frac_radd_0 rfl)) (by walk_at "ov")) (ea_cons (ev_den kf.c kf.n2 (fv V_Frac_radd_0 rfl)) ea_nil)) (by assumption) (by assumption)) ?_))
  show (Out.ret ⟨Fr, tFr C, _⟩ [] : Out) = Out.ret ⟨Fr, tFr C, addF ⟨i, 1⟩ x⟩ []
  rw [e]
abbrev N_Frac_sub : List Str := ["self", "other"]
theorem S_Frac_sub : FnScope N_Frac_sub ["self", "other"] d_Frac_sub.scope := ⟨by rfl, by rfl, by rfl, by decide, by rfl, by decide, by decide⟩
theorem V_Frac_sub_0 : VarOk N_Frac_sub d_Frac_sub.scope 0 "self" := ⟨by rfl, by first | exact Or.inl rfl | exact Or.inr (Or.inl rfl) | exact Or.inr (Or.inr rfl), by decide, by decide⟩
theorem V_Frac_sub_1 : VarOk N_Frac_sub d_Frac_sub.scope 1 "other" := ⟨by rfl, by first | exact Or.inl rfl | exact Or.inr (Or.inl rfl) | exact Or.inr (Or.inr rfl), by decide, by decide⟩
theorem B_Frac_sub {K : PySem.W.Frag} : ∀ fd, FunD K d_Frac_sub.name d_Frac_sub.qual d_Frac_sub.params d_Frac_sub.body d_Frac_sub.scope (d_Frac_sub.dvs K) (d_Frac_sub.kws K) (d_Frac_sub.ad K) fd → Binds K fd ["self", "other"] [] := fun fd F => FunD.bindsN (show FunD K d_Frac_sub.name d_Frac_sub.qual d_Frac_sub.params d_Frac_sub.body d_Frac_sub.scope [] (d_Frac_sub.kws K) (d_Frac_sub.ad K) fd from F) fun kV doc pm an cdv ct us h => match us, h with
  | [u0, u1], _ => rfl
theorem fo_sub (F : Fu K d_Frac_sub) (kf : KFr K mg C CD) (fi : FI P w K mg base C CD) : Fo P w K mg base 3 d_Frac_sub ["self", "other"] (spB C subF) := by
  refine Fo.of F S_Frac_sub (fun _ => rfl) B_Frac_sub ?_
  rintro ⟨x, y⟩ ⟨hx, hy⟩ cdv A outer s H E hr
  have ci := kf.ci
  have kFF := kf.kFF
  have kIF := kf.kIF
  have kFI := kf.kFI
  have hx : Ok 100000 x := hx
  cases y with
  | inl y =>
    have hy : Ok 100000 y := hy
    have m1 : CMulW x.num y.den := hx.n.cm hy.d
    have m2 : CMulW y.num x.den := hy.n.cm hx.d
    have m3 : CMulW x.den y.den := hx.d.cm hy.d
    have m4 : CMulW x.num y.num := hx.n.cm hy.n
    have h0 := dd_ne hx hy
    have hg := log_ok (n := x.num * y.den - y.num * x.den) (dd_ok hx hy) h0
    refine sv_cons (s_if (et_val (fe_isi (fv V_Frac_sub_1 rfl) (ev_glob kf.gC) (by walk_at "ci") kf.isi rfl rfl rfl rfl)) (fun hk => ?_) fun hk => absurd hk (by decide))
    exact sv_one (s_ret (x := nrm (x.num * y.den - y.num * x.den) (x.den * y.den)) (ev_frac2 fi hr (ea_cons (fe_op (fe_op (ev_num kf.c kf.n1 (fv V_Frac_sub_0 rfl)) (ev_den kf.c kf.n2 (fv V_Frac_sub_1 rfl)) (by walk_at "ov")) (fe_op (ev_num kf.c kf.n1 (fv V_Frac_sub_1 rfl)) (ev_den kf.c kf.n2 (fv V_Frac_sub_0 rfl)) (by walk_at "ov")) (by walk_at "ov")) (ea_cons (fe_op (ev_den kf.c kf.n2 (fv V_Frac_sub_0 rfl)) (ev_den kf.c kf.n2 (fv V_Frac_sub_1 rfl)) (by walk_at "ov")) ea_nil)) (by assumption) (by assumption)) rfl)
  | inr i =>
    have hi : Sb 100000 i := hy.n
    have m1 : CMulW i x.den := hi.cm hx.d
    have m2 : CMulW x.num i := hx.n.cm hi
    have h0 : x.den ≠ 0 := Int.ne_of_gt hx.p
    have hg := log_ok (n := x.num - i * x.den) (hx.d.mono (by decide)) h0
    have e : subF x ⟨i, 1⟩ = nrm (x.num - i * x.den) x.den := by simp [subF]
    refine sv_cons (s_if (et_val (fe_isi (fv V_Frac_sub_1 rfl) (ev_glob kf.gC) (by walk_at "ci") kf.isi rfl rfl rfl rfl)) (fun hk => absurd hk (by decide)) fun hk => ?_)
    refine sv_nil (sv_cons (s_if (et_val (fe_isi (fv V_Frac_sub_1 rfl) (ev_ty kf.gI PyProof.Rows.Boot.«int») (by walk_at "ci") kf.isi rfl rfl rfl rfl)) (fun hk => ?_) fun hk => absurd hk (by decide)))
    refine sv_one (s_ret (x := nrm (x.num - i * x.den) x.den) (ev_frac2 fi hr (ea_cons (fe_op (ev_num kf.c kf.n1 (fv V_Frac_sub_0 rfl)) (fe_op (fv V_Frac_sub_1 rfl) (ev_den kf.c kf.n2 (fv V_Frac_sub_0 rfl)) (by walk_at "ov")) (by walk_at "ov")) (ea_cons (ev_den kf.c kf.n2 (fv V_Frac_sub_0 rfl)) ea_nil)) (by assumption) (by assumption)) ?_)
    show (Out.ret ⟨Fr, tFr C, _⟩ [] : Out) = Out.ret ⟨Fr, tFr C, subF x ⟨i, 1⟩⟩ []
    rw [e]
abbrev N_Frac_mul : List Str := ["self", "other"]
theorem S_Frac_mul : FnScope N_Frac_mul ["self", "other"] d_Frac_mul.scope := ⟨by rfl, by rfl, by rfl, by decide, by rfl, by decide, by decide⟩
theorem V_Frac_mul_0 : VarOk N_Frac_mul d_Frac_mul.scope 0 "self" := ⟨by rfl, by first | exact Or.inl rfl | exact Or.inr (Or.inl rfl) | exact Or.inr (Or.inr rfl), by decide, by decide⟩
theorem V_Frac_mul_1 : VarOk N_Frac_mul d_Frac_mul.scope 1 "other" := ⟨by rfl, by first | exact Or.inl rfl | exact Or.inr (Or.inl rfl) | exact Or.inr (Or.inr rfl), by decide, by decide⟩
theorem B_Frac_mul {K : PySem.W.Frag} : ∀ fd, FunD K d_Frac_mul.name d_Frac_mul.qual d_Frac_mul.params d_Frac_mul.body d_Frac_mul.scope (d_Frac_mul.dvs K) (d_Frac_mul.kws K) (d_Frac_mul.ad K) fd → Binds K fd ["self", "other"] [] := fun fd F => FunD.bindsN (show FunD K d_Frac_mul.name d_Frac_mul.qual d_Frac_mul.params d_Frac_mul.body d_Frac_mul.scope [] (d_Frac_mul.kws K) (d_Frac_mul.ad K) fd from F) fun kV doc pm an cdv ct us h => match us, h with
  | [u0, u1], _ => rfl
theorem fo_mul (F : Fu K d_Frac_mul) (kf : KFr K mg C CD) (fi : FI P w K mg base C CD) : Fo P w K mg base 3 d_Frac_mul ["self", "other"] (spB C mulF) := by
  refine Fo.of F S_Frac_mul (fun _ => rfl) B_Frac_mul ?_
  rintro ⟨x, y⟩ ⟨hx, hy⟩ cdv A outer s H E hr
  have ci := kf.ci
  have kFF := kf.kFF
  have kIF := kf.kIF
  have kFI := kf.kFI
  have hx : Ok 100000 x := hx
  cases y with
  | inl y =>
    have hy : Ok 100000 y := hy
    have m1 : CMulW x.num y.den := hx.n.cm hy.d
    have m2 : CMulW y.num x.den := hy.n.cm hx.d
    have m3 : CMulW x.den y.den := hx.d.cm hy.d
    have m4 : CMulW x.num y.num := hx.n.cm hy.n
    have h0 := dd_ne hx hy
    have hg := log_ok (n := x.num * y.num) (dd_ok hx hy) h0
    refine sv_cons (s_if (et_val (fe_isi (fv V_Frac_mul_1 rfl) (ev_glob kf.gC) (by walk_at "ci") kf.isi rfl rfl rfl rfl)) (fun hk => ?_) fun hk => absurd hk (by decide))
    exact sv_one (s_ret (x := nrm (x.num * y.num) (x.den * y.den)) (ev_frac2 fi hr (ea_cons (fe_op (ev_num kf.c kf.n1 (fv V_Frac_mul_0 rfl)) (ev_num kf.c kf.n1 (fv V_Frac_mul_1 rfl)) (by walk_at "ov")) (ea_cons (fe_op (ev_den kf.c kf.n2 (fv V_Frac_mul_0 rfl)) (ev_den kf.c kf.n2 (fv V_Frac_mul_1 rfl)) (by walk_at "ov")) ea_nil)) (by assumption) (by assumption)) rfl)
  | inr i =>
    have hi : Sb 100000 i := hy.n
    have m1 : CMulW i x.den := hi.cm hx.d
    have m2 : CMulW x.num i := hx.n.cm hi
    have h0 : x.den ≠ 0 := Int.ne_of_gt hx.p
    have hg := log_ok (n := x.num * i) (hx.d.mono (by decide)) h0
    have e : mulF x ⟨i, 1⟩ = nrm (x.num * i) x.den := by simp [mulF]
    refine sv_cons (s_if (et_val (fe_isi (fv V_Frac_mul_1 rfl) (ev_glob kf.gC) (by walk_at "ci") kf.isi rfl rfl rfl rfl)) (fun hk => absurd hk (by decide)) fun hk => ?_)
    refine sv_nil (sv_cons (s_if (et_val (fe_isi (fv V_Frac_mul_1 rfl) (ev_ty kf.gI PyProof.Rows.Boot.«int») (by walk_at "ci") kf.isi rfl rfl rfl rfl)) (fun hk => ?_) fun hk => absurd hk (by decide)))
    refine sv_one (s_ret (x := nrm (x.num * i) x.den) (ev_frac2 fi hr (ea_cons (fe_op (ev_num kf.c kf.n1 (fv V_Frac_mul_0 rfl)) (fv V_Frac_mul_1 rfl) (by walk_at "ov")) (ea_cons (ev_den kf.c kf.n2 (fv V_Frac_mul_0 rfl)) ea_nil)) (by assumption) (by assumption)) ?_)
    show (Out.ret ⟨Fr, tFr C, _⟩ [] : Out) = Out.ret ⟨Fr, tFr C, mulF x ⟨i, 1⟩⟩ []
    rw [e]
abbrev N_Frac_rsub : List Str := ["self", "other"]
theorem S_Frac_rsub : FnScope N_Frac_rsub ["self", "other"] d_Frac_rsub.scope := ⟨by rfl, by rfl, by rfl, by decide, by rfl, by decide, by decide⟩
theorem V_Frac_rsub_0 : VarOk N_Frac_rsub d_Frac_rsub.scope 0 "self" := ⟨by rfl, by first | exact Or.inl rfl | exact Or.inr (Or.inl rfl) | exact Or.inr (Or.inr rfl), by decide, by decide⟩
theorem V_Frac_rsub_1 : VarOk N_Frac_rsub d_Frac_rsub.scope 1 "other" := ⟨by rfl, by first | exact Or.inl rfl | exact Or.inr (Or.inl rfl) | exact Or.inr (Or.inr rfl), by decide, by decide⟩
theorem B_Frac_rsub {K : PySem.W.Frag} : ∀ fd, FunD K d_Frac_rsub.name d_Frac_rsub.qual d_Frac_rsub.params d_Frac_rsub.body d_Frac_rsub.scope (d_Frac_rsub.dvs K) (d_Frac_rsub.kws K) (d_Frac_rsub.ad K) fd → Binds K fd ["self", "other"] [] := fun fd F => FunD.bindsN (show FunD K d_Frac_rsub.name d_Frac_rsub.qual d_Frac_rsub.params d_Frac_rsub.body d_Frac_rsub.scope [] (d_Frac_rsub.kws K) (d_Frac_rsub.ad K) fd from F) fun kV doc pm an cdv ct us h => match us, h with
  | [u0, u1], _ => rfl
theorem fo_rsub (F : Fu K d_Frac_rsub) (kf : KFr K mg C CD) (fi : FI P w K mg base C CD) : Fo P w K mg base 3 d_Frac_rsub ["self", "other"] (spR C subF) := by
  refine Fo.of F S_Frac_rsub (fun _ => rfl) B_Frac_rsub ?_
  rintro ⟨x, i⟩ ⟨hx, hi⟩ cdv A outer s H E hr
  have ci := kf.ci
  have kFF := kf.kFF
  have kIF := kf.kIF
  have kFI := kf.kFI
  have hx : Ok 100000 x := hx
  have hi : Sb 100000 i := hi
  have m1 : CMulW i x.den := hi.cm hx.d
  have m2 : CMulW i x.num := hi.cm hx.n
  have h0 : x.den ≠ 0 := Int.ne_of_gt hx.p
  have hg := log_ok (n := i * x.den - x.num) (hx.d.mono (by decide)) h0
  have e : subF ⟨i, 1⟩ x = nrm (i * x.den - x.num) x.den := by simp [subF]
  refine sv_cons (s_if (et_not (et_val (fe_isi (fv V_Frac_rsub_1 rfl) (ev_ty kf.gI PyProof.Rows.Boot.«int») (by walk_at "ci") kf.isi rfl rfl rfl rfl))) (fun hk => absurd hk (by decide)) fun hk => ?_)
  refine sv_nil (sv_one (s_ret (x := nrm (i * x.den - x.num) x.den) (ev_frac2 fi hr (ea_cons (fe_op (fe_op (fv V_Frac_rsub_1 rfl) (ev_den kf.c kf.n2 (fv V_Frac_rsub_0 rfl)) (by walk_at "ov")) (ev_num kf.c kf.n1 (fv V_Frac_rsub_0 rfl)) (by walk_at "ov")) (ea_cons (ev_den kf.c kf.n2 (fv V_Frac_rsub_0 rfl)) ea_nil)) (by assumption) (by assumption)) ?_))
  show (Out.ret ⟨Fr, tFr C, _⟩ [] : Out) = Out.ret ⟨Fr, tFr C, subF ⟨i, 1⟩ x⟩ []
  rw [e]
abbrev N_Frac_rmul : List Str := ["self", "other"]
theorem S_Frac_rmul : FnScope N_Frac_rmul ["self", "other"] d_Frac_rmul.scope := ⟨by rfl, by rfl, by rfl, by decide, by rfl, by decide, by decide⟩
theorem V_Frac_rmul_0 : VarOk N_Frac_rmul d_Frac_rmul.scope 0 "self" := ⟨by rfl, by first | exact Or.inl rfl | exact Or.inr (Or.inl rfl) | exact Or.inr (Or.inr rfl), by decide, by decide⟩
theorem V_Frac_rmul_1 : VarOk N_Frac_rmul d_Frac_rmul.scope 1 "other" := ⟨by rfl, by first | exact Or.inl rfl | exact Or.inr (Or.inl rfl) | exact Or.inr (Or.inr rfl), by decide, by decide⟩
theorem B_Frac_rmul {K : PySem.W.Frag} : ∀ fd, FunD K d_Frac_rmul.name d_Frac_rmul.qual d_Frac_rmul.params d_Frac_rmul.body d_Frac_rmul.scope (d_Frac_rmul.dvs K) (d_Frac_rmul.kws K) (d_Frac_rmul.ad K) fd → Binds K fd ["self", "other"] [] := fun fd F => FunD.bindsN (show FunD K d_Frac_rmul.name d_Frac_rmul.qual d_Frac_rmul.params d_Frac_rmul.body d_Frac_rmul.scope [] (d_Frac_rmul.kws K) (d_Frac_rmul.ad K) fd from F) fun kV doc pm an cdv ct us h => match us, h with
  | [u0, u1], _ => rfl
theorem fo_rmul (F : Fu K d_Frac_rmul) (kf : KFr K mg C CD) (fi : FI P w K mg base C CD) : Fo P w K mg base 3 d_Frac_rmul ["self", "other"] (spR C mulF) := by
  refine Fo.of F S_Frac_rmul (fun _ => rfl) B_Frac_rmul ?_
  rintro ⟨x, i⟩ ⟨hx, hi⟩ cdv A outer s H E hr
  have ci := kf.ci
  have kFF := kf.kFF
  have kIF := kf.kIF
  have kFI := kf.kFI
  have hx : Ok 100000 x := hx
  have hi : Sb 100000 i := hi
  have m1 : CMulW i x.den := hi.cm hx.d
  have m2 : CMulW i x.num := hi.cm hx.n
  have h0 : x.den ≠ 0 := Int.ne_of_gt hx.p
  have hg := log_ok (n := i * x.num) (hx.d.mono (by decide)) h0
  have e : mulF ⟨i, 1⟩ x = nrm (i * x.num) x.den := by simp [mulF]
  refine sv_cons (s_if (et_not (et_val (fe_isi (fv V_Frac_rmul_1 rfl) (ev_ty kf.gI PyProof.Rows.Boot.«int») (by walk_at "ci") kf.isi rfl rfl rfl rfl))) (fun hk => absurd hk (by decide)) fun hk => ?_)
  refine sv_nil (sv_one (s_ret (x := nrm (i * x.num) x.den) (ev_frac2 fi hr (ea_cons (fe_op (fv V_Frac_rmul_1 rfl) (ev_num kf.c kf.n1 (fv V_Frac_rmul_0 rfl)) (by walk_at "ov")) (ea_cons (ev_den kf.c kf.n2 (fv V_Frac_rmul_0 rfl)) ea_nil)) (by assumption) (by assumption)) ?_))
  show (Out.ret ⟨Fr, tFr C, _⟩ [] : Out) = Out.ret ⟨Fr, tFr C, mulF ⟨i, 1⟩ x⟩ []
  rw [e]
abbrev N_Frac_le : List Str := ["self", "other"]
theorem S_Frac_le : FnScope N_Frac_le ["self", "other"] d_Frac_le.scope := ⟨by rfl, by rfl, by rfl, by decide, by rfl, by decide, by decide⟩
theorem V_Frac_le_0 : VarOk N_Frac_le d_Frac_le.scope 0 "self" := ⟨by rfl, by first | exact Or.inl rfl | exact Or.inr (Or.inl rfl) | exact Or.inr (Or.inr rfl), by decide, by decide⟩
theorem V_Frac_le_1 : VarOk N_Frac_le d_Frac_le.scope 1 "other" := ⟨by rfl, by first | exact Or.inl rfl | exact Or.inr (Or.inl rfl) | exact Or.inr (Or.inr rfl), by decide, by decide⟩
theorem B_Frac_le {K : PySem.W.Frag} : ∀ fd, FunD K d_Frac_le.name d_Frac_le.qual d_Frac_le.params d_Frac_le.body d_Frac_le.scope (d_Frac_le.dvs K) (d_Frac_le.kws K) (d_Frac_le.ad K) fd → Binds K fd ["self", "other"] [] := fun fd F => FunD.bindsN (show FunD K d_Frac_le.name d_Frac_le.qual d_Frac_le.params d_Frac_le.body d_Frac_le.scope [] (d_Frac_le.kws K) (d_Frac_le.ad K) fd from F) fun kV doc pm an cdv ct us h => match us, h with
  | [u0, u1], _ => rfl
theorem fo_le (F : Fu K d_Frac_le) (kf : KFr K mg C CD) : Fo P w K mg base 1 d_Frac_le ["self", "other"] (spC C leF) := by
  refine Fo.of F S_Frac_le (fun _ => rfl) B_Frac_le ?_
  rintro ⟨x, y⟩ ⟨hx, hy⟩ cdv A outer s H E hr
  have ci := kf.ci
  have kFF := kf.kFF
  have kIF := kf.kIF
  have kFI := kf.kFI
  have hx : Ok 100000 x := hx
  cases y with
  | inl y =>
    have hy : Ok 100000 y := hy
    have m1 : CMulW x.num y.den := hx.n.cm hy.d
    have m2 : CMulW y.num x.den := hy.n.cm hx.d
    refine sv_cons (s_if (et_val (fe_isi (fv V_Frac_le_1 rfl) (ev_glob kf.gC) (by walk_at "ci") kf.isi rfl rfl rfl rfl)) (fun hk => ?_) fun hk => absurd hk (by decide))
    exact sv_one (s_ret (x := leF x y) (fe_cmp (fe_op (ev_num kf.c kf.n1 (fv V_Frac_le_0 rfl)) (ev_den kf.c kf.n2 (fv V_Frac_le_1 rfl)) (by walk_at "ov")) (fe_op (ev_num kf.c kf.n1 (fv V_Frac_le_1 rfl)) (ev_den kf.c kf.n2 (fv V_Frac_le_0 rfl)) (by walk_at "ov")) (by walk_at "ov") (by walk_at "mk")) rfl)
  | inr i =>
    have hi : Sb 100000 i := hy.n
    have m1 : CMulW i x.den := hi.cm hx.d
    have e : leF x ⟨i, 1⟩ = decide (x.num ≤ i * x.den) := by simp [leF]
    refine sv_cons (s_if (et_val (fe_isi (fv V_Frac_le_1 rfl) (ev_glob kf.gC) (by walk_at "ci") kf.isi rfl rfl rfl rfl)) (fun hk => absurd hk (by decide)) fun hk => ?_)
    refine sv_nil (sv_cons (s_if (et_val (fe_isi (fv V_Frac_le_1 rfl) (ev_ty kf.gI PyProof.Rows.Boot.«int») (by walk_at "ci") kf.isi rfl rfl rfl rfl)) (fun hk => ?_) fun hk => absurd hk (by decide)))
    refine sv_one (s_ret (x := decide (x.num ≤ i * x.den)) (fe_cmp (ev_num kf.c kf.n1 (fv V_Frac_le_0 rfl)) (fe_op (fv V_Frac_le_1 rfl) (ev_den kf.c kf.n2 (fv V_Frac_le_0 rfl)) (by walk_at "ov")) (by walk_at "ov") (by walk_at "mk")) ?_)
    show (Out.ret ⟨Bool, tBl, _⟩ [] : Out) = Out.ret ⟨Bool, tBl, leF x ⟨i, 1⟩⟩ []
    rw [e]
abbrev N_Frac_gt : List Str := ["self", "other"]
theorem S_Frac_gt : FnScope N_Frac_gt ["self", "other"] d_Frac_gt.scope := ⟨by rfl, by rfl, by rfl, by decide, by rfl, by decide, by decide⟩
theorem V_Frac_gt_0 : VarOk N_Frac_gt d_Frac_gt.scope 0 "self" := ⟨by rfl, by first | exact Or.inl rfl | exact Or.inr (Or.inl rfl) | exact Or.inr (Or.inr rfl), by decide, by decide⟩
theorem V_Frac_gt_1 : VarOk N_Frac_gt d_Frac_gt.scope 1 "other" := ⟨by rfl, by first | exact Or.inl rfl | exact Or.inr (Or.inl rfl) | exact Or.inr (Or.inr rfl), by decide, by decide⟩
theorem B_Frac_gt {K : PySem.W.Frag} : ∀ fd, FunD K d_Frac_gt.name d_Frac_gt.qual d_Frac_gt.params d_Frac_gt.body d_Frac_gt.scope (d_Frac_gt.dvs K) (d_Frac_gt.kws K) (d_Frac_gt.ad K) fd → Binds K fd ["self", "other"] [] := fun fd F => FunD.bindsN (show FunD K d_Frac_gt.name d_Frac_gt.qual d_Frac_gt.params d_Frac_gt.body d_Frac_gt.scope [] (d_Frac_gt.kws K) (d_Frac_gt.ad K) fd from F) fun kV doc pm an cdv ct us h => match us, h with
  | [u0, u1], _ => rfl
theorem fo_gt (F : Fu K d_Frac_gt) (kf : KFr K mg C CD) : Fo P w K mg base 1 d_Frac_gt ["self", "other"] (spC C gtF) := by
  refine Fo.of F S_Frac_gt (fun _ => rfl) B_Frac_gt ?_
  rintro ⟨x, y⟩ ⟨hx, hy⟩ cdv A outer s H E hr
  have ci := kf.ci
  have kFF := kf.kFF
  have kIF := kf.kIF
  have kFI := kf.kFI
  have hx : Ok 100000 x := hx
  cases y with
  | inl y =>
    have hy : Ok 100000 y := hy
    have m1 : CMulW x.num y.den := hx.n.cm hy.d
    have m2 : CMulW y.num x.den := hy.n.cm hx.d
    refine sv_cons (s_if (et_val (fe_isi (fv V_Frac_gt_1 rfl) (ev_glob kf.gC) (by walk_at "ci") kf.isi rfl rfl rfl rfl)) (fun hk => ?_) fun hk => absurd hk (by decide))
    exact sv_one (s_ret (x := gtF x y) (fe_cmp (fe_op (ev_num kf.c kf.n1 (fv V_Frac_gt_0 rfl)) (ev_den kf.c kf.n2 (fv V_Frac_gt_1 rfl)) (by walk_at "ov")) (fe_op (ev_num kf.c kf.n1 (fv V_Frac_gt_1 rfl)) (ev_den kf.c kf.n2 (fv V_Frac_gt_0 rfl)) (by walk_at "ov")) (by walk_at "ov") (by walk_at "mk")) rfl)
  | inr i =>
    have hi : Sb 100000 i := hy.n
    have m1 : CMulW i x.den := hi.cm hx.d
    have e : gtF x ⟨i, 1⟩ = decide (i * x.den < x.num) := by simp [gtF]
    refine sv_cons (s_if (et_val (fe_isi (fv V_Frac_gt_1 rfl) (ev_glob kf.gC) (by walk_at "ci") kf.isi rfl rfl rfl rfl)) (fun hk => absurd hk (by decide)) fun hk => ?_)
    refine sv_nil (sv_cons (s_if (et_val (fe_isi (fv V_Frac_gt_1 rfl) (ev_ty kf.gI PyProof.Rows.Boot.«int») (by walk_at "ci") kf.isi rfl rfl rfl rfl)) (fun hk => ?_) fun hk => absurd hk (by decide)))
    refine sv_one (s_ret (x := decide (i * x.den < x.num)) (fe_cmp (ev_num kf.c kf.n1 (fv V_Frac_gt_0 rfl)) (fe_op (fv V_Frac_gt_1 rfl) (ev_den kf.c kf.n2 (fv V_Frac_gt_0 rfl)) (by walk_at "ov")) (by walk_at "ov") (by walk_at "mk")) ?_)
    show (Out.ret ⟨Bool, tBl, _⟩ [] : Out) = Out.ret ⟨Bool, tBl, gtF x ⟨i, 1⟩⟩ []
    rw [e]
abbrev N_Frac_ge : List Str := ["self", "other"]
theorem S_Frac_ge : FnScope N_Frac_ge ["self", "other"] d_Frac_ge.scope := ⟨by rfl, by rfl, by rfl, by decide, by rfl, by decide, by decide⟩
theorem V_Frac_ge_0 : VarOk N_Frac_ge d_Frac_ge.scope 0 "self" := ⟨by rfl, by first | exact Or.inl rfl | exact Or.inr (Or.inl rfl) | exact Or.inr (Or.inr rfl), by decide, by decide⟩
theorem V_Frac_ge_1 : VarOk N_Frac_ge d_Frac_ge.scope 1 "other" := ⟨by rfl, by first | exact Or.inl rfl | exact Or.inr (Or.inl rfl) | exact Or.inr (Or.inr rfl), by decide, by decide⟩
theorem B_Frac_ge {K : PySem.W.Frag} : ∀ fd, FunD K d_Frac_ge.name d_Frac_ge.qual d_Frac_ge.params d_Frac_ge.body d_Frac_ge.scope (d_Frac_ge.dvs K) (d_Frac_ge.kws K) (d_Frac_ge.ad K) fd → Binds K fd ["self", "other"] [] := fun fd F => FunD.bindsN (show FunD K d_Frac_ge.name d_Frac_ge.qual d_Frac_ge.params d_Frac_ge.body d_Frac_ge.scope [] (d_Frac_ge.kws K) (d_Frac_ge.ad K) fd from F) fun kV doc pm an cdv ct us h => match us, h with
  | [u0, u1], _ => rfl
theorem fo_ge (F : Fu K d_Frac_ge) (kf : KFr K mg C CD) : Fo P w K mg base 1 d_Frac_ge ["self", "other"] (spC C geF) := by
  refine Fo.of F S_Frac_ge (fun _ => rfl) B_Frac_ge ?_
  rintro ⟨x, y⟩ ⟨hx, hy⟩ cdv A outer s H E hr
  have ci := kf.ci
  have kFF := kf.kFF
  have kIF := kf.kIF
  have kFI := kf.kFI
  have hx : Ok 100000 x := hx
  cases y with
  | inl y =>
    have hy : Ok 100000 y := hy
    have m1 : CMulW x.num y.den := hx.n.cm hy.d
    have m2 : CMulW y.num x.den := hy.n.cm hx.d
    refine sv_cons (s_if (et_val (fe_isi (fv V_Frac_ge_1 rfl) (ev_glob kf.gC) (by walk_at "ci") kf.isi rfl rfl rfl rfl)) (fun hk => ?_) fun hk => absurd hk (by decide))
    exact sv_one (s_ret (x := geF x y) (fe_cmp (fe_op (ev_num kf.c kf.n1 (fv V_Frac_ge_0 rfl)) (ev_den kf.c kf.n2 (fv V_Frac_ge_1 rfl)) (by walk_at "ov")) (fe_op (ev_num kf.c kf.n1 (fv V_Frac_ge_1 rfl)) (ev_den kf.c kf.n2 (fv V_Frac_ge_0 rfl)) (by walk_at "ov")) (by walk_at "ov") (by walk_at "mk")) rfl)
  | inr i =>
    have hi : Sb 100000 i := hy.n
    have m1 : CMulW i x.den := hi.cm hx.d
    have e : geF x ⟨i, 1⟩ = decide (i * x.den ≤ x.num) := by simp [geF]
    refine sv_cons (s_if (et_val (fe_isi (fv V_Frac_ge_1 rfl) (ev_glob kf.gC) (by walk_at "ci") kf.isi rfl rfl rfl rfl)) (fun hk => absurd hk (by decide)) fun hk => ?_)
    refine sv_nil (sv_cons (s_if (et_val (fe_isi (fv V_Frac_ge_1 rfl) (ev_ty kf.gI PyProof.Rows.Boot.«int») (by walk_at "ci") kf.isi rfl rfl rfl rfl)) (fun hk => ?_) fun hk => absurd hk (by decide)))
    refine sv_one (s_ret (x := decide (i * x.den ≤ x.num)) (fe_cmp (ev_num kf.c kf.n1 (fv V_Frac_ge_0 rfl)) (fe_op (fv V_Frac_ge_1 rfl) (ev_den kf.c kf.n2 (fv V_Frac_ge_0 rfl)) (by walk_at "ov")) (by walk_at "ov") (by walk_at "mk")) ?_)
    show (Out.ret ⟨Bool, tBl, _⟩ [] : Out) = Out.ret ⟨Bool, tBl, geF x ⟨i, 1⟩⟩ []
    rw [e]
end Lw
set_option maxHeartbeats 4000000
namespace Lw
open PySem PyProof.Rows L2 FL
local macro_rules | `(tactic| walk_at "mk") => `(tactic| first | exact nomark _ | rfl | (with_unfolding_all rfl))
local macro_rules | `(tactic| walk_at "ov") => `(tactic| first | exact ov_add | exact ov_sub | exact ov_lt | exact ov_le | exact ov_gt | exact ov_ge | exact ov_eqI | exact ov_neI | exact ov_eqB | exact ov_neB | exact ov_eqS | exact ov_neS | exact ov_mul (by assumption) | exact ov_fdiv (by assumption) | exact ov_mod (by assumption))
local macro_rules | `(tactic| walk_at "uv") => `(tactic| exact uv_neg)
local macro_rules | `(tactic| walk_at "ci") => `(tactic| first | exact cv_isiO (tv_own isIns (by assumption)) (by assumption) | exact cv_isiO tv_int (by assumption) | exact cv_isiB (tv_own isIns (by assumption)) (by assumption) | exact cv_isiB tv_int (kit_ty (r := true) (by decide +kernel)) | exact cv_isiB tv_int (kit_ty (r := false) (by decide +kernel)) | exact cv_isiB tv_bl (kit_ty (r := true) (by decide +kernel)) | exact cv_isiB tv_bl (kit_ty (r := false) (by decide +kernel)) | exact cv_isiB tv_str (kit_ty (r := true) (by decide +kernel)) | exact cv_isiB tv_str (kit_ty (r := false) (by decide +kernel)))

structure KOp (K : PySem.W.Frag) (C : Addr) : Prop where
  add : OpB K C .Add (d_Frac_add.ad K)
  sub : OpB K C .Sub (d_Frac_sub.ad K)
  mul : OpB K C .Mult (d_Frac_mul.ad K)
  fdv : OpB K C .FloorDiv (d_Frac_floordiv.ad K)
  md : OpB K C .Mod (d_Frac_mod.ad K)
  pw : OpB K C .Pow (d_Frac_pow.ad K)
  radd : OpRf K C .Add (d_Frac_radd.ad K)
  rsub : OpRf K C .Sub (d_Frac_rsub.ad K)
  rmul : OpRf K C .Mult (d_Frac_rmul.ad K)
  rfdv : OpRf K C .FloorDiv (d_Frac_rfloordiv.ad K)
  rmd : OpRf K C .Mod (d_Frac_rmod.ad K)
  eq : CmpB K C .Eq (d_Frac_eq.ad K)
  ne : NeB K C (d_Frac_eq.ad K)
  lt : CmpB K C .Lt (d_Frac_lt.ad K)
  le : CmpB K C .LtE (d_Frac_le.ad K)
  gt : CmpB K C .Gt (d_Frac_gt.ad K)
  ge : CmpB K C .GtE (d_Frac_ge.ad K)
  rlt : CmpRf K C .Lt (d_Frac_gt.ad K)
  rle : CmpRf K C .LtE (d_Frac_ge.ad K)
  rgt : CmpRf K C .Gt (d_Frac_lt.ad K)
  rge : CmpRf K C .GtE (d_Frac_le.ad K)
  neg : SpB K C "__neg__" (d_Frac_neg.ad K)
  abs : SpB K C "__abs__" (d_Frac_abs.ad K)
  bool : SpB K C "__bool__" (d_Frac_bool.ad K)
  str : SpB K C "__str__" (d_Frac_str.ad K)
  ib : InB K C
  st : Stat K C "of" (d_Frac_of.ad K)
  rd : Stat K C "read" (d_Frac_read.ad K)
  rs : Meth K C "raised" (d_Frac_raised.ad K)
  ov : Meth K C "over" (d_Frac_over.ad K)
  sg : Meth K C "sign" (d_Frac_sign.ad K)
  eqs : Meth K C "equals" (d_Frac_equals.ad K)
variable {P : Program} {w : World} {K : PySem.W.Frag} {mg : Str → Option Value} {base : Heap} {C CD : Addr}
def dvPost (b : Prop) [Decidable b] (ex : Exn) (t : FV) : Out → Prop := fun o => if b then o = .exc ex [] [] else o = .ret t []
theorem dv_ret {b : Prop} [Decidable b] {ex : Exn} {t : FV} (h : ¬ b) : ∀ o, dvPost b ex t o → o = .ret t [] := fun o q => by unfold dvPost at q; rwa [if_neg h] at q
theorem dv_exc {b : Prop} [Decidable b] {ex : Exn} {t : FV} (h : b) : ∀ o, dvPost b ex t o → o = .exc ex [] [] := fun o q => by unfold dvPost at q; rwa [if_pos h] at q
theorem dv_retI {b : Prop} [Decidable b] {ex : Exn} {t : FV} (h : ¬ b) : dvPost b ex t (.ret t []) := by unfold dvPost; rw [if_neg h]
theorem dv_excI {b : Prop} [Decidable b] {ex : Exn} {t : FV} (h : b) : dvPost b ex t (.exc ex [] []) := by unfold dvPost; rw [if_pos h]
abbrev spDv {ι : Type} (pre : ι → Prop) (args : ι → List FV) (b : ι → Prop) [∀ i, Decidable (b i)] (ex : ι → Exn) (t : ι → FV) : Sp := spF pre args (fun _ => []) (fun i => dvPost (b i) (ex i) (t i))
abbrev exD (CD : Addr) : Exn := ⟨CD, []⟩
theorem ok_int {b : Nat} {i : Int} (h : Sb b i) : Ok b ⟨i, 1⟩ := ⟨h, show (1 : Nat) < 2 ^ 1400 from Nat.one_lt_two_pow (by decide), show (0 : Int) < 1 by decide⟩
def signF (x : Fr) : Int := if x.num < 0 then -1 else if 0 < x.num then 1 else 0
abbrev N_Frac_sign : List Str := ["self"]
theorem S_Frac_sign : FnScope N_Frac_sign ["self"] d_Frac_sign.scope := ⟨by rfl, by rfl, by rfl, by decide, by rfl, by decide, by decide⟩
theorem V_Frac_sign_0 : VarOk N_Frac_sign d_Frac_sign.scope 0 "self" := ⟨by rfl, by first | exact Or.inl rfl | exact Or.inr (Or.inl rfl) | exact Or.inr (Or.inr rfl), by decide, by decide⟩
theorem B_Frac_sign {K : PySem.W.Frag} : ∀ fd, FunD K d_Frac_sign.name d_Frac_sign.qual d_Frac_sign.params d_Frac_sign.body d_Frac_sign.scope (d_Frac_sign.dvs K) (d_Frac_sign.kws K) (d_Frac_sign.ad K) fd → Binds K fd ["self"] [] := fun fd F => FunD.bindsN (show FunD K d_Frac_sign.name d_Frac_sign.qual d_Frac_sign.params d_Frac_sign.body d_Frac_sign.scope [] (d_Frac_sign.kws K) (d_Frac_sign.ad K) fd from F) fun kV doc pm an cdv ct us h => match us, h with
  | [u0], _ => rfl
theorem fo_sign (F : Fu K d_Frac_sign) (kf : KFr K mg C CD) : Fo P w K mg base 1 d_Frac_sign ["self"] (spP (ι := Fr) (fun _ => True) (fun x => [⟨Fr, tFr C, x⟩]) (fun _ => tInt) signF) := by
  refine Fo.of F S_Frac_sign (fun _ => rfl) B_Frac_sign ?_
  intro x _ cdv A outer s H E hr
  have e1 : x.num < 0 → signF x = -1 := fun h => by unfold signF; rw [if_pos h]
  have e2 : ¬ x.num < 0 → signF x = if decide (0 < x.num) = true then 1 else 0 := fun h => by
    unfold signF
    rw [if_neg h]
    simp
  refine sv_cons (s_if (ft_cmp (ev_num kf.c kf.n1 (fv V_Frac_sign_0 rfl)) ev_int (by walk_at "ov") (by walk_at "mk")) (fun hk => ?_) fun hk => ?_)
  · refine sv_one (s_ret (fe_un ev_int (by walk_at "uv")) ?_)
    show (Out.ret ⟨Int, tInt, -1⟩ [] : Out) = Out.ret ⟨Int, tInt, signF x⟩ []
    rw [e1 (of_decide_eq_true hk)]
  · refine sv_nil (sv_one (s_ret (ev_if (ft_cmp (ev_num kf.c kf.n1 (fv V_Frac_sign_0 rfl)) ev_int (by walk_at "ov") (by walk_at "mk")) (fun _ => ev_int) fun _ => ev_int) ?_))
    show (Out.ret ⟨Int, tInt, _⟩ [] : Out) = Out.ret ⟨Int, tInt, signF x⟩ []
    rw [e2 (of_decide_eq_false hk)]
abbrev N_Frac_of : List Str := ["value"]
theorem S_Frac_of : FnScope N_Frac_of ["value"] d_Frac_of.scope := ⟨by rfl, by rfl, by rfl, by decide, by rfl, by decide, by decide⟩
theorem V_Frac_of_0 : VarOk N_Frac_of d_Frac_of.scope 0 "value" := ⟨by rfl, by first | exact Or.inl rfl | exact Or.inr (Or.inl rfl) | exact Or.inr (Or.inr rfl), by decide, by decide⟩
theorem B_Frac_of {K : PySem.W.Frag} : ∀ fd, FunD K d_Frac_of.name d_Frac_of.qual d_Frac_of.params d_Frac_of.body d_Frac_of.scope (d_Frac_of.dvs K) (d_Frac_of.kws K) (d_Frac_of.ad K) fd → Binds K fd ["value"] [] := fun fd F => FunD.bindsN (show FunD K d_Frac_of.name d_Frac_of.qual d_Frac_of.params d_Frac_of.body d_Frac_of.scope [] (d_Frac_of.kws K) (d_Frac_of.ad K) fd from F) fun kV doc pm an cdv ct us h => match us, h with
  | [u0], _ => rfl
theorem fo_of (F : Fu K d_Frac_of) (kf : KFr K mg C CD) (fi : FI P w K mg base C CD) : Fo P w K mg base 3 d_Frac_of ["value"] (spP (ι := Fr ⊕ Int) (fun _ => True) (fun y => [nmV C y]) (fun _ => tFr C) toF) := by
  refine Fo.of F S_Frac_of (fun _ => rfl) B_Frac_of ?_
  intro y _ cdv A outer s H E hr
  have ci := kf.ci
  have kFF := kf.kFF
  have kIF := kf.kIF
  cases y with
  | inl y =>
    refine sv_cons (s_if (et_val (fe_isi (fv V_Frac_of_0 rfl) (ev_glob kf.gC) (by walk_at "ci") kf.isi rfl rfl rfl rfl)) (fun hk => ?_) fun hk => absurd hk (by decide))
    exact sv_one (s_ret (x := y) (fv V_Frac_of_0 rfl) rfl)
  | inr i =>
    refine sv_cons (s_if (et_val (fe_isi (fv V_Frac_of_0 rfl) (ev_glob kf.gC) (by walk_at "ci") kf.isi rfl rfl rfl rfl)) (fun hk => absurd hk (by decide)) fun hk => ?_)
    refine sv_nil (sv_one (s_ret (ev_frac1 fi hr (ea_cons (fv V_Frac_of_0 rfl) ea_nil)) ?_))
    rfl
abbrev N_Frac_neg : List Str := ["self"]
theorem S_Frac_neg : FnScope N_Frac_neg ["self"] d_Frac_neg.scope := ⟨by rfl, by rfl, by rfl, by decide, by rfl, by decide, by decide⟩
theorem V_Frac_neg_0 : VarOk N_Frac_neg d_Frac_neg.scope 0 "self" := ⟨by rfl, by first | exact Or.inl rfl | exact Or.inr (Or.inl rfl) | exact Or.inr (Or.inr rfl), by decide, by decide⟩
theorem B_Frac_neg {K : PySem.W.Frag} : ∀ fd, FunD K d_Frac_neg.name d_Frac_neg.qual d_Frac_neg.params d_Frac_neg.body d_Frac_neg.scope (d_Frac_neg.dvs K) (d_Frac_neg.kws K) (d_Frac_neg.ad K) fd → Binds K fd ["self"] [] := fun fd F => FunD.bindsN (show FunD K d_Frac_neg.name d_Frac_neg.qual d_Frac_neg.params d_Frac_neg.body d_Frac_neg.scope [] (d_Frac_neg.kws K) (d_Frac_neg.ad K) fd from F) fun kV doc pm an cdv ct us h => match us, h with
  | [u0], _ => rfl
theorem fo_neg (F : Fu K d_Frac_neg) (kf : KFr K mg C CD) (fi : FI P w K mg base C CD) : Fo P w K mg base 3 d_Frac_neg ["self"] (spP (ι := Fr) (fun x => Ok 100000 x) (fun x => [⟨Fr, tFr C, x⟩]) (fun _ => tFr C) (fun x => nrm (-x.num) x.den)) := by
  refine Fo.of F S_Frac_neg (fun _ => rfl) B_Frac_neg ?_
  intro x hx cdv A outer s H E hr
  have h0 : x.den ≠ 0 := Int.ne_of_gt hx.p
  have hg := log_ok (n := -x.num) (hx.d.mono (by decide)) h0
  exact sv_one (s_ret (ev_frac2 fi hr (ea_cons (fe_un (ev_num kf.c kf.n1 (fv V_Frac_neg_0 rfl)) (by walk_at "uv")) (ea_cons (ev_den kf.c kf.n2 (fv V_Frac_neg_0 rfl)) ea_nil)) (by assumption) (by assumption)) rfl)
abbrev N_Frac_abs : List Str := ["self"]
theorem S_Frac_abs : FnScope N_Frac_abs ["self"] d_Frac_abs.scope := ⟨by rfl, by rfl, by rfl, by decide, by rfl, by decide, by decide⟩
theorem V_Frac_abs_0 : VarOk N_Frac_abs d_Frac_abs.scope 0 "self" := ⟨by rfl, by first | exact Or.inl rfl | exact Or.inr (Or.inl rfl) | exact Or.inr (Or.inr rfl), by decide, by decide⟩
theorem B_Frac_abs {K : PySem.W.Frag} : ∀ fd, FunD K d_Frac_abs.name d_Frac_abs.qual d_Frac_abs.params d_Frac_abs.body d_Frac_abs.scope (d_Frac_abs.dvs K) (d_Frac_abs.kws K) (d_Frac_abs.ad K) fd → Binds K fd ["self"] [] := fun fd F => FunD.bindsN (show FunD K d_Frac_abs.name d_Frac_abs.qual d_Frac_abs.params d_Frac_abs.body d_Frac_abs.scope [] (d_Frac_abs.kws K) (d_Frac_abs.ad K) fd from F) fun kV doc pm an cdv ct us h => match us, h with
  | [u0], _ => rfl
theorem fo_abs (F : Fu K d_Frac_abs) (kf : KFr K mg C CD) (fi : FI P w K mg base C CD) (hab : mg "abs" = none) : Fo P w K mg base 3 d_Frac_abs ["self"] (spP (ι := Fr) (fun x => Ok 100000 x) (fun x => [⟨Fr, tFr C, x⟩]) (fun _ => tFr C) (fun x => nrm (if x.num < 0 then -x.num else x.num) x.den)) := by
  refine Fo.of F S_Frac_abs (fun _ => rfl) B_Frac_abs ?_
  intro x hx cdv A outer s H E hr
  have h0 : x.den ≠ 0 := Int.ne_of_gt hx.p
  have hg := log_ok (n := if x.num < 0 then -x.num else x.num) (hx.d.mono (by decide)) h0
  exact sv_one (s_ret (ev_frac2 fi hr (ea_cons (ev_callB hab PyProof.Rows.Boot.«abs» (ea_cons (ev_num kf.c kf.n1 (fv V_Frac_abs_0 rfl)) ea_nil) cv_abs) (ea_cons (ev_den kf.c kf.n2 (fv V_Frac_abs_0 rfl)) ea_nil)) (by assumption) (by assumption)) rfl)
abbrev N_Frac_bool : List Str := ["self"]
theorem S_Frac_bool : FnScope N_Frac_bool ["self"] d_Frac_bool.scope := ⟨by rfl, by rfl, by rfl, by decide, by rfl, by decide, by decide⟩
theorem V_Frac_bool_0 : VarOk N_Frac_bool d_Frac_bool.scope 0 "self" := ⟨by rfl, by first | exact Or.inl rfl | exact Or.inr (Or.inl rfl) | exact Or.inr (Or.inr rfl), by decide, by decide⟩
theorem B_Frac_bool {K : PySem.W.Frag} : ∀ fd, FunD K d_Frac_bool.name d_Frac_bool.qual d_Frac_bool.params d_Frac_bool.body d_Frac_bool.scope (d_Frac_bool.dvs K) (d_Frac_bool.kws K) (d_Frac_bool.ad K) fd → Binds K fd ["self"] [] := fun fd F => FunD.bindsN (show FunD K d_Frac_bool.name d_Frac_bool.qual d_Frac_bool.params d_Frac_bool.body d_Frac_bool.scope [] (d_Frac_bool.kws K) (d_Frac_bool.ad K) fd from F) fun kV doc pm an cdv ct us h => match us, h with
  | [u0], _ => rfl
theorem fo_bool (F : Fu K d_Frac_bool) (kf : KFr K mg C CD) (hb : mg "bool" = none) : Fo P w K mg base 1 d_Frac_bool ["self"] (spP (ι := Fr) (fun x => True) (fun x => [⟨Fr, tFr C, x⟩]) (fun _ => tBl) (fun x => x.num != 0)) := by
  refine Fo.of F S_Frac_bool (fun _ => rfl) B_Frac_bool ?_
  intro x hx cdv A outer s H E hr
  exact sv_one (s_ret (ev_callTy hb PyProof.Rows.Boot.«bool» (ea_cons (ev_num kf.c kf.n1 (fv V_Frac_bool_0 rfl)) ea_nil) cv_bool) rfl)
def eqN (x : Fr) : Fr ⊕ Int → Bool
  | .inl y => decide (x.num = y.num) && decide (x.den = y.den)
  | .inr _ => false
abbrev N_Frac_eq : List Str := ["self", "other"]
theorem S_Frac_eq : FnScope N_Frac_eq ["self", "other"] d_Frac_eq.scope := ⟨by rfl, by rfl, by rfl, by decide, by rfl, by decide, by decide⟩
theorem V_Frac_eq_0 : VarOk N_Frac_eq d_Frac_eq.scope 0 "self" := ⟨by rfl, by first | exact Or.inl rfl | exact Or.inr (Or.inl rfl) | exact Or.inr (Or.inr rfl), by decide, by decide⟩
theorem V_Frac_eq_1 : VarOk N_Frac_eq d_Frac_eq.scope 1 "other" := ⟨by rfl, by first | exact Or.inl rfl | exact Or.inr (Or.inl rfl) | exact Or.inr (Or.inr rfl), by decide, by decide⟩
theorem B_Frac_eq {K : PySem.W.Frag} : ∀ fd, FunD K d_Frac_eq.name d_Frac_eq.qual d_Frac_eq.params d_Frac_eq.body d_Frac_eq.scope (d_Frac_eq.dvs K) (d_Frac_eq.kws K) (d_Frac_eq.ad K) fd → Binds K fd ["self", "other"] [] := fun fd F => FunD.bindsN (show FunD K d_Frac_eq.name d_Frac_eq.qual d_Frac_eq.params d_Frac_eq.body d_Frac_eq.scope [] (d_Frac_eq.kws K) (d_Frac_eq.ad K) fd from F) fun kV doc pm an cdv ct us h => match us, h with
  | [u0, u1], _ => rfl
theorem fo_eq (F : Fu K d_Frac_eq) (kf : KFr K mg C CD) : Fo P w K mg base 1 d_Frac_eq ["self", "other"] (spP (ι := Fr × (Fr ⊕ Int)) (fun _ => True) (fun i => [⟨Fr, tFr C, i.1⟩, nmV C i.2]) (fun _ => tBl) (fun i => eqN i.1 i.2)) := by
  refine Fo.of F S_Frac_eq (fun _ => rfl) B_Frac_eq ?_
  rintro ⟨x, y⟩ _ cdv A outer s H E hr
  have ci := kf.ci
  have kFF := kf.kFF
  have kIF := kf.kIF
  cases y with
  | inl y =>
    refine sv_one (s_ret (x := true && (decide (x.num = y.num) && decide (x.den = y.den))) (ev_and (fe_isi (fv V_Frac_eq_1 rfl) (ev_glob kf.gC) (by walk_at "ci") kf.isi rfl rfl rfl rfl) fun _ => ev_and (fe_cmp (ev_num kf.c kf.n1 (fv V_Frac_eq_0 rfl)) (ev_num kf.c kf.n1 (fv V_Frac_eq_1 rfl)) (by walk_at "ov") (by walk_at "mk")) fun _ => ev_one (fe_cmp (ev_den kf.c kf.n2 (fv V_Frac_eq_0 rfl)) (ev_den kf.c kf.n2 (fv V_Frac_eq_1 rfl)) (by walk_at "ov") (by walk_at "mk"))) ?_)
    show (Out.ret ⟨Bool, tBl, _⟩ [] : Out) = Out.ret ⟨Bool, tBl, decide (x.num = y.num) && decide (x.den = y.den)⟩ []
    rw [Bool.true_and]
  | inr i => exact sv_one (s_ret (x := false && false) (ev_and (l := false) (fe_isi (fv V_Frac_eq_1 rfl) (ev_glob kf.gC) (by walk_at "ci") kf.isi rfl rfl rfl rfl) fun h => absurd h (by decide)) rfl)
abbrev N_floor_quotient : List Str := ["first", "second"]
theorem S_floor_quotient : FnScope N_floor_quotient ["first", "second"] d_floor_quotient.scope := ⟨by rfl, by rfl, by rfl, by decide, by rfl, by decide, by decide⟩
theorem V_floor_quotient_0 : VarOk N_floor_quotient d_floor_quotient.scope 0 "first" := ⟨by rfl, by first | exact Or.inl rfl | exact Or.inr (Or.inl rfl) | exact Or.inr (Or.inr rfl), by decide, by decide⟩
theorem V_floor_quotient_1 : VarOk N_floor_quotient d_floor_quotient.scope 1 "second" := ⟨by rfl, by first | exact Or.inl rfl | exact Or.inr (Or.inl rfl) | exact Or.inr (Or.inr rfl), by decide, by decide⟩
theorem B_floor_quotient {K : PySem.W.Frag} : ∀ fd, FunD K d_floor_quotient.name d_floor_quotient.qual d_floor_quotient.params d_floor_quotient.body d_floor_quotient.scope (d_floor_quotient.dvs K) (d_floor_quotient.kws K) (d_floor_quotient.ad K) fd → Binds K fd ["first", "second"] [] := fun fd F => FunD.bindsN (show FunD K d_floor_quotient.name d_floor_quotient.qual d_floor_quotient.params d_floor_quotient.body d_floor_quotient.scope [] (d_floor_quotient.kws K) (d_floor_quotient.ad K) fd from F) fun kV doc pm an cdv ct us h => match us, h with
  | [u0, u1], _ => rfl
theorem fo_fq (F : Fu K d_floor_quotient) (kf : KFr K mg C CD) : Fo P w K mg base 1 d_floor_quotient ["first", "second"] (spDv (ι := Fr × Fr) (fun i => Ok 5000 i.1 ∧ Ok 5000 i.2) (fun i => [⟨Fr, tFr C, i.1⟩, ⟨Fr, tFr C, i.2⟩]) (fun i => i.2.num = 0) (fun _ => exD CD) (fun i => ⟨Int, tInt, fqF i.1 i.2⟩)) := by
  refine Fo.of F S_floor_quotient (fun _ => rfl) B_floor_quotient ?_
  rintro ⟨x, y⟩ ⟨hx, hy⟩ cdv A outer s H E hr
  have hx : Ok 5000 x := hx
  have hy : Ok 5000 y := hy
  have m1 : CMulW x.num y.den := hx.n.cm hy.d
  have m2 : CMulW x.den y.num := hx.d.cm hy.n
  refine sv_cons (s_if (ft_cmp (ev_num kf.c kf.n1 (fv V_floor_quotient_1 rfl)) ev_int (by walk_at "ov") (by walk_at "mk")) (fun hk => ?_) fun hk => ?_)
  · have h0 : y.num = 0 := of_decide_eq_true hk
    refine sv_one (s_raise rfl takesOf (em_exc0 kf.xD kf.kD (raises_own kf.eD kf.tD) kf.gD) ?_)
    exact dv_excI h0
  · have h0 : y.num ≠ 0 := of_decide_eq_false hk
    have m3 : CDivX (x.num * y.den) (x.den * y.num) := ⟨fun z => (Int.mul_eq_zero.mp z).elim (Int.ne_of_gt hx.p) h0, Nat.lt_of_lt_of_le (PySem.Flt.log2_lt_of (by decide) (hx.d.mul hy.n)) (by decide)⟩
    exact sv_nil (sv_one (s_ret (x := fqF x y) (fe_op (fe_op (ev_num kf.c kf.n1 (fv V_floor_quotient_0 rfl)) (ev_den kf.c kf.n2 (fv V_floor_quotient_1 rfl)) (by walk_at "ov")) (fe_op (ev_den kf.c kf.n2 (fv V_floor_quotient_0 rfl)) (ev_num kf.c kf.n1 (fv V_floor_quotient_1 rfl)) (by walk_at "ov")) (by walk_at "ov")) (dv_retI h0)))
abbrev N_Frac_floordiv : List Str := ["self", "other"]
theorem S_Frac_floordiv : FnScope N_Frac_floordiv ["self", "other"] d_Frac_floordiv.scope := ⟨by rfl, by rfl, by rfl, by decide, by rfl, by decide, by decide⟩
theorem V_Frac_floordiv_0 : VarOk N_Frac_floordiv d_Frac_floordiv.scope 0 "self" := ⟨by rfl, by first | exact Or.inl rfl | exact Or.inr (Or.inl rfl) | exact Or.inr (Or.inr rfl), by decide, by decide⟩
theorem V_Frac_floordiv_1 : VarOk N_Frac_floordiv d_Frac_floordiv.scope 1 "other" := ⟨by rfl, by first | exact Or.inl rfl | exact Or.inr (Or.inl rfl) | exact Or.inr (Or.inr rfl), by decide, by decide⟩
theorem B_Frac_floordiv {K : PySem.W.Frag} : ∀ fd, FunD K d_Frac_floordiv.name d_Frac_floordiv.qual d_Frac_floordiv.params d_Frac_floordiv.body d_Frac_floordiv.scope (d_Frac_floordiv.dvs K) (d_Frac_floordiv.kws K) (d_Frac_floordiv.ad K) fd → Binds K fd ["self", "other"] [] := fun fd F => FunD.bindsN (show FunD K d_Frac_floordiv.name d_Frac_floordiv.qual d_Frac_floordiv.params d_Frac_floordiv.body d_Frac_floordiv.scope [] (d_Frac_floordiv.kws K) (d_Frac_floordiv.ad K) fd from F) fun kV doc pm an cdv ct us h => match us, h with
  | [u0, u1], _ => rfl
structure GlF (mg : Str → Option Value) (K : PySem.W.Frag) : Prop where
  fq : mg "floor_quotient" = some (.ref (d_floor_quotient.ad K))
abbrev spFq (C CD : Addr) : Sp := spDv (ι := Fr × Fr) (fun i => Ok 5000 i.1 ∧ Ok 5000 i.2) (fun i => [⟨Fr, tFr C, i.1⟩, ⟨Fr, tFr C, i.2⟩]) (fun i => i.2.num = 0) (fun _ => exD CD) (fun i => ⟨Int, tInt, fqF i.1 i.2⟩)
abbrev spOf (C : Addr) : Sp := spP (ι := Fr ⊕ Int) (fun _ => True) (fun y => [nmV C y]) (fun _ => tFr C) toF
theorem kitA_F {K : PySem.W.Frag} (h1 : PySem.W.kitOne K (.ref C) (.type "int") = some false) (h2 : PySem.W.kitOne K (.ref C) (.ref C) = some true) : PySem.W.kitAny K (.ref C) [.type "int", .ref C] = some true := kitAny_cons h1 (fun _ => kitAny_cons h2 (fun z => absurd z (by decide)) fun _ => rfl) fun z => absurd z (by decide)
theorem kitA_I {K : PySem.W.Frag} : PySem.W.kitAny K (.type "int") [.type "int", .ref C] = some true := kitAny_cons (b := true) (kit_ty (by decide +kernel)) (fun z => absurd z (by decide)) fun _ => rfl
theorem fo_floordiv (F : Fu K d_Frac_floordiv) (kf : KFr K mg C CD) (ko : KOp K C) (gl : GlF mg K) (fq : Fo P w K mg base 1 d_floor_quotient ["first", "second"] (spFq C CD)) (of_ : Fo P w K mg base 3 d_Frac_of ["value"] (spOf C)) :
    Fo P w K mg base 4 d_Frac_floordiv ["self", "other"] (spDv (ι := Fr × (Fr ⊕ Int)) (fun i => Ok 5000 i.1 ∧ OkN 5000 i.2) (fun i => [⟨Fr, tFr C, i.1⟩, nmV C i.2]) (fun i => (toF i.2).num = 0) (fun _ => exD CD) (fun i => ⟨Int, tInt, fqF i.1 (toF i.2)⟩)) := by
  refine Fo.of F S_Frac_floordiv (fun _ => rfl) B_Frac_floordiv ?_
  rintro ⟨x, y⟩ ⟨hx, hy⟩ cdv A outer s H E hr
  have hx : Ok 5000 x := hx
  have hy : Ok 5000 (toF y) := hy
  have ci := kf.ci
  refine sv_cons (s_if (M1 := []) (k := !true) (et_not (et_val ?_)) (fun hk => absurd hk (by decide)) fun hk => sv_nil (sv_one ?_))
  · cases y with
    | inl y => exact fe_isi (fv V_Frac_floordiv_1 rfl) (ev_tup (ea_cons (ev_ty kf.gI PyProof.Rows.Boot.«int») (ea_cons (ev_glob kf.gC) ea_nil))) (cv_isiBO (tv_own isIns ci) (kitA_F kf.kFI kf.kFF)) kf.isi rfl rfl rfl rfl
    | inr i => exact fe_isi (fv V_Frac_floordiv_1 rfl) (ev_tup (ea_cons (ev_ty kf.gI PyProof.Rows.Boot.«int») (ea_cons (ev_glob kf.gC) ea_nil))) (cv_isiBO tv_int kitA_I) kf.isi rfl rfl rfl rfl
  · by_cases h0 : (toF y).num = 0
    · refine s_retX (ex_call gl.fq fq.kp (ea_cons (fv V_Frac_floordiv_0 rfl) (ea_cons (ev_stat (fun _ => ev_glob kf.gC) ko.st (ea_cons (fv V_Frac_floordiv_1 rfl) ea_nil) (of_.cvP hr y trivial rfl)) ea_nil)) (fq.cvx0 takesOf hr (x, toF y) ⟨hx, hy⟩ rfl (dv_exc h0))) ?_
      exact dv_excI h0
    · refine s_ret (ev_call gl.fq fq.kp (ea_cons (fv V_Frac_floordiv_0 rfl) (ea_cons (ev_stat (fun _ => ev_glob kf.gC) ko.st (ea_cons (fv V_Frac_floordiv_1 rfl) ea_nil) (of_.cvP hr y trivial rfl)) ea_nil)) (Fo.cv0 (j := 3) fq hr (x, toF y) (And.intro hx hy) rfl (dv_ret h0) (show 1 ≤ 3 by decide))) ?_
      exact dv_retI h0
abbrev N_Frac_rfloordiv : List Str := ["self", "other"]
theorem S_Frac_rfloordiv : FnScope N_Frac_rfloordiv ["self", "other"] d_Frac_rfloordiv.scope := ⟨by rfl, by rfl, by rfl, by decide, by rfl, by decide, by decide⟩
theorem V_Frac_rfloordiv_0 : VarOk N_Frac_rfloordiv d_Frac_rfloordiv.scope 0 "self" := ⟨by rfl, by first | exact Or.inl rfl | exact Or.inr (Or.inl rfl) | exact Or.inr (Or.inr rfl), by decide, by decide⟩
theorem V_Frac_rfloordiv_1 : VarOk N_Frac_rfloordiv d_Frac_rfloordiv.scope 1 "other" := ⟨by rfl, by first | exact Or.inl rfl | exact Or.inr (Or.inl rfl) | exact Or.inr (Or.inr rfl), by decide, by decide⟩
theorem B_Frac_rfloordiv {K : PySem.W.Frag} : ∀ fd, FunD K d_Frac_rfloordiv.name d_Frac_rfloordiv.qual d_Frac_rfloordiv.params d_Frac_rfloordiv.body d_Frac_rfloordiv.scope (d_Frac_rfloordiv.dvs K) (d_Frac_rfloordiv.kws K) (d_Frac_rfloordiv.ad K) fd → Binds K fd ["self", "other"] [] := fun fd F => FunD.bindsN (show FunD K d_Frac_rfloordiv.name d_Frac_rfloordiv.qual d_Frac_rfloordiv.params d_Frac_rfloordiv.body d_Frac_rfloordiv.scope [] (d_Frac_rfloordiv.kws K) (d_Frac_rfloordiv.ad K) fd from F) fun kV doc pm an cdv ct us h => match us, h with
  | [u0, u1], _ => rfl
theorem fo_rfloordiv (F : Fu K d_Frac_rfloordiv) (kf : KFr K mg C CD) (fi : FI P w K mg base C CD) (gl : GlF mg K) (fq : Fo P w K mg base 1 d_floor_quotient ["first", "second"] (spFq C CD)) :
    Fo P w K mg base 4 d_Frac_rfloordiv ["self", "other"] (spDv (ι := Fr × Int) (fun i => Ok 5000 i.1 ∧ Sb 5000 i.2) (fun i => [⟨Fr, tFr C, i.1⟩, ⟨Int, tInt, i.2⟩]) (fun i => i.1.num = 0) (fun _ => exD CD) (fun i => ⟨Int, tInt, fqF ⟨i.2, 1⟩ i.1⟩)) := by
  refine Fo.of F S_Frac_rfloordiv (fun _ => rfl) B_Frac_rfloordiv ?_
  rintro ⟨x, i⟩ ⟨hx, hi⟩ cdv A outer s H E hr
  have hx : Ok 5000 x := hx
  have hi : Ok 5000 ⟨i, 1⟩ := ok_int hi
  refine sv_cons (s_if (et_not (et_val (fe_isi (fv V_Frac_rfloordiv_1 rfl) (ev_ty kf.gI PyProof.Rows.Boot.«int») (by walk_at "ci") kf.isi rfl rfl rfl rfl))) (fun hk => absurd hk (by decide)) fun hk => sv_nil (sv_one ?_))
  by_cases h0 : x.num = 0
  · refine s_retX (ex_call gl.fq fq.kp (ea_cons (ev_frac1 fi hr (ea_cons (fv V_Frac_rfloordiv_1 rfl) ea_nil)) (ea_cons (fv V_Frac_rfloordiv_0 rfl) ea_nil)) (fq.cvx0 takesOf hr (⟨i, 1⟩, x) ⟨hi, hx⟩ rfl (dv_exc h0))) ?_
    exact dv_excI h0
  · refine s_ret (ev_call gl.fq fq.kp (ea_cons (ev_frac1 fi hr (ea_cons (fv V_Frac_rfloordiv_1 rfl) ea_nil)) (ea_cons (fv V_Frac_rfloordiv_0 rfl) ea_nil)) (Fo.cv0 (j := 3) fq hr ((⟨i, 1⟩ : Fr), x) (And.intro hi hx) rfl (dv_ret h0) (show 1 ≤ 3 by decide))) ?_
    exact dv_retI h0
end Lw
namespace Lw
open PySem
theorem gcd_dvs {n d : Int} : (dvs n d).natAbs = Nat.gcd n.natAbs d.natAbs := by
  unfold dvs
  split <;> omega
theorem dvs_n {n d : Int} : dvs n d ∣ n := by
  rw [← Int.natAbs_dvd_natAbs, gcd_dvs]
  exact Nat.gcd_dvd_left _ _
theorem dvs_d {n d : Int} : dvs n d ∣ d := by
  rw [← Int.natAbs_dvd_natAbs, gcd_dvs]
  exact Nat.gcd_dvd_right _ _
theorem fdiv_dvd {a b : Int} (h : b ∣ a) : a.fdiv b * b = a := Int.fdiv_mul_cancel h
theorem nrm_num {n d : Int} : (nrm n d).num * dvs n d = n := fdiv_dvd dvs_n
theorem nrm_den {n d : Int} : (nrm n d).den * dvs n d = d := fdiv_dvd dvs_d
theorem nrm_pos {n d : Int} (h : d ≠ 0) : 0 < (nrm n d).den := by
  have e := nrm_den (n := n) (d := d)
  have g0 : dvs n d ≠ 0 := dvs_ne h
  have sg : (0 < d → 0 < dvs n d) ∧ (d < 0 → dvs n d < 0) := by
    have : Nat.gcd n.natAbs d.natAbs ≠ 0 := Nat.gcd_ne_zero_right (by omega)
    unfold dvs
    constructor
    · intro hd; rw [if_neg (by omega)]; omega
    · intro hd; rw [if_pos hd]; omega
  rcases Int.lt_or_gt_of_ne h with hd | hd
  · have g := sg.2 hd
    refine Int.not_le.mp fun hc => ?_
    have := Int.mul_nonneg_of_nonpos_of_nonpos hc (Int.le_of_lt g)
    omega
  · have g := sg.1 hd
    refine Int.not_le.mp fun hc => ?_
    have := Int.mul_nonpos_of_nonpos_of_nonneg hc (Int.le_of_lt g)
    omega
theorem nrm_cop {n d : Int} (h : d ≠ 0) : Nat.gcd (nrm n d).num.natAbs (nrm n d).den.natAbs = 1 := by
  have g0 : 0 < Nat.gcd n.natAbs d.natAbs := Nat.pos_of_ne_zero (Nat.gcd_ne_zero_right (by omega))
  have e1 : (nrm n d).num.natAbs * Nat.gcd n.natAbs d.natAbs = n.natAbs := by
    rw [← gcd_dvs, ← Int.natAbs_mul, nrm_num]
  have e2 : (nrm n d).den.natAbs * Nat.gcd n.natAbs d.natAbs = d.natAbs := by
    rw [← gcd_dvs, ← Int.natAbs_mul, nrm_den]
  have e3 : Nat.gcd ((nrm n d).num.natAbs * Nat.gcd n.natAbs d.natAbs) ((nrm n d).den.natAbs * Nat.gcd n.natAbs d.natAbs) = Nat.gcd n.natAbs d.natAbs := by rw [e1, e2]
  rw [Nat.gcd_mul_right] at e3
  exact Nat.eq_of_mul_eq_mul_right g0 (by rw [e3, Nat.one_mul])
theorem nrm_eq {n d : Int} : (nrm n d).num * d = n * (nrm n d).den := by
  have e1 := nrm_num (n := n) (d := d)
  have e2 := nrm_den (n := n) (d := d)
  calc (nrm n d).num * d = (nrm n d).num * ((nrm n d).den * dvs n d) := by rw [e2]
    _ = ((nrm n d).num * dvs n d) * (nrm n d).den := by rw [Int.mul_comm (nrm n d).den, Int.mul_assoc]
    _ = n * (nrm n d).den := by rw [e1]
theorem le_mul_nz {a b : Int} (h : b ≠ 0) : a.natAbs ≤ (a * b).natAbs := by
  rw [Int.natAbs_mul]
  exact Nat.le_mul_of_pos_right _ (by omega)
theorem nrm_sn {b : Nat} {n d : Int} (h : d ≠ 0) (hn : Sb b n) : Sb b (nrm n d).num := by
  unfold Sb at *
  have := le_mul_nz (a := (nrm n d).num) (dvs_ne (n := n) h)
  rw [nrm_num] at this
  omega
theorem nrm_sd {b : Nat} {n d : Int} (h : d ≠ 0) (hd : Sb b d) : Sb b (nrm n d).den := by
  unfold Sb at *
  have := le_mul_nz (a := (nrm n d).den) (dvs_ne (n := n) h)
  rw [nrm_den] at this
  omega
theorem nrm_ok {b : Nat} {n d : Int} (h : d ≠ 0) (hn : Sb b n) (hd : Sb 1400 d) : Ok b (nrm n d) := ⟨nrm_sn h hn, nrm_sd h hd, nrm_pos h⟩
theorem fdiv_sb {c : Nat} {a b : Int} (hb : b ≠ 0) (h : Sb c a) : Sb (c + 1) (a.fdiv b) := by
  have e := Int.fmod_add_mul_fdiv a b
  unfold Sb at *
  rw [Nat.pow_succ]
  have hm : (a.fmod b).natAbs < b.natAbs := by
    rcases Int.lt_or_gt_of_ne hb with h1 | h1
    · have h2 := Int.fmod_nonneg_of_pos (-a) (b := -b) (by omega)
      have h3 := Int.fmod_lt_of_pos (-a) (b := -b) (by omega)
      have h4 : (-a).fmod (-b) = -(a.fmod b) := by
        first
          | exact Int.neg_fmod_neg
          | exact Int.neg_fmod_neg ..
          | simp [Int.neg_fmod_neg]
      omega
    · have h2 := Int.fmod_nonneg_of_pos a h1
      have h3 := Int.fmod_lt_of_pos a h1
      omega
  have h4 : (b * a.fdiv b).natAbs ≤ a.natAbs + (a.fmod b).natAbs := by omega
  rw [Int.natAbs_mul] at h4
  by_cases hz : (a.fdiv b).natAbs = 0
  · omega
  · have h5 : b.natAbs * (a.fdiv b).natAbs < a.natAbs + b.natAbs := by omega
    refine Nat.lt_of_not_le fun hge => ?_
    have h6 : b.natAbs * (2 * 2 ^ c) ≤ b.natAbs * (a.fdiv b).natAbs := Nat.mul_le_mul_left _ (by omega)
    have h7 : 1 ≤ b.natAbs := by omega
    have h8 : b.natAbs + 2 ^ c ≤ b.natAbs * (2 * 2 ^ c) := by
      have p1 : 1 ≤ 2 ^ c := Nat.one_le_two_pow
      have q1 : b.natAbs * 1 ≤ b.natAbs * 2 ^ c := Nat.mul_le_mul_left _ p1
      have q2 : 1 * 2 ^ c ≤ b.natAbs * 2 ^ c := Nat.mul_le_mul_right _ h7
      have q3 : b.natAbs * (2 * 2 ^ c) = b.natAbs * 2 ^ c + b.natAbs * 2 ^ c := by rw [← Nat.mul_add, ← Nat.two_mul]
      omega
    omega
theorem pow_sb {b m : Nat} {x : Int} (h : Sb b x) : Sb (b * m + 1) (x ^ m) := by
  unfold Sb at *
  rw [Int.natAbs_pow]
  have : x.natAbs ^ m ≤ (2 ^ b) ^ m := Nat.pow_le_pow_left (Nat.le_of_lt h) m
  rw [← Nat.pow_mul] at this
  rw [Nat.pow_succ]
  have p1 : 1 ≤ 2 ^ (b * m) := Nat.one_le_two_pow
  omega
theorem cop_pow {x y : Int} (h : Nat.gcd x.natAbs y.natAbs = 1) (m : Nat) : Nat.gcd (x ^ m).natAbs (y ^ m).natAbs = 1 := by
  rw [Int.natAbs_pow, Int.natAbs_pow]
  exact Nat.Coprime.pow m m h
theorem nrm_id {x : Fr} (hp : 0 < x.den) (hc : Nat.gcd x.num.natAbs x.den.natAbs = 1) : nrm x.num x.den = x := by
  have e : dvs x.num x.den = 1 := by
    unfold dvs
    rw [if_neg (by omega), hc]
    rfl
  unfold nrm
  rw [e]
  simp
end Lw
set_option maxHeartbeats 4000000
namespace Lw
open PySem PyProof.Rows L2 FL
local macro_rules | `(tactic| walk_at "mk") => `(tactic| first | exact nomark _ | rfl | (with_unfolding_all rfl))
local macro_rules | `(tactic| walk_at "ov") => `(tactic| first | exact ov_add | exact ov_sub | exact ov_lt | exact ov_le | exact ov_gt | exact ov_ge | exact ov_eqI | exact ov_neI | exact ov_eqB | exact ov_neB | exact ov_eqS | exact ov_neS | exact ov_mul (by assumption) | exact ov_fdiv (by assumption) | exact ov_mod (by assumption))
local macro_rules | `(tactic| walk_at "uv") => `(tactic| exact uv_neg)
local macro_rules | `(tactic| walk_at "ci") => `(tactic| first | exact cv_isiO (tv_own isIns (by assumption)) (by assumption) | exact cv_isiO tv_int (by assumption) | exact cv_isiB (tv_own isIns (by assumption)) (by assumption) | exact cv_isiB tv_int (kit_ty (r := true) (by decide +kernel)) | exact cv_isiB tv_int (kit_ty (r := false) (by decide +kernel)) | exact cv_isiB tv_bl (kit_ty (r := true) (by decide +kernel)) | exact cv_isiB tv_bl (kit_ty (r := false) (by decide +kernel)) | exact cv_isiB tv_str (kit_ty (r := true) (by decide +kernel)) | exact cv_isiB tv_str (kit_ty (r := false) (by decide +kernel)))

variable {P : Program} {w : World} {K : PySem.W.Frag} {mg : Str → Option Value} {base : Heap} {C CD CC : Addr}
structure KEx (K : PySem.W.Frag) (mg : Str → Option Value) (x f : Str) (CC : Addr) (fI : Addr) : Prop where
  g : mg x = some (.ref CC)
  o : OexC K CC
  i : PySem.W.findIn K (.ref CC) "__init__" = some (some (.ref fI))
  t : PySem.W.typeIn K (.ref fI) = some (.type "function")
  n : PySem.W.findIn K (.ref CC) f = some none
abbrev spEx {α : Type} (T : FTy α) (f : Str) (CC : Addr) : Sp := spF (ι := Addr × α) (fun _ => True) (fun i => [⟨Addr, tAdr, i.1⟩, ⟨α, T, i.2⟩]) (fun i => [fExo i.1 CC none]) (fun i o => ∃ dx, o = .ret ⟨Unit, tNon, ()⟩ [fExd dx [(f, ⟨α, T, i.2⟩)], fExo i.1 CC (some dx)])
abbrev N_BadCount_init : List Str := ["self", "count"]
theorem S_BadCount_init : FnScope N_BadCount_init ["self", "count"] d_BadCount_init.scope := ⟨by rfl, by rfl, by rfl, by decide, by rfl, by decide, by decide⟩
theorem V_BadCount_init_0 : VarOk N_BadCount_init d_BadCount_init.scope 0 "self" := ⟨by rfl, by first | exact Or.inl rfl | exact Or.inr (Or.inl rfl) | exact Or.inr (Or.inr rfl), by decide, by decide⟩
theorem V_BadCount_init_1 : VarOk N_BadCount_init d_BadCount_init.scope 1 "count" := ⟨by rfl, by first | exact Or.inl rfl | exact Or.inr (Or.inl rfl) | exact Or.inr (Or.inr rfl), by decide, by decide⟩
theorem B_BadCount_init {K : PySem.W.Frag} : ∀ fd, FunD K d_BadCount_init.name d_BadCount_init.qual d_BadCount_init.params d_BadCount_init.body d_BadCount_init.scope (d_BadCount_init.dvs K) (d_BadCount_init.kws K) (d_BadCount_init.ad K) fd → Binds K fd ["self", "count"] [] := fun fd F => FunD.bindsN (show FunD K d_BadCount_init.name d_BadCount_init.qual d_BadCount_init.params d_BadCount_init.body d_BadCount_init.scope [] (d_BadCount_init.kws K) (d_BadCount_init.ad K) fd from F) fun kV doc pm an cdv ct us h => match us, h with
  | [u0, u1], _ => rfl
theorem fo_BadCount (F : Fu K d_BadCount_init) (kx : KEx K mg "BadCount" "count" CC (d_BadCount_init.ad K)) : Fo P w K mg base 1 d_BadCount_init ["self", "count"] (spEx tInt "count" CC) := by
  refine Fo.of F S_BadCount_init (fun _ => rfl) B_BadCount_init ?_
  rintro ⟨q, k⟩ _ cdv A outer s H E hr
  exact sv_one (s_ost1 (A := []) (B := []) (fv V_BadCount_init_1 rfl) (fv V_BadCount_init_0 rfl) kx.o kx.n fun dx => ⟨dx, rfl⟩)
abbrev N_BadText_init : List Str := ["self", "text"]
theorem S_BadText_init : FnScope N_BadText_init ["self", "text"] d_BadText_init.scope := ⟨by rfl, by rfl, by rfl, by decide, by rfl, by decide, by decide⟩
theorem V_BadText_init_0 : VarOk N_BadText_init d_BadText_init.scope 0 "self" := ⟨by rfl, by first | exact Or.inl rfl | exact Or.inr (Or.inl rfl) | exact Or.inr (Or.inr rfl), by decide, by decide⟩
theorem V_BadText_init_1 : VarOk N_BadText_init d_BadText_init.scope 1 "text" := ⟨by rfl, by first | exact Or.inl rfl | exact Or.inr (Or.inl rfl) | exact Or.inr (Or.inr rfl), by decide, by decide⟩
theorem B_BadText_init {K : PySem.W.Frag} : ∀ fd, FunD K d_BadText_init.name d_BadText_init.qual d_BadText_init.params d_BadText_init.body d_BadText_init.scope (d_BadText_init.dvs K) (d_BadText_init.kws K) (d_BadText_init.ad K) fd → Binds K fd ["self", "text"] [] := fun fd F => FunD.bindsN (show FunD K d_BadText_init.name d_BadText_init.qual d_BadText_init.params d_BadText_init.body d_BadText_init.scope [] (d_BadText_init.kws K) (d_BadText_init.ad K) fd from F) fun kV doc pm an cdv ct us h => match us, h with
  | [u0, u1], _ => rfl
theorem fo_BadText (F : Fu K d_BadText_init) (kx : KEx K mg "BadText" "text" CC (d_BadText_init.ad K)) : Fo P w K mg base 1 d_BadText_init ["self", "text"] (spEx tStr "text" CC) := by
  refine Fo.of F S_BadText_init (fun _ => rfl) B_BadText_init ?_
  rintro ⟨q, k⟩ _ cdv A outer s H E hr
  exact sv_one (s_ost1 (A := []) (B := []) (fv V_BadText_init_1 rfl) (fv V_BadText_init_0 rfl) kx.o kx.n fun dx => ⟨dx, rfl⟩)
section
variable {X : Cx} {Γ : Gm} {M M1 : Mem} {e : Expr} {p pos : Pos} {α : Type} {T : FTy α} {x : α} {j : Nat} {d : DE} {n f : Str} {ps : List Str}
theorem em_err (kx : KEx X.K X.mg n f CC (d.ad X.K)) (h : Fo X.prog X.w X.K X.mg X.base 1 d ps (spEx T f CC)) (hr : Room j X.A) (ha : EA X [e] Γ M [⟨α, T, x⟩] M1) (hj : 2 ≤ j := by decide) (hg : Gl X n := by rfl) (hdb : (n == ("__debug__" : Str)) = false := by decide)
    (he : starEach [e] X.env = (false, eval e X.env) :: starEach [] X.env := by rfl) (hpl : (backTo pos (starEach [] X.env)).any (·.1) = false := by rfl) : EM X (.Call (.Name n p) [e] [] pos) Γ M ⟨CC, [(f, ⟨α, T, x⟩)]⟩ M1 := by
  obtain ⟨fd, F, b⟩ := h.ex
  exact em_oex kx.o kx.i kx.t F (hr.mono hj) b .nil (dts := []) (fun _ => trivial) kx.g ha (fun q => (q, x)) (fun _ => trivial) (fun _ => rfl) (fun _ => rfl) (fun q o h => h) (show (1 : Nat) ≤ 1000 by decide) hg hdb he hpl
end
abbrev spE (C : Addr) : Sp := spP (ι := Fr × (Fr ⊕ Int)) (fun _ => True) (fun i => [⟨Fr, tFr C, i.1⟩, nmV C i.2]) (fun _ => tBl) (fun i => eqN i.1 i.2)
abbrev N_Frac_equals : List Str := ["self", "b"]
theorem S_Frac_equals : FnScope N_Frac_equals ["self", "b"] d_Frac_equals.scope := ⟨by rfl, by rfl, by rfl, by decide, by rfl, by decide, by decide⟩
theorem V_Frac_equals_0 : VarOk N_Frac_equals d_Frac_equals.scope 0 "self" := ⟨by rfl, by first | exact Or.inl rfl | exact Or.inr (Or.inl rfl) | exact Or.inr (Or.inr rfl), by decide, by decide⟩
theorem V_Frac_equals_1 : VarOk N_Frac_equals d_Frac_equals.scope 1 "b" := ⟨by rfl, by first | exact Or.inl rfl | exact Or.inr (Or.inl rfl) | exact Or.inr (Or.inr rfl), by decide, by decide⟩
theorem B_Frac_equals {K : PySem.W.Frag} : ∀ fd, FunD K d_Frac_equals.name d_Frac_equals.qual d_Frac_equals.params d_Frac_equals.body d_Frac_equals.scope (d_Frac_equals.dvs K) (d_Frac_equals.kws K) (d_Frac_equals.ad K) fd → Binds K fd ["self", "b"] [] := fun fd F => FunD.bindsN (show FunD K d_Frac_equals.name d_Frac_equals.qual d_Frac_equals.params d_Frac_equals.body d_Frac_equals.scope [] (d_Frac_equals.kws K) (d_Frac_equals.ad K) fd from F) fun kV doc pm an cdv ct us h => match us, h with
  | [u0, u1], _ => rfl
theorem fo_equals (F : Fu K d_Frac_equals) (kf : KFr K mg C CD) (ko : KOp K C) (of_ : Fo P w K mg base 3 d_Frac_of ["value"] (spOf C)) (eq_ : Fo P w K mg base 1 d_Frac_eq ["self", "other"] (spE C)) :
    Fo P w K mg base 4 d_Frac_equals ["self", "b"] (spP (ι := Fr × (Fr ⊕ Int)) (fun _ => True) (fun i => [⟨Fr, tFr C, i.1⟩, nmV C i.2]) (fun _ => tBl) (fun i => eqN i.1 (.inl (toF i.2)))) := by
  refine Fo.of F S_Frac_equals (fun _ => rfl) B_Frac_equals ?_
  rintro ⟨x, y⟩ _ cdv A outer s H E hr
  refine sv_one (s_ret (fe_cmp (fv V_Frac_equals_0 rfl) (ev_stat (fun _ => ev_glob kf.gC) ko.st (ea_cons (fv V_Frac_equals_1 rfl) ea_nil) (of_.cvP hr y trivial rfl)) (ov_cmpO op_rcEq hr.units0 isIns isIns ko.eq (eq_.cvP hr (x, .inl (toF y)) trivial rfl)) (by walk_at "mk")) ?_)
  rfl
abbrev N_Frac_over : List Str := ["self", "b", "divisor"]
theorem S_Frac_over : FnScope N_Frac_over ["self", "b"] d_Frac_over.scope := ⟨by rfl, by rfl, by rfl, by decide, by rfl, by decide, by decide⟩
theorem V_Frac_over_0 : VarOk N_Frac_over d_Frac_over.scope 0 "self" := ⟨by rfl, by first | exact Or.inl rfl | exact Or.inr (Or.inl rfl) | exact Or.inr (Or.inr rfl), by decide, by decide⟩
theorem V_Frac_over_1 : VarOk N_Frac_over d_Frac_over.scope 1 "b" := ⟨by rfl, by first | exact Or.inl rfl | exact Or.inr (Or.inl rfl) | exact Or.inr (Or.inr rfl), by decide, by decide⟩
theorem V_Frac_over_2 : VarOk N_Frac_over d_Frac_over.scope 2 "divisor" := ⟨by rfl, by first | exact Or.inl rfl | exact Or.inr (Or.inl rfl) | exact Or.inr (Or.inr rfl), by decide, by decide⟩
theorem B_Frac_over {K : PySem.W.Frag} : ∀ fd, FunD K d_Frac_over.name d_Frac_over.qual d_Frac_over.params d_Frac_over.body d_Frac_over.scope (d_Frac_over.dvs K) (d_Frac_over.kws K) (d_Frac_over.ad K) fd → Binds K fd ["self", "b"] [] := fun fd F => FunD.bindsN (show FunD K d_Frac_over.name d_Frac_over.qual d_Frac_over.params d_Frac_over.body d_Frac_over.scope [] (d_Frac_over.kws K) (d_Frac_over.ad K) fd from F) fun kV doc pm an cdv ct us h => match us, h with
  | [u0, u1], _ => rfl
theorem fo_over (F : Fu K d_Frac_over) (kf : KFr K mg C CD) (fi : FI P w K mg base C CD) (ko : KOp K C) (of_ : Fo P w K mg base 3 d_Frac_of ["value"] (spOf C)) :
    Fo P w K mg base 4 d_Frac_over ["self", "b"] (spDv (ι := Fr × (Fr ⊕ Int)) (fun i => Ok 1400 i.1 ∧ OkN 1400 i.2) (fun i => [⟨Fr, tFr C, i.1⟩, nmV C i.2]) (fun i => (toF i.2).num = 0) (fun _ => exD CD) (fun i => ⟨Fr, tFr C, overF i.1 (toF i.2)⟩)) := by
  refine Fo.of F S_Frac_over (fun _ => rfl) B_Frac_over ?_
  rintro ⟨x, y⟩ ⟨hx, hy⟩ cdv A outer s H E hr
  have hN := S_Frac_over.nd
  have hx : Ok 1400 x := hx
  have hy : Ok 1400 (toF y) := hy
  have m1 : CMulW x.num (toF y).den := hx.n.cm hy.d
  have m2 : CMulW x.den (toF y).num := hx.d.cm hy.n
  refine sv_cons (s_set 2 hN (ev_stat (fun _ => ev_glob kf.gC) ko.st (ea_cons (fv V_Frac_over_1 rfl) ea_nil) (of_.cvP hr y trivial rfl)) ?_)
  refine sv_cons (s_if (ft_cmp (ev_num kf.c kf.n1 (fv V_Frac_over_2 rfl)) ev_int (by walk_at "ov") (by walk_at "mk")) (fun hk => ?_) fun hk => ?_)
  · have h0 : (toF y).num = 0 := of_decide_eq_true hk
    refine sv_one (s_raise rfl takesOf (em_exc0 kf.xD kf.kD (raises_own kf.eD kf.tD) kf.gD) ?_)
    exact dv_excI h0
  · have h0 : (toF y).num ≠ 0 := of_decide_eq_false hk
    have h1 : x.den * (toF y).num ≠ 0 := fun z => (Int.mul_eq_zero.mp z).elim (Int.ne_of_gt hx.p) h0
    have hg := log_ok (n := x.num * (toF y).den) ((hx.d.mul hy.n).mono (by decide)) h1
    exact sv_nil (sv_one (s_ret (x := nrm (x.num * (toF y).den) (x.den * (toF y).num)) (ev_frac2 fi hr (ea_cons (fe_op (ev_num kf.c kf.n1 (fv V_Frac_over_0 rfl)) (ev_den kf.c kf.n2 (fv V_Frac_over_2 rfl)) (by walk_at "ov")) (ea_cons (fe_op (ev_den kf.c kf.n2 (fv V_Frac_over_0 rfl)) (ev_num kf.c kf.n1 (fv V_Frac_over_2 rfl)) (by walk_at "ov")) ea_nil)) (by assumption) (by assumption)) (dv_retI h0)))
def strF (x : Fr) : Str := if x.den = 1 then toString x.num else (Str.empty ++ toString x.num) ++ ("/" : Str) ++ toString x.den
theorem str_len2 {i : Int} (h : Sb 1400 i) : (toString i : Str).length ≤ 1921 := by
  have e := int_text_length_le (a := i) (k := 1920) (by decide) (Nat.lt_of_lt_of_le (PySem.Flt.log2_lt_of (by decide) h) (by decide))
  rw [PySem.ofString_length]; exact e
theorem str_len {i : Int} (h : Sb 1400 i) : (toString i : Str).length ≤ 1000000 := Nat.le_trans (str_len2 h) (by decide)
theorem len_app {p q : Str} : (p ++ q).length = p.length + q.length := Array.size_append
abbrev N_Frac_str : List Str := ["self"]
theorem S_Frac_str : FnScope N_Frac_str ["self"] d_Frac_str.scope := ⟨by rfl, by rfl, by rfl, by decide, by rfl, by decide, by decide⟩
theorem V_Frac_str_0 : VarOk N_Frac_str d_Frac_str.scope 0 "self" := ⟨by rfl, by first | exact Or.inl rfl | exact Or.inr (Or.inl rfl) | exact Or.inr (Or.inr rfl), by decide, by decide⟩
theorem B_Frac_str {K : PySem.W.Frag} : ∀ fd, FunD K d_Frac_str.name d_Frac_str.qual d_Frac_str.params d_Frac_str.body d_Frac_str.scope (d_Frac_str.dvs K) (d_Frac_str.kws K) (d_Frac_str.ad K) fd → Binds K fd ["self"] [] := fun fd F => FunD.bindsN (show FunD K d_Frac_str.name d_Frac_str.qual d_Frac_str.params d_Frac_str.body d_Frac_str.scope [] (d_Frac_str.kws K) (d_Frac_str.ad K) fd from F) fun kV doc pm an cdv ct us h => match us, h with
  | [u0], _ => rfl
theorem fo_str (F : Fu K d_Frac_str) (kf : KFr K mg C CD) (hs : mg "str" = none) : Fo P w K mg base 1 d_Frac_str ["self"] (spP (ι := Fr) (fun x => Ok 1400 x) (fun x => [⟨Fr, tFr C, x⟩]) (fun _ => tStr) strF) := by
  refine Fo.of F S_Frac_str (fun _ => rfl) B_Frac_str ?_
  intro x hx cdv A outer s H E hr
  have l1 : x.num.natAbs.log2 < 1920 := Nat.lt_of_lt_of_le (PySem.Flt.log2_lt_of (by decide) hx.n) (by decide)
  have l2 : x.den.natAbs.log2 < 1920 := Nat.lt_of_lt_of_le (PySem.Flt.log2_lt_of (by decide) hx.d) (by decide)
  have z1 := str_len hx.n
  have z2 := str_len hx.d
  refine sv_cons (s_if (ft_cmp (ev_den kf.c kf.n2 (fv V_Frac_str_0 rfl)) ev_int (by walk_at "ov") (by walk_at "mk")) (fun hk => ?_) fun hk => ?_)
  · have h1 : x.den = 1 := of_decide_eq_true hk
    refine sv_one (s_ret (ev_callTy hs PyProof.Rows.Boot.«str» (ea_cons (ev_num kf.c kf.n1 (fv V_Frac_str_0 rfl)) ea_nil) (cv_str l1)) ?_)
    show (Out.ret ⟨Str, tStr, _⟩ [] : Out) = Out.ret ⟨Str, tStr, strF x⟩ []
    unfold strF
    rw [if_pos h1]
  · have h1 : ¬ x.den = 1 := of_decide_eq_false hk
    refine sv_nil (sv_one (s_ret (ev_joined (.cons (ev_fmtI (ev_num kf.c kf.n1 (fv V_Frac_str_0 rfl)) l1) ?_ (.cons ev_str ?_ (.cons (ev_fmtI (ev_den kf.c kf.n2 (fv V_Frac_str_0 rfl)) l2) ?_ .nil)))) ?_))
    · rw [len_app, sizeLine_eq]; show 0 + _ ≤ _; omega
    · rw [len_app, len_app, sizeLine_eq]; show 0 + _ + 1 ≤ _; omega
    · rw [len_app, len_app, len_app, sizeLine_eq]; show 0 + _ + 1 + _ ≤ _; omega
    · show (Out.ret ⟨Str, tStr, _⟩ [] : Out) = Out.ret ⟨Str, tStr, strF x⟩ []
      unfold strF
      rw [if_neg h1]
def rsPost (C CC : Addr) (x : Fr) (k : Int) : Out → Prop := fun o => if 0 ≤ k ∧ k ≤ 64 then o = .ret ⟨Fr, tFr C, nrm (x.num ^ k.toNat) (x.den ^ k.toNat)⟩ [] else o = .exc ⟨CC, [("count", ⟨Int, tInt, k⟩)]⟩ [] []
abbrev spRs (C CC : Addr) : Sp := spF (ι := Fr × Int) (fun i => Ok 300 i.1 ∧ Sb 300 i.1.den ∧ Nat.gcd i.1.num.natAbs i.1.den.natAbs = 1) (fun i => [⟨Fr, tFr C, i.1⟩, ⟨Int, tInt, i.2⟩]) (fun _ => []) (fun i => rsPost C CC i.1 i.2)
abbrev N_Frac_raised : List Str := ["self", "k", "top", "bottom", "_"]
theorem S_Frac_raised : FnScope N_Frac_raised ["self", "k"] d_Frac_raised.scope := ⟨by rfl, by rfl, by rfl, by decide, by rfl, by decide, by decide⟩
theorem V_Frac_raised_0 : VarOk N_Frac_raised d_Frac_raised.scope 0 "self" := ⟨by rfl, by first | exact Or.inl rfl | exact Or.inr (Or.inl rfl) | exact Or.inr (Or.inr rfl), by decide, by decide⟩
theorem V_Frac_raised_1 : VarOk N_Frac_raised d_Frac_raised.scope 1 "k" := ⟨by rfl, by first | exact Or.inl rfl | exact Or.inr (Or.inl rfl) | exact Or.inr (Or.inr rfl), by decide, by decide⟩
theorem V_Frac_raised_2 : VarOk N_Frac_raised d_Frac_raised.scope 2 "top" := ⟨by rfl, by first | exact Or.inl rfl | exact Or.inr (Or.inl rfl) | exact Or.inr (Or.inr rfl), by decide, by decide⟩
theorem V_Frac_raised_3 : VarOk N_Frac_raised d_Frac_raised.scope 3 "bottom" := ⟨by rfl, by first | exact Or.inl rfl | exact Or.inr (Or.inl rfl) | exact Or.inr (Or.inr rfl), by decide, by decide⟩
theorem V_Frac_raised_4 : VarOk N_Frac_raised d_Frac_raised.scope 4 "_" := ⟨by rfl, by first | exact Or.inl rfl | exact Or.inr (Or.inl rfl) | exact Or.inr (Or.inr rfl), by decide, by decide⟩
theorem B_Frac_raised {K : PySem.W.Frag} : ∀ fd, FunD K d_Frac_raised.name d_Frac_raised.qual d_Frac_raised.params d_Frac_raised.body d_Frac_raised.scope (d_Frac_raised.dvs K) (d_Frac_raised.kws K) (d_Frac_raised.ad K) fd → Binds K fd ["self", "k"] [] := fun fd F => FunD.bindsN (show FunD K d_Frac_raised.name d_Frac_raised.qual d_Frac_raised.params d_Frac_raised.body d_Frac_raised.scope [] (d_Frac_raised.kws K) (d_Frac_raised.ad K) fd from F) fun kV doc pm an cdv ct us h => match us, h with
  | [u0, u1], _ => rfl
theorem fo_raised {t : Tok} (F : Fu K d_Frac_raised) (kf : KFr K mg C CD) (fi : FI P w K mg base C CD) (kx : KEx K mg "BadCount" "count" CC (d_BadCount_init.ad K)) (bc : Fo P w K mg base 1 d_BadCount_init ["self", "count"] (spEx tInt "count" CC)) (hme : mg "MOST_EXPONENT" = some (.int 64 t)) (hrg : mg "range" = none) :
    Fo P w K mg base 3 d_Frac_raised ["self", "k"] (spRs C CC) := by
  refine Fo.of F S_Frac_raised (fun _ => rfl) B_Frac_raised ?_
  rintro ⟨x, k⟩ ⟨hx, hd, hc⟩ cdv A outer s H E hr
  have hN := S_Frac_raised.nd
  have hx : Ok 300 x := hx
  have hd : Sb 300 x.den := hd
  have hc : Nat.gcd x.num.natAbs x.den.natAbs = 1 := hc
  refine sv_cons (s_if (k := !(decide (0 ≤ k) && decide (k ≤ 64))) (et_not (et_chain ov_le (fun _ => ov_le) ev_int (fv V_Frac_raised_1 rfl) fun _ => (ev_globI hme))) (fun hk => ?_) fun hk => ?_)
  · refine sv_one (s_raise rfl takesOf (em_err kx bc hr (ea_cons (fv V_Frac_raised_1 rfl) ea_nil)) ?_)
    show rsPost C CC x k _
    unfold rsPost
    rw [if_neg]
    rintro ⟨h1, h2⟩
    simp [h1, h2] at hk
  · have hk2 : 0 ≤ k ∧ k ≤ 64 := by
      simp only [Bool.not_eq_false', Bool.and_eq_true, decide_eq_true_eq] at hk
      exact hk
    refine sv_nil (sv_cons (s_unp2 2 3 rfl hN (ev_tup (ea_cons ev_int (ea_cons ev_int ea_nil))) ?_))
    refine sv_cons (s_for_r1 4 (passes_of rfl) rfl hN hrg (fv V_Frac_raised_1 rfl) ?_ (by omega) (by omega))
    have loop : ∀ (n : Nat) (lo : Int) (m : Nat) (u : Option FV) (Φ : Out → Prop), m + n ≤ 64 → (∀ u, Φ (.next [some ⟨Fr, tFr C, x⟩, some ⟨Int, tInt, k⟩, some ⟨Int, tInt, x.num ^ (m + n)⟩, some ⟨Int, tInt, x.den ^ (m + n)⟩, u] [])) →
        LV (cxOf (L2N.CX P w) P w K mg base N_Frac_raised d_Frac_raised.qual d_Frac_raised.scope (d_Frac_raised.ad K) cdv A outer s H E) (fun cls d _ H' => E cls d H') 4 (match d_Frac_raised.body[2]? with | some (Stmt.For _ _ b _ _) => b | _ => []) tInt Φ (rng lo n)
          [some ⟨Fr, tFr C, x⟩, some ⟨Int, tInt, k⟩, some ⟨Int, tInt, x.num ^ m⟩, some ⟨Int, tInt, x.den ^ m⟩, u] [] := by
      intro n
      induction n with
      | zero => intro lo m u Φ _ h; exact h u
      | succ n ih =>
        intro lo m u Φ hm h
        have b1 : Sb 20000 (x.num ^ m) := (pow_sb hx.n).mono (by omega)
        have b2 : Sb 20000 (x.den ^ m) := (pow_sb hd).mono (by omega)
        have m1 : CMulW (x.num ^ m) x.num := b1.cm hx.n
        have m2 : CMulW (x.den ^ m) x.den := b2.cm hd
        refine sv_one (s_par 2 3 rfl hN (by decide) (ea_cons (fe_op (fv V_Frac_raised_2 rfl) (ev_num kf.c kf.n1 (fv V_Frac_raised_0 rfl)) (by walk_at "ov")) (ea_cons (fe_op (fv V_Frac_raised_3 rfl) (ev_den kf.c kf.n2 (fv V_Frac_raised_0 rfl)) (by walk_at "ov")) ea_nil)) ?_)
        have r := ih (lo + 1) (m + 1) (some ⟨Int, tInt, lo⟩) Φ (by omega) (fun u => by rw [show m + 1 + n = m + (n + 1) by omega]; exact h u)
        rw [Int.pow_succ, Int.pow_succ] at r
        exact r
    have l0 := fun Φ => loop k.toNat 0 0 none Φ (by omega)
    rw [Int.pow_zero, Int.pow_zero, Nat.zero_add] at l0
    refine l0 _ fun u => ?_
    have h0 : x.den ^ k.toNat ≠ 0 := Int.pow_ne_zero (Int.ne_of_gt hx.p)
    have hg : Nat.gcd (x.num ^ k.toNat).natAbs (x.den ^ k.toNat).natAbs < 2 ^ 3000 := by rw [cop_pow hc]; exact Nat.one_lt_two_pow (by decide)
    refine sv_one (s_ret (ev_frac2 fi hr (ea_cons (fv V_Frac_raised_2 rfl) (ea_cons (fv V_Frac_raised_3 rfl) ea_nil)) (by assumption) (by assumption)) ?_)
    show rsPost C CC x k _
    unfold rsPost
    rw [if_pos hk2]
abbrev N_Frac_pow : List Str := ["self", "other"]
theorem S_Frac_pow : FnScope N_Frac_pow ["self", "other"] d_Frac_pow.scope := ⟨by rfl, by rfl, by rfl, by decide, by rfl, by decide, by decide⟩
theorem V_Frac_pow_0 : VarOk N_Frac_pow d_Frac_pow.scope 0 "self" := ⟨by rfl, by first | exact Or.inl rfl | exact Or.inr (Or.inl rfl) | exact Or.inr (Or.inr rfl), by decide, by decide⟩
theorem V_Frac_pow_1 : VarOk N_Frac_pow d_Frac_pow.scope 1 "other" := ⟨by rfl, by first | exact Or.inl rfl | exact Or.inr (Or.inl rfl) | exact Or.inr (Or.inr rfl), by decide, by decide⟩
theorem B_Frac_pow {K : PySem.W.Frag} : ∀ fd, FunD K d_Frac_pow.name d_Frac_pow.qual d_Frac_pow.params d_Frac_pow.body d_Frac_pow.scope (d_Frac_pow.dvs K) (d_Frac_pow.kws K) (d_Frac_pow.ad K) fd → Binds K fd ["self", "other"] [] := fun fd F => FunD.bindsN (show FunD K d_Frac_pow.name d_Frac_pow.qual d_Frac_pow.params d_Frac_pow.body d_Frac_pow.scope [] (d_Frac_pow.kws K) (d_Frac_pow.ad K) fd from F) fun kV doc pm an cdv ct us h => match us, h with
  | [u0, u1], _ => rfl
theorem fo_pow (F : Fu K d_Frac_pow) (kf : KFr K mg C CD) (ko : KOp K C) (rs : Fo P w K mg base 3 d_Frac_raised ["self", "k"] (spRs C CC)) :
    Fo P w K mg base 4 d_Frac_pow ["self", "other"] (spP (ι := Fr × Int) (fun i => (Ok 300 i.1 ∧ Sb 300 i.1.den ∧ Nat.gcd i.1.num.natAbs i.1.den.natAbs = 1) ∧ 0 ≤ i.2 ∧ i.2 ≤ 64) (fun i => [⟨Fr, tFr C, i.1⟩, ⟨Int, tInt, i.2⟩]) (fun _ => tFr C) (fun i => nrm (i.1.num ^ i.2.toNat) (i.1.den ^ i.2.toNat))) := by
  refine Fo.of F S_Frac_pow (fun _ => rfl) B_Frac_pow ?_
  rintro ⟨x, k⟩ ⟨hx, hk⟩ cdv A outer s H E hr
  have q : ∀ o, rsPost C CC x k o → o = .ret ⟨Fr, tFr C, nrm (x.num ^ k.toNat) (x.den ^ k.toNat)⟩ [] := fun o h => by unfold rsPost at h; rwa [if_pos hk] at h
  exact sv_one (s_ret (ev_meth (fv V_Frac_pow_0 rfl) (fun I v ⟨a, dx, h1, h2⟩ => ⟨a, dx, _, h1, h2, rfl⟩) kf.c ko.rs (ea_cons (fv V_Frac_pow_1 rfl) ea_nil) (rs.cv0 hr (x, k) hx rfl q)) rfl)
abbrev N_Frac_mod : List Str := ["self", "other", "divisor"]
theorem S_Frac_mod : FnScope N_Frac_mod ["self", "other"] d_Frac_mod.scope := ⟨by rfl, by rfl, by rfl, by decide, by rfl, by decide, by decide⟩
theorem V_Frac_mod_0 : VarOk N_Frac_mod d_Frac_mod.scope 0 "self" := ⟨by rfl, by first | exact Or.inl rfl | exact Or.inr (Or.inl rfl) | exact Or.inr (Or.inr rfl), by decide, by decide⟩
theorem V_Frac_mod_1 : VarOk N_Frac_mod d_Frac_mod.scope 1 "other" := ⟨by rfl, by first | exact Or.inl rfl | exact Or.inr (Or.inl rfl) | exact Or.inr (Or.inr rfl), by decide, by decide⟩
theorem V_Frac_mod_2 : VarOk N_Frac_mod d_Frac_mod.scope 2 "divisor" := ⟨by rfl, by first | exact Or.inl rfl | exact Or.inr (Or.inl rfl) | exact Or.inr (Or.inr rfl), by decide, by decide⟩
theorem B_Frac_mod {K : PySem.W.Frag} : ∀ fd, FunD K d_Frac_mod.name d_Frac_mod.qual d_Frac_mod.params d_Frac_mod.body d_Frac_mod.scope (d_Frac_mod.dvs K) (d_Frac_mod.kws K) (d_Frac_mod.ad K) fd → Binds K fd ["self", "other"] [] := fun fd F => FunD.bindsN (show FunD K d_Frac_mod.name d_Frac_mod.qual d_Frac_mod.params d_Frac_mod.body d_Frac_mod.scope [] (d_Frac_mod.kws K) (d_Frac_mod.ad K) fd from F) fun kV doc pm an cdv ct us h => match us, h with
  | [u0, u1], _ => rfl
theorem fo_mod (F : Fu K d_Frac_mod) (kf : KFr K mg C CD) (ko : KOp K C) (gl : GlF mg K) (fq : Fo P w K mg base 1 d_floor_quotient ["first", "second"] (spFq C CD)) (of_ : Fo P w K mg base 3 d_Frac_of ["value"] (spOf C)) (sb : Fo P w K mg base 3 d_Frac_sub ["self", "other"] (spB C subF)) (ml : Fo P w K mg base 3 d_Frac_mul ["self", "other"] (spB C mulF)) :
    Fo P w K mg base 4 d_Frac_mod ["self", "other"] (spDv (ι := Fr × (Fr ⊕ Int)) (fun i => Ok 5000 i.1 ∧ OkN 5000 i.2) (fun i => [⟨Fr, tFr C, i.1⟩, nmV C i.2]) (fun i => (toF i.2).num = 0) (fun _ => exD CD) (fun i => ⟨Fr, tFr C, modF i.1 (toF i.2)⟩)) := by
  refine Fo.of F S_Frac_mod (fun _ => rfl) B_Frac_mod ?_
  rintro ⟨x, y⟩ ⟨hx, hy⟩ cdv A outer s H E hr
  have hN := S_Frac_mod.nd
  have hx : Ok 5000 x := hx
  have hy : Ok 5000 (toF y) := hy
  have ci := kf.ci
  refine sv_cons (s_if (M1 := []) (k := !true) (et_not (et_val ?_)) (fun hk => absurd hk (by decide)) fun hk => sv_nil ?_)
  · cases y with
    | inl y => exact fe_isi (fv V_Frac_mod_1 rfl) (ev_tup (ea_cons (ev_ty kf.gI PyProof.Rows.Boot.«int») (ea_cons (ev_glob kf.gC) ea_nil))) (cv_isiBO (tv_own isIns ci) (kitA_F kf.kFI kf.kFF)) kf.isi rfl rfl rfl rfl
    | inr i => exact fe_isi (fv V_Frac_mod_1 rfl) (ev_tup (ea_cons (ev_ty kf.gI PyProof.Rows.Boot.«int») (ea_cons (ev_glob kf.gC) ea_nil))) (cv_isiBO tv_int kitA_I) kf.isi rfl rfl rfl rfl
  · refine sv_cons (s_set 2 hN (ev_stat (fun _ => ev_glob kf.gC) ko.st (ea_cons (fv V_Frac_mod_1 rfl) ea_nil) (of_.cvP hr y trivial rfl)) (sv_one ?_))
    by_cases h0 : (toF y).num = 0
    · refine s_retX (ex_opR (fv V_Frac_mod_0 rfl) (ex_opR (fv V_Frac_mod_2 rfl) (ex_call gl.fq fq.kp (ea_cons (fv V_Frac_mod_0 rfl) (ea_cons (fv V_Frac_mod_2 rfl) ea_nil)) (fq.cvx0 takesOf hr (x, toF y) ⟨hx, hy⟩ rfl (dv_exc h0))))) ?_
      exact dv_excI h0
    · have hq : Sb 6401 (fqF x (toF y)) := fdiv_sb (fun z => (Int.mul_eq_zero.mp z).elim (Int.ne_of_gt hx.p) h0) ((hx.n.mul hy.d).mono (by decide))
      have hm : Ok 100000 (mulF (toF y) ⟨fqF x (toF y), 1⟩) := nrm_ok (by show (toF y).den * 1 ≠ 0; rw [Int.mul_one]; exact Int.ne_of_gt hy.p) ((hy.n.mul hq).mono (by decide)) (by show Sb 1400 ((toF y).den * 1); rw [Int.mul_one]; exact hy.d)
      refine s_ret (fe_op (fv V_Frac_mod_0 rfl) (fe_op (fv V_Frac_mod_2 rfl) (ev_call gl.fq fq.kp (ea_cons (fv V_Frac_mod_0 rfl) (ea_cons (fv V_Frac_mod_2 rfl) ea_nil)) (Fo.cv0 (j := 3) fq hr (x, toF y) (And.intro hx hy) rfl (dv_ret h0) (show 1 ≤ 3 by decide)))
        (ov_ownI isIns ko.mul (Fo.cvP (j := 3) ml hr (toF y, .inr (fqF x (toF y))) (And.intro (hy.mono (by decide)) (ok_int (hq.mono (by decide)))) rfl (show 3 ≤ 3 by decide)))) (ov_own isIns isIns ko.sub (Fo.cvP (j := 3) sb hr (x, .inl (mulF (toF y) ⟨fqF x (toF y), 1⟩)) (And.intro (hx.mono (by decide)) hm) rfl (show 3 ≤ 3 by decide)))) ?_
      exact dv_retI h0
abbrev N_Frac_rmod : List Str := ["self", "other"]
theorem S_Frac_rmod : FnScope N_Frac_rmod ["self", "other"] d_Frac_rmod.scope := ⟨by rfl, by rfl, by rfl, by decide, by rfl, by decide, by decide⟩
theorem V_Frac_rmod_0 : VarOk N_Frac_rmod d_Frac_rmod.scope 0 "self" := ⟨by rfl, by first | exact Or.inl rfl | exact Or.inr (Or.inl rfl) | exact Or.inr (Or.inr rfl), by decide, by decide⟩
theorem V_Frac_rmod_1 : VarOk N_Frac_rmod d_Frac_rmod.scope 1 "other" := ⟨by rfl, by first | exact Or.inl rfl | exact Or.inr (Or.inl rfl) | exact Or.inr (Or.inr rfl), by decide, by decide⟩
theorem B_Frac_rmod {K : PySem.W.Frag} : ∀ fd, FunD K d_Frac_rmod.name d_Frac_rmod.qual d_Frac_rmod.params d_Frac_rmod.body d_Frac_rmod.scope (d_Frac_rmod.dvs K) (d_Frac_rmod.kws K) (d_Frac_rmod.ad K) fd → Binds K fd ["self", "other"] [] := fun fd F => FunD.bindsN (show FunD K d_Frac_rmod.name d_Frac_rmod.qual d_Frac_rmod.params d_Frac_rmod.body d_Frac_rmod.scope [] (d_Frac_rmod.kws K) (d_Frac_rmod.ad K) fd from F) fun kV doc pm an cdv ct us h => match us, h with
  | [u0, u1], _ => rfl
theorem fo_rmod (F : Fu K d_Frac_rmod) (kf : KFr K mg C CD) (fi : FI P w K mg base C CD) (ko : KOp K C) (gl : GlF mg K) (fq : Fo P w K mg base 1 d_floor_quotient ["first", "second"] (spFq C CD)) (sb : Fo P w K mg base 3 d_Frac_sub ["self", "other"] (spB C subF)) (ml : Fo P w K mg base 3 d_Frac_mul ["self", "other"] (spB C mulF)) :
    Fo P w K mg base 4 d_Frac_rmod ["self", "other"] (spDv (ι := Fr × Int) (fun i => Ok 5000 i.1 ∧ Sb 5000 i.2) (fun i => [⟨Fr, tFr C, i.1⟩, ⟨Int, tInt, i.2⟩]) (fun i => i.1.num = 0) (fun _ => exD CD) (fun i => ⟨Fr, tFr C, modF ⟨i.2, 1⟩ i.1⟩)) := by
  refine Fo.of F S_Frac_rmod (fun _ => rfl) B_Frac_rmod ?_
  rintro ⟨y, i⟩ ⟨hy, hi⟩ cdv A outer s H E hr
  have hy : Ok 5000 y := hy
  have hx : Ok 5000 ⟨i, 1⟩ := ok_int hi
  refine sv_cons (s_if (et_not (et_val (fe_isi (fv V_Frac_rmod_1 rfl) (ev_ty kf.gI PyProof.Rows.Boot.«int») (by walk_at "ci") kf.isi rfl rfl rfl rfl))) (fun hk => absurd hk (by decide)) fun hk => sv_nil (sv_one ?_))
  by_cases h0 : y.num = 0
  · refine s_retX (ex_opR (ev_frac1 fi hr (ea_cons (fv V_Frac_rmod_1 rfl) ea_nil)) (ex_opR (fv V_Frac_rmod_0 rfl) (ex_call gl.fq fq.kp (ea_cons (ev_frac1 fi hr (ea_cons (fv V_Frac_rmod_1 rfl) ea_nil)) (ea_cons (fv V_Frac_rmod_0 rfl) ea_nil)) (fq.cvx0 takesOf hr (⟨i, 1⟩, y) ⟨hx, hy⟩ rfl (dv_exc h0))))) ?_
    exact dv_excI h0
  · have hq : Sb 6401 (fqF ⟨i, 1⟩ y) := fdiv_sb (fun z => (Int.mul_eq_zero.mp z).elim (Int.ne_of_gt hx.p) h0) ((hx.n.mul hy.d).mono (by decide))
    have hm : Ok 100000 (mulF y ⟨fqF ⟨i, 1⟩ y, 1⟩) := nrm_ok (by show y.den * 1 ≠ 0; rw [Int.mul_one]; exact Int.ne_of_gt hy.p) ((hy.n.mul hq).mono (by decide)) (by show Sb 1400 (y.den * 1); rw [Int.mul_one]; exact hy.d)
    refine s_ret (fe_op (ev_frac1 fi hr (ea_cons (fv V_Frac_rmod_1 rfl) ea_nil)) (fe_op (fv V_Frac_rmod_0 rfl) (ev_call gl.fq fq.kp (ea_cons (ev_frac1 fi hr (ea_cons (fv V_Frac_rmod_1 rfl) ea_nil)) (ea_cons (fv V_Frac_rmod_0 rfl) ea_nil)) (Fo.cv0 (j := 3) fq hr ((⟨i, 1⟩ : Fr), y) (And.intro hx hy) rfl (dv_ret h0) (show 1 ≤ 3 by decide)))
      (ov_ownI isIns ko.mul (Fo.cvP (j := 3) ml hr (y, .inr (fqF ⟨i, 1⟩ y)) (And.intro (hy.mono (by decide)) (ok_int (hq.mono (by decide)))) rfl (show 3 ≤ 3 by decide)))) (ov_own isIns isIns ko.sub (Fo.cvP (j := 3) sb hr ((⟨i, 1⟩ : Fr), .inl (mulF y ⟨fqF ⟨i, 1⟩ y, 1⟩)) (And.intro (hx.mono (by decide)) hm) rfl (show 3 ≤ 3 by decide)))) ?_
    exact dv_retI h0
end Lw
set_option maxHeartbeats 4000000
namespace Lw
open PySem PyProof.Rows L2 FL
local macro_rules | `(tactic| walk_at "mk") => `(tactic| first | exact nomark _ | rfl | (with_unfolding_all rfl))
local macro_rules | `(tactic| walk_at "ov") => `(tactic| first | exact ov_add | exact ov_sub | exact ov_lt | exact ov_le | exact ov_gt | exact ov_ge | exact ov_eqI | exact ov_neI | exact ov_eqB | exact ov_neB | exact ov_eqS | exact ov_neS | exact ov_mul (by assumption) | exact ov_fdiv (by assumption) | exact ov_mod (by assumption))
local macro_rules | `(tactic| walk_at "uv") => `(tactic| exact uv_neg)
local macro_rules | `(tactic| walk_at "ci") => `(tactic| first | exact cv_isiO (tv_own isIns (by assumption)) (by assumption) | exact cv_isiO tv_int (by assumption) | exact cv_isiB (tv_own isIns (by assumption)) (by assumption) | exact cv_isiB tv_int (kit_ty (r := true) (by decide +kernel)) | exact cv_isiB tv_int (kit_ty (r := false) (by decide +kernel)) | exact cv_isiB tv_bl (kit_ty (r := true) (by decide +kernel)) | exact cv_isiB tv_bl (kit_ty (r := false) (by decide +kernel)) | exact cv_isiB tv_str (kit_ty (r := true) (by decide +kernel)) | exact cv_isiB tv_str (kit_ty (r := false) (by decide +kernel)))

variable {P : Program} {w : World} {K : PySem.W.Frag} {mg : Str → Option Value} {base : Heap} {C CD CC CT : Addr}
def At5 (X : Cx) (P : Program) (w : World) (K : PySem.W.Frag) (mg : Str → Option Value) (base : Heap) : Prop := X.prog = P ∧ X.w = w ∧ X.K = K ∧ X.mg = mg ∧ X.base = base
section
variable {P : Program} {w : World} {K : PySem.W.Frag} {mg : Str → Option Value} {base : Heap} {M : Mem} {d : DE} {ps : List Str} {k j : Nat} {ι : Type} {pre : ι → Prop} {args : ι → List FV} {ts : List FV} {mem : ι → Mem} {post : ι → Out → Prop} {α : Type} {T0 : FTy α} {x0 : α} {ex : Exn} {W : WX}
theorem _root_.FL.Fo.cP {α : ι → Type} {T : ∀ i, FTy (α i)} {val : ∀ i, α i} (h : Fo P w K mg base k d ps (spP pre args T val)) {X : Cx} (hr : Room j X.A) (i : ι) (hp : pre i) (ha : args i = ts) (hj : k ≤ j := by decide) (e : At5 X P w K mg base := by exact ⟨rfl, rfl, rfl, rfl, rfl⟩) : CV X (.ref (d.ad K)) ts M (T i) (val i) M := by
  obtain ⟨rfl, rfl, rfl, rfl, rfl⟩ := e
  exact h.cvP hr i hp ha hj
theorem _root_.FL.Fo.c0 (h : Fo P w K mg base k d ps (spF pre args (fun _ => []) post)) {X : Cx} (hr : Room j X.A) (i : ι) (hp : pre i) (ha : args i = ts) (hq : ∀ o, post i o → o = .ret ⟨α, T0, x0⟩ []) (hj : k ≤ j := by decide) (e : At5 X P w K mg base := by exact ⟨rfl, rfl, rfl, rfl, rfl⟩) : CV X (.ref (d.ad K)) ts M T0 x0 M := by
  obtain ⟨rfl, rfl, rfl, rfl, rfl⟩ := e
  exact h.cv0 hr i hp ha hq hj
theorem _root_.FL.Fo.cM (h : Fo P w K mg base k d ps (spF pre args mem post)) {X : Cx} (hr : Room j X.A) (i : ι) (hp : pre i) (ha : args i = ts) {Mo : Mem} (hq : ∀ o, post i o → o = .ret ⟨α, T0, x0⟩ Mo) (A B : Mem) (hj : k ≤ j := by decide) (e : At5 X P w K mg base := by exact ⟨rfl, rfl, rfl, rfl, rfl⟩) : CV X (.ref (d.ad K)) ts (A ++ mem i ++ B) T0 x0 (A ++ Mo ++ B) := by
  obtain ⟨rfl, rfl, rfl, rfl, rfl⟩ := e
  exact h.cv hr i hp ha hq A B hj
theorem _root_.FL.Fo.cX (h : Fo P w K mg base k d ps (spF pre args (fun _ => []) post)) {X : Cx} (tk : L2N.Takes X W) (hr : Room j X.A) (i : ι) (hp : pre i) (ha : args i = ts) (hq : ∀ o, post i o → o = .exc ex [] []) (hj : k ≤ j := by decide) (e : At5 X P w K mg base := by exact ⟨rfl, rfl, rfl, rfl, rfl⟩) : CVX X W (.ref (d.ad K)) ts M ex M := by
  obtain ⟨rfl, rfl, rfl, rfl, rfl⟩ := e
  exact h.cvx0 tk hr i hp ha hq hj
end
def digs : Str := "0123456789"
def isNat (x : Str) (m : Int) : Bool := (decide (0 < (x.length : Int)) && decide ((x.length : Int) ≤ m)) && ((x.cps.toList.map fun c => decide (c ∈ digs.cps.toList)).all id)
abbrev N_is_natural : List Str := ["text", "most", "mark"]
theorem S_is_natural : FnScope N_is_natural ["text", "most"] d_is_natural.scope := ⟨by rfl, by rfl, by rfl, by decide, by rfl, by decide, by decide⟩
theorem V_is_natural_0 : VarOk N_is_natural d_is_natural.scope 0 "text" := ⟨by rfl, by first | exact Or.inl rfl | exact Or.inr (Or.inl rfl) | exact Or.inr (Or.inr rfl), by decide, by decide⟩
theorem V_is_natural_1 : VarOk N_is_natural d_is_natural.scope 1 "most" := ⟨by rfl, by first | exact Or.inl rfl | exact Or.inr (Or.inl rfl) | exact Or.inr (Or.inr rfl), by decide, by decide⟩
theorem B_is_natural {K : PySem.W.Frag} : ∀ fd, FunD K d_is_natural.name d_is_natural.qual d_is_natural.params d_is_natural.body d_is_natural.scope (d_is_natural.dvs K) (d_is_natural.kws K) (d_is_natural.ad K) fd → Binds K fd ["text", "most"] [] := fun fd F => FunD.bindsN (show FunD K d_is_natural.name d_is_natural.qual d_is_natural.params d_is_natural.body d_is_natural.scope [] (d_is_natural.kws K) (d_is_natural.ad K) fd from F) fun kV doc pm an cdv ct us h => match us, h with
  | [u0, u1], _ => rfl
theorem fo_is_natural {t : Tok} (F : Fu K d_is_natural) (hl : mg "len" = none) (ha : mg "all" = none) (hd : mg "DIGITS" = some (.str digs t)) : Fo P w K mg base 1 d_is_natural ["text", "most"] (spP (ι := Str × Int) (fun i => i.1.length ≤ 1000000) (fun i => [⟨Str, tStr, i.1⟩, ⟨Int, tInt, i.2⟩]) (fun _ => tBl) (fun i => isNat i.1 i.2)) := by
  refine Fo.of F S_is_natural (fun _ => rfl) B_is_natural ?_
  rintro ⟨x, m⟩ hx cdv A outer s H E hr
  have hN := S_is_natural.nd
  have hz : x.length ≤ sizeLine := by rw [sizeLine_eq]; exact Nat.le_trans hx (by decide)
  refine sv_one (s_ret (x := (decide (0 < (x.length : Int)) && decide ((x.length : Int) ≤ m)) && ((x.cps.toList.map fun c => decide (c ∈ digs.cps.toList)).all id)) (ev_and (ev_chain ov_lt (fun _ => ov_le) ev_int (ev_callB hl PyProof.Rows.Boot.«len» (ea_cons (fv V_is_natural_0 rfl) ea_nil) (cv_lenS hz)) fun _ => (fv V_is_natural_1 rfl)) fun _ => ev_one ?_) rfl)
  refine ev_callB ha PyProof.Rows.Boot.«all» (ea_cons (EVL.frz (evl_lcS 2 [("mark", 2)] rfl hN (blkOk_by (show blkC N_is_natural d_is_natural.scope _ _ = true by decide)) (fv V_is_natural_0 rfl) (lc_map2 fun c _ s' H' C' cl fp => ?_) hz (hg := fun _ _ _ _ _ => pg_name hN rfl (Or.inl rfl)))) ea_nil) (cv_all rfl)
  exact fe_cmp (ev_var 2) (ev_globS hd) ov_inSign (by walk_at "mk")
def dval (x : Str) : Int := ((NumText.digitsVal x.cps.toList : Nat) : Int)
def slT (t : Str × Str × Str) : Bool := (t.2.1.length : Int) != 0
def partsT (t : Str × Str × Str) : List Str := if slT t = true then [t.1, t.2.2] else [t.1]
def denT (t : Str × Str × Str) : Int := if slT t = true then dval t.2.2 else 1
def fndT (x : Str) (t : Str × Str × Str) : Fr := nrm (if Txt.startswith x "-" = true then -dval t.1 else dval t.1) (denT t)
def rdIn (x : Str) (t : Str × Str × Str) : Option Fr := if ((partsT t).map fun p => isNat p 60).all id = true then (if denT t = 0 then none else if strF (fndT x t) = x then some (fndT x t) else none) else none
def readM (x : Str) : Option Fr := rdIn x (Txt.partition (Txt.removeprefix x "-") "/")
def rdPost (C CT : Addr) (x : Str) : Out → Prop := fun o => match readM x with
  | some f => o = .ret ⟨Fr, tFr C, f⟩ []
  | none => o = .exc ⟨CT, [("text", ⟨Str, tStr, x⟩)]⟩ [] []
abbrev spRd (C CT : Addr) : Sp := spF (ι := Str) (fun x => x.length ≤ 1000000) (fun x => [⟨Str, tStr, x⟩]) (fun _ => []) (rdPost C CT)
abbrev spNat : Sp := spP (ι := Str × Int) (fun i => i.1.length ≤ 1000000) (fun i => [⟨Str, tStr, i.1⟩, ⟨Int, tInt, i.2⟩]) (fun _ => tBl) (fun i => isNat i.1 i.2)
theorem digs_mem {c : Nat} : c ∈ digs.cps.toList ↔ 48 ≤ c ∧ c ≤ 57 := by
  have e : digs.cps.toList = [48, 49, 50, 51, 52, 53, 54, 55, 56, 57] := by decide +kernel
  rw [e]
  simp
  omega
theorem isNat_iff {x : Str} : isNat x 60 = true ↔ NumText.AllDigits (chs x) ∧ chs x ≠ [] ∧ x.length ≤ 60 := by
  unfold isNat
  rw [Bool.and_eq_true, Bool.and_eq_true, decide_eq_true_eq, decide_eq_true_eq, List.all_eq_true]
  have hl := chs_len (x := x)
  constructor
  · rintro ⟨⟨h1, h2⟩, h3⟩
    refine ⟨fun c hc => ?_, ?_, by omega⟩
    · have := h3 _ (List.mem_map_of_mem (f := fun c => decide (c ∈ digs.cps.toList)) hc)
      exact digs_mem.mp (of_decide_eq_true this)
    · intro e; rw [e] at hl; simp at hl; omega
  · rintro ⟨h1, h2, h3⟩
    refine ⟨⟨?_, by omega⟩, ?_⟩
    · have := List.length_pos_iff.mpr h2; omega
    · intro b hb
      obtain ⟨c, hc, rfl⟩ := List.mem_map.mp hb
      exact decide_eq_true (digs_mem.mpr (h1 c hc))
theorem val_lt : ∀ (cs : List Nat) (a : Nat), NumText.AllDigits cs → cs.foldl (fun acc c => acc * 10 + (c - 48)) a < (a + 1) * 10 ^ cs.length
  | [], a, _ => by simp
  | c :: cs, a, h => by
    have h1 := h.head
    have h2 := val_lt cs (a * 10 + (c - 48)) h.tail
    rw [List.foldl_cons, List.length_cons, Nat.pow_succ]
    refine Nat.lt_of_lt_of_le h2 ?_
    have h3 : (a * 10 + (c - 48) + 1) * 10 ^ cs.length ≤ ((a + 1) * 10) * 10 ^ cs.length := Nat.mul_le_mul_right _ (by omega)
    refine Nat.le_trans h3 (Nat.le_of_eq ?_)
    rw [Nat.mul_assoc, Nat.mul_comm 10]
theorem nat_ok {x : Str} (h : isNat x 60 = true) : PySem.intText? x = some (dval x) ∧ x.length ≤ 60 ∧ Sb 400 (dval x) := by
  obtain ⟨h1, h2, h3⟩ := isNat_iff.mp h
  refine ⟨intText_digits h1 h2 (by omega), h3, ?_⟩
  have h4 := val_lt (chs x) 0 h1
  rw [chs_len] at h4
  have h5 : 10 ^ x.length ≤ 10 ^ 60 := Nat.pow_le_pow_right (by decide) h3
  show ((NumText.digitsVal (chs x) : Nat) : Int).natAbs < 2 ^ 400
  rw [Int.natAbs_natCast]
  unfold NumText.digitsVal
  refine Nat.lt_of_lt_of_le (Nat.lt_of_lt_of_le h4 (by rw [Nat.zero_add, Nat.one_mul]; exact h5)) (by decide)
theorem removeprefix_len {x y : Str} : (Txt.removeprefix x y).length ≤ x.length := PyProof.Rows.len_removeprefix x y
abbrev N_Frac_read : List Str := ["text", "top", "slash", "bottom", "parts", "den", "found", "part"]
theorem S_Frac_read : FnScope N_Frac_read ["text"] d_Frac_read.scope := ⟨by rfl, by rfl, by rfl, by decide, by rfl, by decide, by decide⟩
theorem V_Frac_read_0 : VarOk N_Frac_read d_Frac_read.scope 0 "text" := ⟨by rfl, by first | exact Or.inl rfl | exact Or.inr (Or.inl rfl) | exact Or.inr (Or.inr rfl), by decide, by decide⟩
theorem V_Frac_read_1 : VarOk N_Frac_read d_Frac_read.scope 1 "top" := ⟨by rfl, by first | exact Or.inl rfl | exact Or.inr (Or.inl rfl) | exact Or.inr (Or.inr rfl), by decide, by decide⟩
theorem V_Frac_read_2 : VarOk N_Frac_read d_Frac_read.scope 2 "slash" := ⟨by rfl, by first | exact Or.inl rfl | exact Or.inr (Or.inl rfl) | exact Or.inr (Or.inr rfl), by decide, by decide⟩
theorem V_Frac_read_3 : VarOk N_Frac_read d_Frac_read.scope 3 "bottom" := ⟨by rfl, by first | exact Or.inl rfl | exact Or.inr (Or.inl rfl) | exact Or.inr (Or.inr rfl), by decide, by decide⟩
theorem V_Frac_read_4 : VarOk N_Frac_read d_Frac_read.scope 4 "parts" := ⟨by rfl, by first | exact Or.inl rfl | exact Or.inr (Or.inl rfl) | exact Or.inr (Or.inr rfl), by decide, by decide⟩
theorem V_Frac_read_5 : VarOk N_Frac_read d_Frac_read.scope 5 "den" := ⟨by rfl, by first | exact Or.inl rfl | exact Or.inr (Or.inl rfl) | exact Or.inr (Or.inr rfl), by decide, by decide⟩
theorem V_Frac_read_6 : VarOk N_Frac_read d_Frac_read.scope 6 "found" := ⟨by rfl, by first | exact Or.inl rfl | exact Or.inr (Or.inl rfl) | exact Or.inr (Or.inr rfl), by decide, by decide⟩
theorem B_Frac_read {K : PySem.W.Frag} : ∀ fd, FunD K d_Frac_read.name d_Frac_read.qual d_Frac_read.params d_Frac_read.body d_Frac_read.scope (d_Frac_read.dvs K) (d_Frac_read.kws K) (d_Frac_read.ad K) fd → Binds K fd ["text"] [] := fun fd F => FunD.bindsN (show FunD K d_Frac_read.name d_Frac_read.qual d_Frac_read.params d_Frac_read.body d_Frac_read.scope [] (d_Frac_read.kws K) (d_Frac_read.ad K) fd from F) fun kV doc pm an cdv ct us h => match us, h with
  | [u0], _ => rfl
theorem fo_read {tm : Tok} (F : Fu K d_Frac_read) (kf : KFr K mg C CD) (fi : FI P w K mg base C CD) (ko : KOp K C) (kx : KEx K mg "BadText" "text" CT (d_BadText_init.ad K)) (bt : Fo P w K mg base 1 d_BadText_init ["self", "text"] (spEx tStr "text" CT)) (gn : mg "is_natural" = some (.ref (d_is_natural.ad K))) (na : Fo P w K mg base 1 d_is_natural ["text", "most"] spNat)
    (st : Fo P w K mg base 1 d_Frac_str ["self"] (spP (ι := Fr) (fun x => Ok 1400 x) (fun x => [⟨Fr, tFr C, x⟩]) (fun _ => tStr) strF)) (ha : mg "all" = none) (hs : mg "str" = none) (rdC : PySem.W.readsIn K C (.type "type") = true) (md : PySem.W.findCls K (.ref C) (.type "type") "MOST_DIGITS" = some (.val (.int 60 tm))) :
    Fo P w K mg base 4 d_Frac_read ["text"] (spRd C CT) := by
  refine Fo.of F S_Frac_read (fun _ => rfl) B_Frac_read ?_
  intro x hx cdv A outer s H E hr
  have hN := S_Frac_read.nd
  have hsl : sizeLine = 16777216 := sizeLine_eq
  have hz : x.length ≤ sizeLine := by rw [hsl]; exact Nat.le_trans hx (by decide)
  have hz1 : (Txt.removeprefix x "-").length ≤ 1000000 := Nat.le_trans removeprefix_len hx
  have hz2 : (Txt.removeprefix x "-").length ≤ sizeLine := by omega
  obtain ⟨pl1, pl2, pl3⟩ := PyProof.Rows.fact_partition (Txt.removeprefix x "-") "/"
  refine sv_cons (s_unp3 1 2 3 rfl hN (ev_partition (ev_removeprefix (fv V_Frac_read_0 rfl) ev_str hz) ev_str (by rfl) hz2) ?_)
  have hR : readM x = rdIn x (Txt.partition (Txt.removeprefix x "-") "/") := rfl
  generalize Txt.partition (Txt.removeprefix x "-") "/" = t at *
  have z1 : t.1.length ≤ 1000000 := by omega
  have z2 : t.2.1.length ≤ sizeLine := by omega
  have z3 : t.2.2.length ≤ 1000000 := by omega
  have hp : ∀ p ∈ partsT t, p.length ≤ 1000000 := by
    unfold partsT
    intro p hp
    split at hp
    · rcases List.mem_cons.mp hp with rfl | hp
      · exact z1
      · rw [List.mem_singleton.mp hp]; exact z3
    · rw [List.mem_singleton.mp hp]; exact z1
  have no : readM x = none → rdPost C CT x (.exc ⟨CT, [("text", ⟨Str, tStr, x⟩)]⟩ [] []) := fun e => by unfold rdPost; rw [e]
  have ys : ∀ f, readM x = some f → rdPost C CT x (.ret ⟨Fr, tFr C, f⟩ []) := fun f e => by unfold rdPost; rw [e]
  refine sv_cons (s_set (x := partsT t) 4 hN (ev_if (et_str (fv V_Frac_read_2 rfl) z2) (fun _ => (EVN.frz (evn_list (ea_cons (fv V_Frac_read_1 rfl) (ea_cons (fv V_Frac_read_3 rfl) ea_nil))) frz_het).as fun I v h => hl_ls (T := tStr) (xs := [t.1, t.2.2]) h) (fun _ => (EVN.frz (evn_list (ea_cons (fv V_Frac_read_1 rfl) ea_nil)) frz_het).as fun I v h => hl_ls (T := tStr) (xs := [t.1]) h)) ?_)
  refine sv_cons (s_if (k := !((partsT t).map fun p => isNat p 60).all id) (et_not (et_val (ev_callB ha PyProof.Rows.Boot.«all» (ea_cons (EVL.frz (evl_lc 7 [("part", 7)] rfl hN (blkOk_by (show blkC N_Frac_read d_Frac_read.scope _ _ = true by decide)) (fv V_Frac_read_4 rfl) (lc_map (f := fun p => isNat p 60) fun p hpp s' H' C' cl fp => ?_) (hg := fun _ _ _ _ _ => pg_name hN rfl (Or.inl rfl)))) ea_nil) (cv_all rfl)))) (fun hk => ?_) fun hk => ?_)
  · exact ev_call gn na.kp (ea_cons (ev_var 7) (ea_cons (ev_clsI (ev_glob kf.gC) rdC md) ea_nil)) (by exact na.cP (j := 3) hr (p, (60 : Int)) (hp p hpp) rfl)
  · refine sv_one (s_raise rfl takesOf (em_err kx bt hr (ea_cons (fv V_Frac_read_0 rfl) ea_nil)) (no ?_))
    rw [hR]
    unfold rdIn
    rw [if_neg]
    intro z
    rw [z] at hk
    exact absurd hk (by decide)
  · have hall : ((partsT t).map fun p => isNat p 60).all id = true := by
      cases q : ((partsT t).map fun p => isNat p 60).all id with
      | true => rfl
      | false => rw [q] at hk; exact absurd hk (by decide)
    have n1 : isNat t.1 60 = true := by
      unfold partsT at hall
      split at hall <;> simp only [List.map_cons, List.map_nil, List.all_cons, Bool.and_eq_true, id] at hall
      · exact hall.1
      · exact hall.1
    have n3 : slT t = true → isNat t.2.2 60 = true := fun h => by
      unfold partsT at hall
      rw [if_pos h] at hall
      simp only [List.map_cons, List.map_nil, List.all_cons, Bool.and_eq_true, id] at hall
      exact hall.2.1
    obtain ⟨i1, l1, b1⟩ := nat_ok n1
    refine sv_nil (sv_cons (s_set (x := denT t) 5 hN (ev_if (et_str (fv V_Frac_read_2 rfl) z2) (fun h => ev_callTy kf.gI PyProof.Rows.Boot.«int» (ea_cons (fv V_Frac_read_3 rfl) ea_nil) (cv_intS (nat_ok (n3 h)).1 (Nat.le_trans (nat_ok (n3 h)).2.1 (by decide)))) fun _ => ev_int) ?_))
    have bd : Sb 400 (denT t) := by
      unfold denT
      split
      · rename_i h; exact (nat_ok (n3 h)).2.2
      · exact Nat.one_lt_two_pow (by decide)
    refine sv_cons (s_if (ft_cmp (fv V_Frac_read_5 rfl) ev_int (by walk_at "ov") (by walk_at "mk")) (fun hk => ?_) fun hk => ?_)
    · have h0 : denT t = 0 := of_decide_eq_true hk
      refine sv_one (s_raise rfl takesOf (em_err kx bt hr (ea_cons (fv V_Frac_read_0 rfl) ea_nil)) (no ?_))
      rw [hR]
      unfold rdIn
      rw [if_pos hall, if_pos h0]
    · have h0 : denT t ≠ 0 := of_decide_eq_false hk
      have bn : Sb 400 (if Txt.startswith x "-" = true then -dval t.1 else dval t.1) := by
        split
        · exact b1.neg
        · exact b1
      have hg := log_ok (n := if Txt.startswith x "-" = true then -dval t.1 else dval t.1) (bd.mono (by decide)) h0
      have okf : Ok 1400 (fndT x t) := nrm_ok h0 (bn.mono (by decide)) (bd.mono (by decide))
      refine sv_nil (sv_cons (s_set (x := fndT x t) 6 hN (ev_frac2 fi hr (ea_cons (ev_if (et_val (ev_startswith (fv V_Frac_read_0 rfl) ev_str)) (fun _ => fe_un (ev_callTy kf.gI PyProof.Rows.Boot.«int» (ea_cons (fv V_Frac_read_1 rfl) ea_nil) (cv_intS i1 (Nat.le_trans l1 (by decide)))) uv_neg) fun _ => ev_callTy kf.gI PyProof.Rows.Boot.«int» (ea_cons (fv V_Frac_read_1 rfl) ea_nil) (cv_intS i1 (Nat.le_trans l1 (by decide)))) (ea_cons (fv V_Frac_read_5 rfl) ea_nil)) h0 hg) ?_))
      refine sv_cons (s_if (ft_cmp (ev_callTy hs PyProof.Rows.Boot.«str» (ea_cons (fv V_Frac_read_6 rfl) ea_nil) (cv_strO (Nat.lt_trans (Nat.add_lt_add_left (show 2 < 64 by decide) _) hr.units) isIns ko.str (st.cP (j := 1) hr.in1.in1 (fndT x t) okf rfl))) (fv V_Frac_read_0 rfl) ov_neS (by walk_at "mk")) (fun hk => ?_) fun hk => ?_)
      · refine sv_one (s_raise rfl takesOf (em_err kx bt hr (ea_cons (fv V_Frac_read_0 rfl) ea_nil)) (no ?_))
        have h1 : ¬ strF (fndT x t) = x := by simpa using hk
        rw [hR]
        unfold rdIn
        rw [if_pos hall, if_neg h0, if_neg h1]
      · have h1 : strF (fndT x t) = x := by simpa using hk
        refine sv_nil (sv_one (s_ret (fv V_Frac_read_6 rfl) (ys _ ?_)))
        rw [hR]
        unfold rdIn
        rw [if_pos hall, if_neg h0, if_pos h1]
end Lw
set_option maxHeartbeats 4000000
namespace FL
open PySem PyProof.Rows L2
section
variable {X : Cx} {W : WX} {Γ : Gm} {M M1 M2 : Mem} {α : Type} {T : FTy α} {C : FC α} {e : Expr} {es : List Expr} {pos p : Pos} {x : α} {Φ : Out → Prop} {n : Str} {ts : List FV}
theorem s_retO (h : EVN X e Γ M C x M1) (k : ∀ p, Φ (.ret ⟨Addr, tAdr, p⟩ (⟨p, α, C, x⟩ :: M1))) : S1 X W (.Return (some e) pos) Γ M Φ := fun σ I H D g s o q => rdS_of (ps_ret pe_rd) (h σ I H _ g s o fun p I1 H1 hp g1 => (q _ (k p)) _ I1 H1 g1 rfl)
theorem s_setN (i : Nat) (hN : X.N.Nodup) (h : EVN X e Γ M C x M1) (k : ∀ q, Φ (.next (Γ.set i (some ⟨Addr, tAdr, q⟩)) (⟨q, α, C, x⟩ :: M1))) (hi : X.N[i]? = some n := by rfl) (hx : Loc X.env.scope n := by first | exact Or.inl rfl | exact Or.inr rfl)
    (hs : swapsWith e (some (.Name n p)) pos.line X.env = pure false := by rfl) (hf : X.fn n = true ∨ X.env.scope.names.lookup n = some .local := by first | exact .inl rfl | exact .inr rfl) : S1 X W (.Assign [.Name n p] e pos) Γ M Φ := fun σ I H D g s o q =>
  rdS_of (ps_set hN hi hx pe_rd hs hf) (h σ I H _ g s o fun v I1 H1 hp g1 => (q _ (k v)) _ I1 H1 g1 ((g.mono g1.ii).set (t := ⟨Addr, tAdr, v⟩) rfl i))
end
section
variable {P : Program} {w : World} {K : PySem.W.Frag} {mg : Str → Option Value} {base : Heap} {d : DE} {ps : List Str} {k j : Nat} {ι : Type} {pre : ι → Prop} {args : ι → List FV} {ts : List FV} {mem : ι → Mem} {post : ι → Out → Prop} {α : Type} {C : FC α} {x : α}
theorem Fo.cN (h : Fo P w K mg base k d ps (spF pre args mem post)) {X : Cx} (hr : Room j X.A) (i : ι) (hp : pre i) (ha : args i = ts) {Mo : Mem} (hq : ∀ o, post i o → ∃ p, o = .ret ⟨Addr, tAdr, p⟩ (⟨p, α, C, x⟩ :: Mo)) (hm : ∀ b ∈ dom (mem i), b ∈ dom Mo) (A B : Mem) (hj : k ≤ j := by decide)
    (e : Lw.At5 X P w K mg base := by exact ⟨rfl, rfl, rfl, rfl, rfl⟩) : CVN X (.ref (d.ad K)) ts (A ++ mem i ++ B) C x (A ++ Mo ++ B) := by
  obtain ⟨rfl, rfl, rfl, rfl, rfl⟩ := e
  obtain ⟨fd, F, b⟩ := h.ex
  exact cvn_fn (dts := []) F (hr.mono hj) b .nil (fun _ => trivial) i hp (by rw [ha, List.append_nil]) hq hm A B
end
end FL
namespace Lw
open PySem PyProof.Rows L2 FL
local macro_rules | `(tactic| walk_at "mk") => `(tactic| first | exact nomark _ | rfl | (with_unfolding_all rfl))
local macro_rules | `(tactic| walk_at "ov") => `(tactic| first | exact ov_add | exact ov_sub | exact ov_lt | exact ov_le | exact ov_gt | exact ov_ge | exact ov_eqI | exact ov_neI | exact ov_eqB | exact ov_neB | exact ov_eqS | exact ov_neS | exact ov_mul (by assumption) | exact ov_fdiv (by assumption) | exact ov_mod (by assumption))
local macro_rules | `(tactic| walk_at "uv") => `(tactic| exact uv_neg)
local macro_rules | `(tactic| walk_at "ci") => `(tactic| first | exact cv_isiO (tv_own isIns (by assumption)) (by assumption) | exact cv_isiO tv_int (by assumption) | exact cv_isiB (tv_own isIns (by assumption)) (by assumption) | exact cv_isiB tv_int (kit_ty (r := true) (by decide +kernel)) | exact cv_isiB tv_int (kit_ty (r := false) (by decide +kernel)) | exact cv_isiB tv_bl (kit_ty (r := true) (by decide +kernel)) | exact cv_isiB tv_bl (kit_ty (r := false) (by decide +kernel)) | exact cv_isiB tv_str (kit_ty (r := true) (by decide +kernel)) | exact cv_isiB tv_str (kit_ty (r := false) (by decide +kernel)))

variable {P : Program} {w : World} {K : PySem.W.Frag} {mg : Str → Option Value} {base : Heap} {C CD CC CT : Addr}
abbrev spInt : Sp := spP (ι := Int) (fun _ => True) (fun i => [⟨Int, tInt, i⟩]) (fun _ => tBl) (fun _ => true)
abbrev N_law_is_integer : List Str := ["told"]
theorem S_law_is_integer : FnScope N_law_is_integer ["told"] d_law_is_integer.scope := ⟨by rfl, by rfl, by rfl, by decide, by rfl, by decide, by decide⟩
theorem V_law_is_integer_0 : VarOk N_law_is_integer d_law_is_integer.scope 0 "told" := ⟨by rfl, by first | exact Or.inl rfl | exact Or.inr (Or.inl rfl) | exact Or.inr (Or.inr rfl), by decide, by decide⟩
theorem B_law_is_integer {K : PySem.W.Frag} : ∀ fd, FunD K d_law_is_integer.name d_law_is_integer.qual d_law_is_integer.params d_law_is_integer.body d_law_is_integer.scope (d_law_is_integer.dvs K) (d_law_is_integer.kws K) (d_law_is_integer.ad K) fd → Binds K fd ["told"] [] := fun fd F => FunD.bindsN (show FunD K d_law_is_integer.name d_law_is_integer.qual d_law_is_integer.params d_law_is_integer.body d_law_is_integer.scope [] (d_law_is_integer.kws K) (d_law_is_integer.ad K) fd from F) fun kV doc pm an cdv ct us h => match us, h with
  | [u0], _ => rfl
theorem fo_isint (F : Fu K d_law_is_integer) (kf : KFr K mg C CD) (kb : mg "bool" = none) : Fo P w K mg base 1 d_law_is_integer ["told"] spInt := by
  refine Fo.of F S_law_is_integer (fun _ => rfl) B_law_is_integer ?_
  intro i _ cdv A outer s H E hr
  exact sv_one (s_ret (x := true && !false) (ev_and (fe_isi (fv V_law_is_integer_0 rfl) (ev_ty kf.gI PyProof.Rows.Boot.«int») (by walk_at "ci") kf.isi rfl rfl rfl rfl) fun _ => ev_one (ev_not (fe_isi (fv V_law_is_integer_0 rfl) (ev_ty kb PyProof.Rows.Boot.«bool») (by walk_at "ci") kf.isi rfl rfl rfl rfl))) rfl)
theorem fh_isint (F : Fu K d_law_is_integer) (kf : KFr K mg C CD) (kb : mg "bool" = none) : ∃ fd, L2H.FnH P w K mg base (L2N.CX P w) 1 (d_law_is_integer.ad K) fd ["told"] spInt ∧ Binds K fd ["told"] [] := by
  obtain ⟨fd, F⟩ := F
  refine ⟨fd, fnH_sv F S_law_is_integer (fun _ => rfl) ?_, B_law_is_integer fd F⟩
  intro i _ cdv A outer s H E p hot hr
  exact sv_one (s_ret (x := true && !false) (ev_and (fe_isi (fv V_law_is_integer_0 rfl) (ev_ty kf.gI PyProof.Rows.Boot.«int») (by walk_at "ci") kf.isi rfl rfl rfl rfl) fun _ => ev_one (ev_not (fe_isi (fv V_law_is_integer_0 rfl) (ev_ty kb PyProof.Rows.Boot.«bool») (by walk_at "ci") kf.isi rfl rfl rfl rfl))) rfl)
abbrev N_law_is_truth : List Str := ["told", "due"]
theorem S_law_is_truth : FnScope N_law_is_truth ["told", "due"] d_law_is_truth.scope := ⟨by rfl, by rfl, by rfl, by decide, by rfl, by decide, by decide⟩
theorem V_law_is_truth_0 : VarOk N_law_is_truth d_law_is_truth.scope 0 "told" := ⟨by rfl, by first | exact Or.inl rfl | exact Or.inr (Or.inl rfl) | exact Or.inr (Or.inr rfl), by decide, by decide⟩
theorem V_law_is_truth_1 : VarOk N_law_is_truth d_law_is_truth.scope 1 "due" := ⟨by rfl, by first | exact Or.inl rfl | exact Or.inr (Or.inl rfl) | exact Or.inr (Or.inr rfl), by decide, by decide⟩
theorem B_law_is_truth {K : PySem.W.Frag} : ∀ fd, FunD K d_law_is_truth.name d_law_is_truth.qual d_law_is_truth.params d_law_is_truth.body d_law_is_truth.scope (d_law_is_truth.dvs K) (d_law_is_truth.kws K) (d_law_is_truth.ad K) fd → Binds K fd ["told", "due"] [] := fun fd F => FunD.bindsN (show FunD K d_law_is_truth.name d_law_is_truth.qual d_law_is_truth.params d_law_is_truth.body d_law_is_truth.scope [] (d_law_is_truth.kws K) (d_law_is_truth.ad K) fd from F) fun kV doc pm an cdv ct us h => match us, h with
  | [u0, u1], _ => rfl
theorem fo_truth (F : Fu K d_law_is_truth) (kf : KFr K mg C CD) (kb : mg "bool" = none) : Fo P w K mg base 1 d_law_is_truth ["told", "due"] (spP (ι := Bool × Bool) (fun _ => True) (fun i => [⟨Bool, tBl, i.1⟩, ⟨Bool, tBl, i.2⟩]) (fun _ => tBl) (fun i => decide (i.1 = i.2))) := by
  refine Fo.of F S_law_is_truth (fun _ => rfl) B_law_is_truth ?_
  rintro ⟨a, b⟩ _ cdv A outer s H E hr
  refine sv_one (s_ret (x := true && decide (a = b)) (ev_and (fe_isi (fv V_law_is_truth_0 rfl) (ev_ty kb PyProof.Rows.Boot.«bool») (by walk_at "ci") kf.isi rfl rfl rfl rfl) fun _ => ev_one (fe_cmp (fv V_law_is_truth_0 rfl) (fv V_law_is_truth_1 rfl) (by walk_at "ov") (by walk_at "mk"))) ?_)
  show (Out.ret ⟨Bool, tBl, _⟩ [] : Out) = Out.ret ⟨Bool, tBl, decide (a = b)⟩ []
  rw [Bool.true_and]
def absI (i : Int) : Int := if i < 0 then -i else i
def euc : Nat → Int → Int → Int
  | 0, _, _ => 0
  | n + 1, h, l => if l = 0 then h else euc n l (h.fmod l)
abbrev N_law_divisor : List Str := ["one", "other", "high", "low", "k", "rest"]
theorem S_law_divisor : FnScope N_law_divisor ["one", "other"] d_law_divisor.scope := ⟨by rfl, by rfl, by rfl, by decide, by rfl, by decide, by decide⟩
theorem V_law_divisor_0 : VarOk N_law_divisor d_law_divisor.scope 0 "one" := ⟨by rfl, by first | exact Or.inl rfl | exact Or.inr (Or.inl rfl) | exact Or.inr (Or.inr rfl), by decide, by decide⟩
theorem V_law_divisor_1 : VarOk N_law_divisor d_law_divisor.scope 1 "other" := ⟨by rfl, by first | exact Or.inl rfl | exact Or.inr (Or.inl rfl) | exact Or.inr (Or.inr rfl), by decide, by decide⟩
theorem V_law_divisor_2 : VarOk N_law_divisor d_law_divisor.scope 2 "high" := ⟨by rfl, by first | exact Or.inl rfl | exact Or.inr (Or.inl rfl) | exact Or.inr (Or.inr rfl), by decide, by decide⟩
theorem V_law_divisor_3 : VarOk N_law_divisor d_law_divisor.scope 3 "low" := ⟨by rfl, by first | exact Or.inl rfl | exact Or.inr (Or.inl rfl) | exact Or.inr (Or.inr rfl), by decide, by decide⟩
theorem V_law_divisor_4 : VarOk N_law_divisor d_law_divisor.scope 4 "k" := ⟨by rfl, by first | exact Or.inl rfl | exact Or.inr (Or.inl rfl) | exact Or.inr (Or.inr rfl), by decide, by decide⟩
theorem V_law_divisor_5 : VarOk N_law_divisor d_law_divisor.scope 5 "rest" := ⟨by rfl, by first | exact Or.inl rfl | exact Or.inr (Or.inl rfl) | exact Or.inr (Or.inr rfl), by decide, by decide⟩
theorem B_law_divisor {K : PySem.W.Frag} : ∀ fd, FunD K d_law_divisor.name d_law_divisor.qual d_law_divisor.params d_law_divisor.body d_law_divisor.scope (d_law_divisor.dvs K) (d_law_divisor.kws K) (d_law_divisor.ad K) fd → Binds K fd ["one", "other"] [] := fun fd F => FunD.bindsN (show FunD K d_law_divisor.name d_law_divisor.qual d_law_divisor.params d_law_divisor.body d_law_divisor.scope [] (d_law_divisor.kws K) (d_law_divisor.ad K) fd from F) fun kV doc pm an cdv ct us h => match us, h with
  | [u0, u1], _ => rfl
theorem fo_divisor (F : Fu K d_law_divisor) (kf : KFr K mg C CD) (hab : mg "abs" = none) (hrg : mg "range" = none) : Fo P w K mg base 1 d_law_divisor ["one", "other"] (spP (ι := Int × Int) (fun _ => True) (fun i => [⟨Int, tInt, i.1⟩, ⟨Int, tInt, i.2⟩]) (fun _ => tInt) (fun i => euc 1500 (absI i.1) (absI i.2))) := by
  refine Fo.of F S_law_divisor (fun _ => rfl) B_law_divisor ?_
  rintro ⟨a, b⟩ _ cdv A outer s H E hr
  have hN := S_law_divisor.nd
  refine sv_cons (s_set (x := absI a) 2 hN (ev_callB hab PyProof.Rows.Boot.«abs» (ea_cons (fv V_law_divisor_0 rfl) ea_nil) cv_abs) (sv_cons (s_set (x := absI b) 3 hN (ev_callB hab PyProof.Rows.Boot.«abs» (ea_cons (fv V_law_divisor_1 rfl) ea_nil) cv_abs) ?_)))
  refine sv_cons (s_for_r1 4 (passes_of rfl) rfl hN hrg ev_int ?_ (by decide) (by decide))
  have loop : ∀ (n : Nat) (lo h l : Int) (u v : Option FV) (Φ : Out → Prop), (∀ t, t = euc n h l → Φ (.ret ⟨Int, tInt, t⟩ [])) → (∀ Γ, euc n h l = 0 → Φ (.next Γ [])) →
      LV (cxOf (L2N.CX P w) P w K mg base N_law_divisor d_law_divisor.qual d_law_divisor.scope (d_law_divisor.ad K) cdv A outer s H E) (fun cls d _ H' => E cls d H') 4 (match d_law_divisor.body[2]? with | some (Stmt.For _ _ b _ _) => b | _ => []) tInt Φ (rng lo n)
        [some ⟨Int, tInt, a⟩, some ⟨Int, tInt, b⟩, some ⟨Int, tInt, h⟩, some ⟨Int, tInt, l⟩, u, v] [] := by
    intro n
    induction n with
    | zero => intro lo h l u v Φ _ h2; exact h2 _ rfl
    | succ n ih =>
      intro lo h l u v Φ h1 h2
      refine sv_cons (s_if (ft_cmp (fv V_law_divisor_3 rfl) ev_int (by walk_at "ov") (by walk_at "mk")) (fun hk => ?_) fun hk => ?_)
      · have h0 : l = 0 := of_decide_eq_true hk
        refine sv_one (s_ret (fv V_law_divisor_2 rfl) (h1 _ ?_))
        show h = if l = 0 then h else _
        rw [if_pos h0]
      · have h0 : l ≠ 0 := of_decide_eq_false hk
        have e : euc (n + 1) h l = euc n l (h.fmod l) := by
          show (if l = 0 then h else _) = _
          rw [if_neg h0]
        refine sv_nil (sv_cons (s_set (x := h.fmod l) 5 hN (fe_op (ev_callTy kf.gI PyProof.Rows.Boot.«int» (ea_cons (fv V_law_divisor_2 rfl) ea_nil) cv_int) (fv V_law_divisor_3 rfl) (by walk_at "ov")) (sv_cons (s_set 2 hN (fv V_law_divisor_3 rfl) (sv_one (s_set 3 hN (fv V_law_divisor_5 rfl) ?_))))))
        exact ih (lo + 1) l (h.fmod l) (some ⟨Int, tInt, lo⟩) (some ⟨Int, tInt, h.fmod l⟩) Φ (fun t ht => h1 t (by rw [ht, e])) fun Γ z => h2 Γ (by rw [e]; exact z)
  refine loop 1500 0 (absI a) (absI b) none none _ (fun t ht => ?_) fun Γ z => ?_
  · show (Out.ret ⟨Int, tInt, t⟩ [] : Out) = Out.ret ⟨Int, tInt, _⟩ []
    rw [ht]
  · refine sv_one (s_ret ev_int ?_)
    show (Out.ret ⟨Int, tInt, 0⟩ [] : Out) = Out.ret ⟨Int, tInt, euc 1500 (absI a) (absI b)⟩ []
    rw [z]
theorem euc_gcd : ∀ (m n : Nat) (h l : Nat), l < 2 ^ m → 2 * m + 1 ≤ n → euc n (h : Int) (l : Int) = ((Nat.gcd h l : Nat) : Int) := by
  have fm : ∀ a b : Nat, (a : Int).fmod (b : Int) = ((a % b : Nat) : Int) := fun a b => by rw [Int.fmod_eq_emod_of_nonneg _ (by omega)]; rfl
  have s0 : ∀ (n a : Nat), euc (n + 1) (a : Int) ((0 : Nat) : Int) = (a : Int) := fun n a => by
    exact if_pos rfl
  have s1 : ∀ (n a b : Nat), b ≠ 0 → euc (n + 1) (a : Int) (b : Int) = euc n (b : Int) ((a % b : Nat) : Int) := fun n a b hb => by
    show (if (b : Int) = 0 then (a : Int) else _) = _
    rw [if_neg (by omega), fm]
  intro m
  induction m with
  | zero =>
    intro n h l hl hn
    obtain rfl : l = 0 := by simp at hl; exact hl
    obtain ⟨k, rfl⟩ : ∃ k, n = k + 1 := ⟨n - 1, by omega⟩
    rw [s0, Nat.gcd_zero_right]
  | succ m ih =>
    intro n h l hl hn
    obtain ⟨k, rfl⟩ : ∃ k, n = k + 2 := ⟨n - 2, by omega⟩
    by_cases h0 : l = 0
    · subst h0
      rw [s0, Nat.gcd_zero_right]
    · rw [s1 _ _ _ h0, Nat.gcd_comm h l, Nat.gcd_rec l h]
      have r1 : h % l < l := Nat.mod_lt _ (by omega)
      generalize h % l = r at *
      by_cases r0 : r = 0
      · subst r0
        rw [s0, Nat.gcd_zero_left]
      · rw [s1 _ _ _ r0]
        have lt : l % r < 2 ^ m := by
          have q1 : l % r < r := Nat.mod_lt _ (by omega)
          have q2 := Nat.div_add_mod l r
          have q3 : 1 ≤ l / r := (Nat.one_le_div_iff (by omega)).mpr (by omega)
          have q4 : r * 1 ≤ r * (l / r) := Nat.mul_le_mul_left _ q3
          rw [Nat.pow_succ] at hl
          omega
        rw [ih k r (l % r) lt (by omega), Nat.gcd_comm r (l % r), ← Nat.gcd_rec r l]
structure IsF (x : Fr) (t b : Int) : Prop where
  n : Sb 100000 x.num
  d : Sb 700 x.den
  p : 0 < x.den
  e : x.num * b = t * x.den
  c : Nat.gcd x.num.natAbs x.den.natAbs = 1
  bt : Sb 100000 t
  bb : Sb 100000 b
abbrev spIsF (C : Addr) : Sp := spP (ι := Fr × Int × Int) (fun i => IsF i.1 i.2.1 i.2.2) (fun i => [⟨Fr, tFr C, i.1⟩, ⟨Int, tInt, i.2.1⟩, ⟨Int, tInt, i.2.2⟩]) (fun _ => tBl) (fun _ => true)
abbrev N_law_is_frac : List Str := ["told", "top", "bottom"]
theorem S_law_is_frac : FnScope N_law_is_frac ["told", "top", "bottom"] d_law_is_frac.scope := ⟨by rfl, by rfl, by rfl, by decide, by rfl, by decide, by decide⟩
theorem V_law_is_frac_0 : VarOk N_law_is_frac d_law_is_frac.scope 0 "told" := ⟨by rfl, by first | exact Or.inl rfl | exact Or.inr (Or.inl rfl) | exact Or.inr (Or.inr rfl), by decide, by decide⟩
theorem V_law_is_frac_1 : VarOk N_law_is_frac d_law_is_frac.scope 1 "top" := ⟨by rfl, by first | exact Or.inl rfl | exact Or.inr (Or.inl rfl) | exact Or.inr (Or.inr rfl), by decide, by decide⟩
theorem V_law_is_frac_2 : VarOk N_law_is_frac d_law_is_frac.scope 2 "bottom" := ⟨by rfl, by first | exact Or.inl rfl | exact Or.inr (Or.inl rfl) | exact Or.inr (Or.inr rfl), by decide, by decide⟩
theorem B_law_is_frac {K : PySem.W.Frag} : ∀ fd, FunD K d_law_is_frac.name d_law_is_frac.qual d_law_is_frac.params d_law_is_frac.body d_law_is_frac.scope (d_law_is_frac.dvs K) (d_law_is_frac.kws K) (d_law_is_frac.ad K) fd → Binds K fd ["told", "top", "bottom"] [] := fun fd F => FunD.bindsN (show FunD K d_law_is_frac.name d_law_is_frac.qual d_law_is_frac.params d_law_is_frac.body d_law_is_frac.scope [] (d_law_is_frac.kws K) (d_law_is_frac.ad K) fd from F) fun kV doc pm an cdv ct us h => match us, h with
  | [u0, u1, u2], _ => rfl
theorem fo_isfrac (F : Fu K d_law_is_frac) (kf : KFr K mg C CD) (gii : mg "_law_is_integer" = some (.ref (d_law_is_integer.ad K))) (isi : Fo P w K mg base 1 d_law_is_integer ["told"] spInt) (gdv : mg "_law_divisor" = some (.ref (d_law_divisor.ad K)))
    (dvr : Fo P w K mg base 1 d_law_divisor ["one", "other"] (spP (ι := Int × Int) (fun _ => True) (fun i => [⟨Int, tInt, i.1⟩, ⟨Int, tInt, i.2⟩]) (fun _ => tInt) (fun i => euc 1500 (absI i.1) (absI i.2)))) : Fo P w K mg base 2 d_law_is_frac ["told", "top", "bottom"] (spIsF C) := by
  refine Fo.of F S_law_is_frac (fun _ => rfl) B_law_is_frac ?_
  rintro ⟨x, t, b⟩ hx cdv A outer s H E hr
  have hx : IsF x t b := hx
  have ci := kf.ci
  have kFF := kf.kFF
  have m1 : CMulW x.num b := hx.n.cm hx.bb
  have m2 : CMulW t x.den := hx.bt.cm hx.d
  refine sv_cons (s_if (k := !true || (!true || !true)) (EW.t (ew_or (et_not (et_val (fe_isi (fv V_law_is_frac_0 rfl) (ev_glob kf.gC) (by walk_at "ci") kf.isi rfl rfl rfl rfl))) fun _ => ew_or (et_not (et_val (ev_call gii isi.kp (ea_cons (ev_num kf.c kf.n1 (fv V_law_is_frac_0 rfl)) ea_nil) (by exact isi.cP hr _ trivial rfl)))) fun _ => ew_or1 (et_not (et_val (ev_call gii isi.kp (ea_cons (ev_den kf.c kf.n2 (fv V_law_is_frac_0 rfl)) ea_nil) (by exact isi.cP hr _ trivial rfl)))))) (fun hk => absurd hk (by decide)) fun _ => sv_nil ?_)
  refine sv_cons (s_if (k := decide (x.den < 1) || !decide (x.num * b = t * x.den)) (EW.t (ew_or (ft_cmp (ev_den kf.c kf.n2 (fv V_law_is_frac_0 rfl)) ev_int (by walk_at "ov") (by walk_at "mk")) fun _ => ew_or1 (ft_cmp (fe_op (ev_num kf.c kf.n1 (fv V_law_is_frac_0 rfl)) (fv V_law_is_frac_2 rfl) (by walk_at "ov")) (fe_op (fv V_law_is_frac_1 rfl) (ev_den kf.c kf.n2 (fv V_law_is_frac_0 rfl)) (by walk_at "ov")) (by walk_at "ov") (by walk_at "mk")))) (fun hk => ?_) fun _ => sv_nil ?_)
  · have p1 := hx.p
    have p2 := hx.e
    rw [Bool.or_eq_true, decide_eq_true_eq, Bool.not_eq_true', decide_eq_false_iff_not] at hk
    rcases hk with hk | hk
    · omega
    · exact absurd p2 hk
  · refine sv_one (s_ret (fe_cmp (ev_call gdv dvr.kp (ea_cons (ev_num kf.c kf.n1 (fv V_law_is_frac_0 rfl)) (ea_cons (ev_den kf.c kf.n2 (fv V_law_is_frac_0 rfl)) ea_nil)) (by exact dvr.cP hr (x.num, x.den) trivial rfl)) ev_int ov_eqI (by walk_at "mk")) ?_)
    show (Out.ret ⟨Bool, tBl, decide (euc 1500 (absI x.num) (absI x.den) = 1)⟩ [] : Out) = Out.ret ⟨Bool, tBl, true⟩ []
    have ab : ∀ i : Int, absI i = (i.natAbs : Int) := fun i => by unfold absI; split <;> omega
    rw [ab, ab, euc_gcd 700 1500 _ _ hx.d (by decide), hx.c]
    rfl
end Lw
namespace Lw
open PySem
structure Rep (X : Fr) (p q : Int) : Prop where
  ex : ∃ g : Int, 0 < g ∧ p = g * X.num ∧ q = g * X.den
theorem Rep.pos {X : Fr} {p q : Int} (h : Rep X p q) (hd : 0 < X.den) : 0 < q := by
  obtain ⟨g, g0, _, rfl⟩ := h.ex
  exact Int.mul_pos g0 hd
theorem rep_of {X : Fr} {p q : Int} (h : X.num * q = p * X.den) (hd : 0 < X.den) (hc : Nat.gcd X.num.natAbs X.den.natAbs = 1) (hq : 0 < q) : Rep X p q := by
  have hdv : X.den ∣ q := by
    have h1 : X.den.natAbs ∣ X.num.natAbs * q.natAbs := by
      rw [← Int.natAbs_mul, h, Int.natAbs_mul]
      exact Nat.dvd_mul_left _ _
    have h2 : X.den.natAbs ∣ q.natAbs := Nat.Coprime.dvd_of_dvd_mul_left (Nat.Coprime.symm hc) h1
    exact Int.natAbs_dvd_natAbs.mp h2
  obtain ⟨g, rfl⟩ := hdv
  have g0 : 0 < g := by
    refine Int.not_le.mp fun hg => ?_
    have := Int.mul_nonpos_of_nonneg_of_nonpos (Int.le_of_lt hd) hg
    omega
  refine ⟨g, g0, ?_, Int.mul_comm _ _⟩
  have e : X.den * (p - g * X.num) = 0 := by grind
  rcases Int.mul_eq_zero.mp e with z | z
  · omega
  · omega
theorem isF_nrm {n d t b : Int} (h0 : d ≠ 0) (h : n * b = t * d) (hn : Sb 100000 n) (hd : Sb 700 d) (ht : Sb 100000 t) (hb : Sb 100000 b) : IsF (nrm n d) t b := by
  refine ⟨nrm_sn h0 hn, nrm_sd h0 hd, nrm_pos h0, ?_, nrm_cop h0, ht, hb⟩
  have e := nrm_eq (n := n) (d := d)
  generalize (nrm n d).num = u at *
  generalize (nrm n d).den = v at *
  have z : d * (u * b - t * v) = 0 := by grind
  rcases Int.mul_eq_zero.mp z with z | z
  · exact absurd z h0
  · omega
theorem isF_self {X : Fr} {p q : Int} (hX : Ok 100000 X) (hd : Sb 700 X.den) (hc : Nat.gcd X.num.natAbs X.den.natAbs = 1) (h : X.num * q = p * X.den) (hp : Sb 100000 p) (hq : Sb 100000 q) : IsF X p q := ⟨hX.n, hd, hX.p, h, hc, hp, hq⟩
structure Pq (X : Fr) (p q : Int) : Prop where
  r : Rep X p q
  n : Sb 220 X.num
  d : Sb 220 X.den
  p0 : 0 < X.den
  c : Nat.gcd X.num.natAbs X.den.natAbs = 1
  p : Sb 220 p
  q : Sb 220 q
theorem Pq.ok {X : Fr} {p q : Int} (h : Pq X p q) {b : Nat} (hb : 220 ≤ b) : Ok b X := ⟨h.n.mono hb, h.d.mono (by decide), h.p0⟩
variable {X Y : Fr} {p q r s : Int}
theorem pq_add (hx : Pq X p q) (hy : Pq Y r s) : IsF (addF X Y) (p * s + r * q) (q * s) := by
  obtain ⟨g, g0, rfl, rfl⟩ := hx.r.ex
  obtain ⟨h, h0, rfl, rfl⟩ := hy.r.ex
  refine isF_nrm (Int.ne_of_gt (Int.mul_pos hx.p0 hy.p0)) (by grind) ?_ ((hx.d.mul hy.d).mono (by decide)) ?_ ((hx.q.mul hy.q).mono (by decide))
  · exact ((hx.n.mul hy.d).add ((hy.n.mul hx.d))).mono (by decide)
  · exact ((hx.p.mul hy.q).add ((hy.p.mul hx.q))).mono (by decide)
theorem pq_sub (hx : Pq X p q) (hy : Pq Y r s) : IsF (subF X Y) (p * s - r * q) (q * s) := by
  obtain ⟨g, g0, rfl, rfl⟩ := hx.r.ex
  obtain ⟨h, h0, rfl, rfl⟩ := hy.r.ex
  refine isF_nrm (Int.ne_of_gt (Int.mul_pos hx.p0 hy.p0)) (by grind) ?_ ((hx.d.mul hy.d).mono (by decide)) ?_ ((hx.q.mul hy.q).mono (by decide))
  · exact ((hx.n.mul hy.d).sub ((hy.n.mul hx.d))).mono (by decide)
  · exact ((hx.p.mul hy.q).sub ((hy.p.mul hx.q))).mono (by decide)
theorem pq_mul (hx : Pq X p q) (hy : Pq Y r s) : IsF (mulF X Y) (p * r) (q * s) := by
  obtain ⟨g, g0, rfl, rfl⟩ := hx.r.ex
  obtain ⟨h, h0, rfl, rfl⟩ := hy.r.ex
  exact isF_nrm (Int.ne_of_gt (Int.mul_pos hx.p0 hy.p0)) (by grind) ((hx.n.mul hy.n).mono (by decide)) ((hx.d.mul hy.d).mono (by decide)) ((hx.p.mul hy.p).mono (by decide)) ((hx.q.mul hy.q).mono (by decide))
theorem pq_gap (hx : Pq X p q) (hy : Pq Y r s) : ∃ k : Int, 0 < k ∧ p * s - r * q = k * (X.num * Y.den - Y.num * X.den) := by
  obtain ⟨g, g0, rfl, rfl⟩ := hx.r.ex
  obtain ⟨h, h0, rfl, rfl⟩ := hy.r.ex
  exact ⟨g * h, Int.mul_pos g0 h0, by grind⟩
theorem sign_lt {k a : Int} (hk : 0 < k) : (k * a < 0) ↔ a < 0 := by
  constructor
  · intro h
    refine Int.not_le.mp fun z => ?_
    have := Int.mul_nonneg (Int.le_of_lt hk) z
    omega
  · intro h; exact Int.mul_neg_of_pos_of_neg hk h
theorem sign_gt {k a : Int} (hk : 0 < k) : (0 < k * a) ↔ 0 < a := by
  constructor
  · intro h
    refine Int.not_le.mp fun z => ?_
    have := Int.mul_nonpos_of_nonneg_of_nonpos (Int.le_of_lt hk) z
    omega
  · intro h; exact Int.mul_pos hk h
theorem pq_lt (hx : Pq X p q) (hy : Pq Y r s) : ltF X Y = decide (p * s - r * q < 0) := by
  obtain ⟨k, k0, e⟩ := pq_gap hx hy
  unfold ltF
  rw [e]
  exact decide_eq_decide.mpr (by rw [sign_lt k0]; omega)
theorem pq_le (hx : Pq X p q) (hy : Pq Y r s) : leF X Y = decide (p * s - r * q ≤ 0) := by
  obtain ⟨k, k0, e⟩ := pq_gap hx hy
  unfold leF
  rw [e]
  refine decide_eq_decide.mpr ?_
  have := sign_gt (a := X.num * Y.den - Y.num * X.den) k0
  omega
theorem pq_gt (hx : Pq X p q) (hy : Pq Y r s) : gtF X Y = decide (0 < p * s - r * q) := by
  obtain ⟨k, k0, e⟩ := pq_gap hx hy
  unfold gtF
  rw [e]
  exact decide_eq_decide.mpr (by rw [sign_gt k0]; omega)
theorem pq_ge (hx : Pq X p q) (hy : Pq Y r s) : geF X Y = decide (0 ≤ p * s - r * q) := by
  obtain ⟨k, k0, e⟩ := pq_gap hx hy
  unfold geF
  rw [e]
  refine decide_eq_decide.mpr ?_
  have := sign_lt (a := X.num * Y.den - Y.num * X.den) k0
  omega
theorem pq_zero (hy : Pq Y r s) : r = 0 ↔ Y.num = 0 := by
  obtain ⟨h, h0, rfl, _⟩ := hy.r.ex
  constructor
  · intro z; rcases Int.mul_eq_zero.mp z with z | z
    · omega
    · exact z
  · intro z; rw [z, Int.mul_zero]
theorem pq_floor (hx : Pq X p q) (hy : Pq Y r s) : (p * s).fdiv (q * r) = fqF X Y := by
  obtain ⟨g, g0, rfl, rfl⟩ := hx.r.ex
  obtain ⟨h, h0, rfl, rfl⟩ := hy.r.ex
  unfold fqF
  have e1 : g * X.num * (h * Y.den) = g * h * (X.num * Y.den) := by grind
  have e2 : g * X.den * (h * Y.num) = g * h * (X.den * Y.num) := by grind
  rw [e1, e2]
  exact Int.mul_fdiv_mul_of_pos _ _ (Int.mul_pos g0 h0)
theorem pq_mod (hx : Pq X p q) (hy : Pq Y r s) (hr : r ≠ 0) : IsF (modF X Y) (p * s - r * q * fqF X Y) (q * s) := by
  have hy0 : Y.num ≠ 0 := fun z => hr ((pq_zero hy).mpr z)
  have hq0 : X.den * Y.num ≠ 0 := fun z => (Int.mul_eq_zero.mp z).elim (Int.ne_of_gt hx.p0) hy0
  have hf : Sb 441 (fqF X Y) := fdiv_sb hq0 (hx.n.mul hy.d)
  have hd1 : Y.den * 1 ≠ 0 := by rw [Int.mul_one]; exact Int.ne_of_gt hy.p0
  have hm := nrm_eq (n := Y.num * fqF X Y) (d := Y.den * 1)
  have hmp : 0 < (mulF Y ⟨fqF X Y, 1⟩).den := nrm_pos hd1
  have hmn : Sb 661 (mulF Y ⟨fqF X Y, 1⟩).num := nrm_sn hd1 (hy.n.mul hf)
  have hmd : Sb 220 (mulF Y ⟨fqF X Y, 1⟩).den := nrm_sd hd1 (by show Sb 220 (Y.den * 1); rw [Int.mul_one]; exact hy.d)
  have hm : (mulF Y ⟨fqF X Y, 1⟩).num * (Y.den * 1) = Y.num * fqF X Y * (mulF Y ⟨fqF X Y, 1⟩).den := hm
  obtain ⟨g, g0, rfl, rfl⟩ := hx.r.ex
  obtain ⟨h, h0, rfl, rfl⟩ := hy.r.ex
  have b1 : Sb 100000 (g * X.num * (h * Y.den) - h * Y.num * (g * X.den) * fqF X Y) := by
    have q1 : Sb 881 (g * X.num * (h * Y.den)) := (hx.p.mul hy.q).mono (by decide)
    have q2 : Sb 881 (h * Y.num * (g * X.den) * fqF X Y) := ((hy.p.mul hx.q).mul hf).mono (by decide)
    exact (q1.sub q2).mono (by decide)
  have b2 := (hx.q.mul hy.q)
  unfold modF subF
  generalize mulF Y ⟨fqF X Y, 1⟩ = Z at *
  refine isF_nrm (Int.ne_of_gt (Int.mul_pos hx.p0 hmp)) ?_ ?_ ((hx.d.mul hmd).mono (by decide)) b1 (b2.mono (by decide))
  · generalize fqF X Y = f at *
    rw [Int.mul_one] at hm
    grind
  · have q1 : Sb 881 (X.num * Z.den) := (hx.n.mul hmd).mono (by decide)
    have q2 : Sb 881 (Z.num * X.den) := (hmn.mul hx.d).mono (by decide)
    exact (q1.sub q2).mono (by decide)
end Lw
set_option maxHeartbeats 4000000
namespace FL
open PySem PyProof.Rows L2
def CVE (X : Cx) (callee : Value) (ts : List FV) (M : Mem) (Ψ : FV → Mem → Prop) : Prop :=
  ∀ (I H : Hp) (vs : List V) (Q : VK), Same I H → Own M I H → FRs I vs ts → (∀ t M', Ψ t M' → ∀ u I' H', Go I H M I' H' M' → FR I' u t → Q u H') →
    ∀ (pins : List (Addr × Obj)) (s : Shared) (σ : L2.St) (us : List Value), Inv X pins σ H s → Vals vs us → wpAny (model X.prog X.w) X.A (call callee us) (EP X pins σ Q) X.xe s
def EVE (X : Cx) (e : Expr) (Γ : Gm) (M : Mem) (Ψ : FV → Mem → Prop) : Prop :=
  ∀ (σ : L2.St) (I H : Hp) (Q : VK), EnvR I σ Γ → Same I H → Own M I H → (∀ t M', Ψ t M' → ∀ v I' H', Go I H M I' H' M' → FR I' v t → Q v H') → rdE X e σ H Q
section
variable {P : Program} {w : World} {K : PySem.W.Frag} {mg : Str → Option Value} {base : Heap} {d : DE} {ps : List Str} {k j : Nat} {ι : Type} {pre : ι → Prop} {args : ι → List FV} {ts : List FV} {mem : ι → Mem} {post : ι → Out → Prop}
theorem Fo.cE (h : Fo P w K mg base k d ps (spF pre args mem post)) {X : Cx} (hr : Room j X.A) (i : ι) (hp : pre i) (ha : args i = ts) {Ψ : FV → Mem → Prop} (A B : Mem) (hq : ∀ o, post i o → ∃ t Mo, o = .ret t Mo ∧ Ψ t (A ++ Mo ++ B)) (hj : k ≤ j := by decide)
    (e : Lw.At5 X P w K mg base := by exact ⟨rfl, rfl, rfl, rfl, rfl⟩) : CVE X (.ref (d.ad K)) ts (A ++ mem i ++ B) Ψ := by
  obtain ⟨rfl, rfl, rfl, rfl, rfl⟩ := e
  obtain ⟨fd, F, b⟩ := h.ex
  refine fun I H vs Q s o r kk pins sh σ us iv rv => run_fn (E := E0) F (hr.mono hj) b .nil passN iv rv ⟨i, I, hp, s, o.part, by rw [ha, List.append_nil]; exact r, fun out ho => ?_⟩
  obtain ⟨t, Mo, rfl, hΨ⟩ := hq out ho
  exact fun v I' H' g rr => kk t _ hΨ v I' H' (g.frame o) rr
end
section
variable {X : Cx} {W : WX} {Γ : Gm} {M M1 : Mem} {e : Expr} {es : List Expr} {pos p : Pos} {Φ : Out → Prop} {Ψ : FV → Mem → Prop} {n : Str} {ts : List FV} {f : Addr}
theorem ev_callE (hm : X.mg n = some (.ref f)) (hk : PySem.W.keepIn X.K (.ref f) = true) (ha : EA X (e :: es) Γ M ts M1) (hc : CVE X (.ref f) ts M1 Ψ) (hg : Gl X n := by rfl)
    (hdb : (n == ("__debug__" : Str)) = false := by decide) (he : starEach (e :: es) X.env = (false, eval e X.env) :: starEach es X.env := by rfl) (hpl : (backTo pos (starEach es X.env)).any (·.1) = false := by rfl) :
    EVE X (.Call (.Name n p) (e :: es) [] pos) Γ M Ψ := fun σ I H Q g s o k => .mk fun pins sh iv =>
  wpAny_Call_Name_kw (ld_glob iv hg hm (PySem.W.callWith_K (h₀ := X.base) iv.ok.mod.kin hk (thn (EA.go ha σ I H (fun vs H1 => ∃ I1, Go I H M I1 H1 M1 ∧ FRs I1 vs ts) g s o (fun vs I1 H1 g1 r1 => ⟨I1, g1, r1⟩) pos pins sh iv) fun us s1 ⟨vs, H1, iv1, r, I1, g1, r1⟩ =>
    ⟨iv1.kIn, hc I1 H1 vs Q g1.ih g1.own r1 (fun t M' hΨ u I2 H2 g2 r2 => k t M' hΨ u I2 H2 (g1.trans o g2) r2) pins s1 σ us iv1 r⟩) he hpl) hdb)
theorem s_setE (i : Nat) (hN : X.N.Nodup) (h : EVE X e Γ M Ψ) (k : ∀ t M', Ψ t M' → Φ (.next (Γ.set i (some t)) M')) (hi : X.N[i]? = some n := by rfl) (hx : Loc X.env.scope n := by first | exact Or.inl rfl | exact Or.inr rfl)
    (hs : swapsWith e (some (.Name n p)) pos.line X.env = pure false := by rfl) (hf : X.fn n = true ∨ X.env.scope.names.lookup n = some .local := by first | exact .inl rfl | exact .inr rfl) : S1 X W (.Assign [.Name n p] e pos) Γ M Φ := fun σ I H D g s o q =>
  rdS_of (ps_set hN hi hx pe_rd hs hf) (h σ I H _ g s o fun t M' hΨ v I1 H1 g1 r1 => (q _ (k t M' hΨ)) _ I1 H1 g1 ((g.mono g1.ii).set r1 i))
theorem s_exprE (h : EVE X e Γ M Ψ) (k : ∀ t M', Ψ t M' → Φ (.next Γ M')) (hs : swapsWith e none pos.line X.env = pure false := by rfl) : S1 X W (.Expr e pos) Γ M Φ := fun σ I H D g s o q =>
  rdS_of (ps_expr pe_rd hs) (h σ I H _ g s o fun t M' hΨ v I1 H1 g1 r1 => (q _ (k t M' hΨ)) σ I1 H1 g1 (g.mono g1.ii))
end
end FL
namespace Lw
open PySem PyProof.Rows L2 FL
local macro_rules | `(tactic| walk_at "mk") => `(tactic| first | exact nomark _ | rfl | (with_unfolding_all rfl))
local macro_rules | `(tactic| walk_at "ov") => `(tactic| first | exact ov_add | exact ov_sub | exact ov_lt | exact ov_le | exact ov_gt | exact ov_ge | exact ov_eqI | exact ov_neI | exact ov_eqB | exact ov_neB | exact ov_eqS | exact ov_neS | exact ov_mul (by assumption) | exact ov_fdiv (by assumption) | exact ov_mod (by assumption))
local macro_rules | `(tactic| walk_at "uv") => `(tactic| exact uv_neg)
local macro_rules | `(tactic| walk_at "ci") => `(tactic| first | exact cv_isiO (tv_own isIns (by assumption)) (by assumption) | exact cv_isiO tv_int (by assumption) | exact cv_isiB (tv_own isIns (by assumption)) (by assumption) | exact cv_isiB tv_int (kit_ty (r := true) (by decide +kernel)) | exact cv_isiB tv_int (kit_ty (r := false) (by decide +kernel)) | exact cv_isiB tv_bl (kit_ty (r := true) (by decide +kernel)) | exact cv_isiB tv_bl (kit_ty (r := false) (by decide +kernel)) | exact cv_isiB tv_str (kit_ty (r := true) (by decide +kernel)) | exact cv_isiB tv_str (kit_ty (r := false) (by decide +kernel)))

variable {P : Program} {w : World} {K : PySem.W.Frag} {mg : Str → Option Value} {base : Heap} {C CD CC CT : Addr}
structure Pl where
  cells : List Int
  i1 : Int
  i2 : Int
  i3 : Int
  i4 : Int
def plV (p : Pl) : List FV := [⟨List Int, tLs tInt, p.cells⟩, ⟨Int, tInt, p.i1⟩, ⟨Int, tInt, p.i2⟩, ⟨Int, tInt, p.i3⟩, ⟨Int, tInt, p.i4⟩]
abbrev fPl (q : Addr) (p : Pl) : FCell := ⟨q, Unit, cHet (plV p), ()⟩
structure PlOk (t n : Nat) (p : Pl) : Prop where
  a1 : 0 ≤ p.i1
  a2 : p.i1 ≤ t
  b1 : 0 ≤ p.i3
  b2 : p.i3 < 2 ^ 40
  c1 : 0 ≤ p.i4
  c2 : p.i4 ≤ n
def drawM (p : Pl) (many : Int) : Int × Pl := if 1 < p.i2 then (p.i2.fmod many, ⟨p.cells, p.i1, p.i2.fdiv many, p.i3, p.i4⟩) else
  (((((((p.i3 * 48271 + (p.i4 + 1) * 69621 + 7).fmod 2147483647) * ((p.i3 * 48271 + (p.i4 + 1) * 69621 + 7).fmod 2147483647) + (p.i4 + 1) * 40692).fmod 2147483629).fdiv 3).fmod many), ⟨p.cells, p.i1, p.i2, p.i3, p.i4 + 1⟩)
theorem sb_lt {b : Nat} {i : Int} (h0 : 0 ≤ i) (h : i < 2 ^ b) : Sb b i := by
  unfold Sb
  have e : ((i.natAbs : Nat) : Int) = i := by omega
  have : ((i.natAbs : Nat) : Int) < ((2 ^ b : Nat) : Int) := by rw [e, Int.natCast_pow]; exact h
  exact Int.ofNat_lt.mp this
theorem sb_lit {b : Nat} {i : Int} (h : i.natAbs < 2 ^ b) : Sb b i := h
abbrev spDraw : Sp := spF (ι := Addr × Pl × Int × Nat × Nat) (fun i => 0 < i.2.2.1 ∧ i.2.2.1 ≤ 1000000 ∧ i.2.2.2.2 ≤ 1000000 ∧ PlOk i.2.2.2.1 i.2.2.2.2 i.2.1) (fun i => [⟨Addr, tAdr, i.1⟩, ⟨Int, tInt, i.2.2.1⟩]) (fun i => [fPl i.1 i.2.1]) (fun i o => o = .ret ⟨Int, tInt, (drawM i.2.1 i.2.2.1).1⟩ [fPl i.1 (drawM i.2.1 i.2.2.1).2])
abbrev N_law_draw : List Str := ["pool", "many", "digit", "mixed"]
theorem S_law_draw : FnScope N_law_draw ["pool", "many"] d_law_draw.scope := ⟨by rfl, by rfl, by rfl, by decide, by rfl, by decide, by decide⟩
theorem V_law_draw_0 : VarOk N_law_draw d_law_draw.scope 0 "pool" := ⟨by rfl, by first | exact Or.inl rfl | exact Or.inr (Or.inl rfl) | exact Or.inr (Or.inr rfl), by decide, by decide⟩
theorem V_law_draw_1 : VarOk N_law_draw d_law_draw.scope 1 "many" := ⟨by rfl, by first | exact Or.inl rfl | exact Or.inr (Or.inl rfl) | exact Or.inr (Or.inr rfl), by decide, by decide⟩
theorem V_law_draw_2 : VarOk N_law_draw d_law_draw.scope 2 "digit" := ⟨by rfl, by first | exact Or.inl rfl | exact Or.inr (Or.inl rfl) | exact Or.inr (Or.inr rfl), by decide, by decide⟩
theorem V_law_draw_3 : VarOk N_law_draw d_law_draw.scope 3 "mixed" := ⟨by rfl, by first | exact Or.inl rfl | exact Or.inr (Or.inl rfl) | exact Or.inr (Or.inr rfl), by decide, by decide⟩
theorem B_law_draw {K : PySem.W.Frag} : ∀ fd, FunD K d_law_draw.name d_law_draw.qual d_law_draw.params d_law_draw.body d_law_draw.scope (d_law_draw.dvs K) (d_law_draw.kws K) (d_law_draw.ad K) fd → Binds K fd ["pool", "many"] [] := fun fd F => FunD.bindsN (show FunD K d_law_draw.name d_law_draw.qual d_law_draw.params d_law_draw.body d_law_draw.scope [] (d_law_draw.kws K) (d_law_draw.ad K) fd from F) fun kV doc pm an cdv ct us h => match us, h with
  | [u0, u1], _ => rfl
theorem fo_draw (F : Fu K d_law_draw) (hin : mg "int" = none) : Fo P w K mg base 1 d_law_draw ["pool", "many"] spDraw := by
  refine Fo.of F S_law_draw (fun _ => rfl) B_law_draw ?_
  rintro ⟨q, p, many, t, n⟩ ⟨hm, hm2, hn, ok⟩ cdv A outer s H E hr
  have hN := S_law_draw.nd
  have hm : 0 < many := hm
  have hm2 : many ≤ 1000000 := hm2
  have h0 : many ≠ 0 := Int.ne_of_gt hm
  have m1 : CDivX p.i2 many := ⟨h0, Nat.lt_of_lt_of_le (PySem.Flt.log2_lt_of (k := 20) (by decide) (by omega)) (by decide)⟩
  have post : ∀ d p', drawM p many = (d, p') → retN (fun o => o = .ret ⟨Int, tInt, (drawM p many).1⟩ [fPl q (drawM p many).2]) (.ret ⟨Int, tInt, d⟩ [fPl q p']) := fun d p' e => by
    show (Out.ret ⟨Int, tInt, d⟩ [fPl q p'] : Out) = _
    rw [e]
  refine sv_cons (s_if (ft_cmp (ev_ixH (fv V_law_draw_0 rfl) ev_int List.mem_cons_self rfl rfl) ev_int (by walk_at "ov") (by walk_at "mk")) (fun hk => ?_) fun hk => sv_nil ?_)
  · have h1 : 1 < p.i2 := of_decide_eq_true hk
    refine sv_cons (s_set 2 hN (fe_op (ev_callTy hin PyProof.Rows.Boot.«int» (ea_cons (ev_ixH (fv V_law_draw_0 rfl) ev_int List.mem_cons_self rfl rfl) ea_nil) cv_int) (fv V_law_draw_1 rfl) (by walk_at "ov")) (sv_cons (s_setH (A := []) (B := []) (fe_op (ev_ixH (fv V_law_draw_0 rfl) ev_int List.mem_cons_self rfl rfl) (fv V_law_draw_1 rfl) (by walk_at "ov")) (fv V_law_draw_0 rfl) ev_int rfl (sv_one (s_ret (fv V_law_draw_2 rfl) ?_)))))
    exact post (p.i2.fmod many) ⟨p.cells, p.i1, p.i2.fdiv many, p.i3, p.i4⟩ (by unfold drawM; rw [if_pos h1])
  · have h1 : ¬ 1 < p.i2 := of_decide_eq_false hk
    have n2 : (n : Int) ≤ 1000000 := Int.ofNat_le.mpr hn
    have ok : PlOk t n p := ok
    have z1 := ok.b1
    have z2 := ok.b2
    have z3 := ok.c1
    have z4 := ok.c2
    have m2 : CMulW p.i3 48271 := (sb_lt z1 z2).cm (sb_lit (b := 20) (by decide))
    have c4 : Sb 30 (p.i4 + 1) := sb_lt (by omega) (by omega)
    have m3 : CMulW (p.i4 + 1) 69621 := c4.cm (sb_lit (b := 20) (by decide))
    have m4 : CMulW (p.i4 + 1) 40692 := c4.cm (sb_lit (b := 20) (by decide))
    have y0 : (2147483647 : Int) ≠ 0 := by decide
    have y1 : (2147483629 : Int) ≠ 0 := by decide
    have y2 : ∀ i : Int, CDivX i 3 := fun i => ⟨by decide, by decide⟩
    have fm : ∀ i : Int, Sb 32 (i.fmod 2147483647) := fun i => sb_lt (Int.fmod_nonneg_of_pos i (by decide)) (Int.lt_trans (Int.fmod_lt_of_pos i (by decide)) (by decide))
    have m5 := (fm (p.i3 * 48271 + (p.i4 + 1) * 69621 + 7)).cm (fm (p.i3 * 48271 + (p.i4 + 1) * 69621 + 7))
    have m6 := y2 ((((p.i3 * 48271 + (p.i4 + 1) * 69621 + 7).fmod 2147483647) * ((p.i3 * 48271 + (p.i4 + 1) * 69621 + 7).fmod 2147483647) + (p.i4 + 1) * 40692).fmod 2147483629)
    refine sv_cons (s_setH (A := []) (B := []) (fe_op (ev_ixH (fv V_law_draw_0 rfl) ev_int List.mem_cons_self rfl rfl) ev_int (by walk_at "ov")) (fv V_law_draw_0 rfl) ev_int rfl (sv_cons (s_set 3 hN (fe_op (ev_callTy hin PyProof.Rows.Boot.«int» (ea_cons (fe_op (fe_op (fe_op (ev_ixH (fv V_law_draw_0 rfl) ev_int List.mem_cons_self rfl rfl) ev_int (by walk_at "ov")) (fe_op (ev_ixH (fv V_law_draw_0 rfl) ev_int List.mem_cons_self rfl rfl) ev_int (by walk_at "ov")) (by walk_at "ov")) ev_int (by walk_at "ov")) ea_nil) cv_int) ev_int (by walk_at "ov")) (sv_cons (s_set 3 hN (fe_op (ev_callTy hin PyProof.Rows.Boot.«int» (ea_cons (fe_op (fe_op (fv V_law_draw_3 rfl) (fv V_law_draw_3 rfl) (by walk_at "ov")) (fe_op (ev_ixH (fv V_law_draw_0 rfl) ev_int List.mem_cons_self rfl rfl) ev_int (by walk_at "ov")) (by walk_at "ov")) ea_nil) cv_int) ev_int (by walk_at "ov")) (sv_one (s_ret (fe_op (ev_callTy hin PyProof.Rows.Boot.«int» (ea_cons (fe_op (fv V_law_draw_3 rfl) ev_int (by walk_at "ov")) ea_nil) cv_int) (fv V_law_draw_1 rfl) (by walk_at "ov")) ?_)))))))
    exact post (((((((p.i3 * 48271 + (p.i4 + 1) * 69621 + 7).fmod 2147483647) * ((p.i3 * 48271 + (p.i4 + 1) * 69621 + 7).fmod 2147483647) + (p.i4 + 1) * 40692).fmod 2147483629).fdiv 3).fmod many)) ⟨p.cells, p.i1, p.i2, p.i3, p.i4 + 1⟩ (by unfold drawM; rw [if_neg h1])
theorem draw_ok {t n : Nat} {p : Pl} {many : Int} (hm : 0 < many) (ok : PlOk t n p) : 0 ≤ (drawM p many).1 ∧ (drawM p many).1 < many ∧ PlOk t (n + 1) (drawM p many).2 := by
  have q := ok.c2
  have q1 := ok.c1
  unfold drawM
  split
  · exact ⟨Int.fmod_nonneg_of_pos _ hm, Int.fmod_lt_of_pos _ hm, ⟨ok.a1, ok.a2, ok.b1, ok.b2, ok.c1, by show p.i4 ≤ _; omega⟩⟩
  · exact ⟨Int.fmod_nonneg_of_pos _ hm, Int.fmod_lt_of_pos _ hm, ⟨ok.a1, ok.a2, ok.b1, ok.b2, by show 0 ≤ p.i4 + 1; omega, by show p.i4 + 1 ≤ _; omega⟩⟩
end Lw
set_option maxHeartbeats 4000000
namespace Lw
open PySem PyProof.Rows L2 FL
local macro_rules | `(tactic| walk_at "mk") => `(tactic| first | exact nomark _ | rfl | (with_unfolding_all rfl))
local macro_rules | `(tactic| walk_at "ov") => `(tactic| first | exact ov_add | exact ov_sub | exact ov_lt | exact ov_le | exact ov_gt | exact ov_ge | exact ov_eqI | exact ov_neI | exact ov_eqB | exact ov_neB | exact ov_eqS | exact ov_neS | exact ov_mul (by assumption) | exact ov_fdiv (by assumption) | exact ov_mod (by assumption))
local macro_rules | `(tactic| walk_at "uv") => `(tactic| exact uv_neg)
local macro_rules | `(tactic| walk_at "ci") => `(tactic| first | exact cv_isiO (tv_own isIns (by assumption)) (by assumption) | exact cv_isiO tv_int (by assumption) | exact cv_isiB (tv_own isIns (by assumption)) (by assumption) | exact cv_isiB tv_int (kit_ty (r := true) (by decide +kernel)) | exact cv_isiB tv_int (kit_ty (r := false) (by decide +kernel)) | exact cv_isiB tv_bl (kit_ty (r := true) (by decide +kernel)) | exact cv_isiB tv_bl (kit_ty (r := false) (by decide +kernel)) | exact cv_isiB tv_str (kit_ty (r := true) (by decide +kernel)) | exact cv_isiB tv_str (kit_ty (r := false) (by decide +kernel)))

variable {P : Program} {w : World} {K : PySem.W.Frag} {mg : Str → Option Value} {base : Heap} {C CD CC CT : Addr}
theorem atI_ok {α : Type} {xs : List α} {i : Int} (h0 : 0 ≤ i) (h1 : i < xs.length) : ∃ x, atI xs i = some x := by
  have e : ixN xs.length i = some i.toNat := by unfold ixN; rw [if_pos h0, if_pos h1]
  have h2 : i.toNat < xs.length := by omega
  refine ⟨xs[i.toNat], ?_⟩
  unfold atI
  rw [e]
  exact List.getElem?_eq_getElem h2
abbrev spTurn : Sp := spF (ι := Addr × Pl × Nat × Nat) (fun i => i.2.2.1 ≤ 1000 ∧ PlOk i.2.2.1 i.2.2.2 i.2.1) (fun i => [⟨Addr, tAdr, i.1⟩]) (fun i => [fPl i.1 i.2.1]) (fun i o => ∃ p', PlOk (i.2.2.1 + 1) 0 p' ∧ o = .ret ⟨Unit, tNon, ()⟩ [fPl i.1 p'])
abbrev N_law_turn : List Str := ["pool", "cells", "index", "cell"]
theorem S_law_turn : FnScope N_law_turn ["pool"] d_law_turn.scope := ⟨by rfl, by rfl, by rfl, by decide, by rfl, by decide, by decide⟩
theorem V_law_turn_0 : VarOk N_law_turn d_law_turn.scope 0 "pool" := ⟨by rfl, by first | exact Or.inl rfl | exact Or.inr (Or.inl rfl) | exact Or.inr (Or.inr rfl), by decide, by decide⟩
theorem V_law_turn_1 : VarOk N_law_turn d_law_turn.scope 1 "cells" := ⟨by rfl, by first | exact Or.inl rfl | exact Or.inr (Or.inl rfl) | exact Or.inr (Or.inr rfl), by decide, by decide⟩
theorem V_law_turn_2 : VarOk N_law_turn d_law_turn.scope 2 "index" := ⟨by rfl, by first | exact Or.inl rfl | exact Or.inr (Or.inl rfl) | exact Or.inr (Or.inr rfl), by decide, by decide⟩
theorem V_law_turn_3 : VarOk N_law_turn d_law_turn.scope 3 "cell" := ⟨by rfl, by first | exact Or.inl rfl | exact Or.inr (Or.inl rfl) | exact Or.inr (Or.inr rfl), by decide, by decide⟩
theorem B_law_turn {K : PySem.W.Frag} : ∀ fd, FunD K d_law_turn.name d_law_turn.qual d_law_turn.params d_law_turn.body d_law_turn.scope (d_law_turn.dvs K) (d_law_turn.kws K) (d_law_turn.ad K) fd → Binds K fd ["pool"] [] := fun fd F => FunD.bindsN (show FunD K d_law_turn.name d_law_turn.qual d_law_turn.params d_law_turn.body d_law_turn.scope [] (d_law_turn.kws K) (d_law_turn.ad K) fd from F) fun kV doc pm an cdv ct us h => match us, h with
  | [u0], _ => rfl
theorem fo_turn (F : Fu K d_law_turn) (hin : mg "int" = none) (hln : mg "len" = none) : Fo P w K mg base 1 d_law_turn ["pool"] spTurn := by
  refine Fo.of F S_law_turn (fun _ => rfl) B_law_turn ?_
  rintro ⟨q, p, t, n⟩ ⟨ht, ok⟩ cdv A outer s H E hr
  have hN := S_law_turn.nd
  have ok : PlOk t n p := ok
  have ht : t ≤ 1000 := ht
  have a1 := ok.a1
  have a2 := ok.a2
  have y0 : (2147483647 : Int) ≠ 0 := by decide
  have fin : ∀ (c i2 : Int), SV (cxOf (L2N.CX P w) P w K mg base N_law_turn d_law_turn.qual d_law_turn.scope (d_law_turn.ad K) cdv A outer s H E) (fun cls d _ H' => E cls d H') (d_law_turn.body.drop 7) [some ⟨Addr, tAdr, q⟩, some ⟨List Int, tLs tInt, p.cells⟩, some ⟨Int, tInt, p.i1⟩, some ⟨Int, tInt, c⟩] [fPl q ⟨p.cells, p.i1 + 1, i2, p.i3, p.i4⟩]
      (retN fun o => ∃ p', PlOk (t + 1) 0 p' ∧ o = .ret ⟨Unit, tNon, ()⟩ [fPl q p']) := fun c i2 => by
    have m1 : CMulW 1009 p.i1 := (sb_lit (b := 10) (by decide)).cm (sb_lt (b := 40) a1 (by omega))
    refine sv_cons (s_setH (A := []) (B := []) (fe_op (fe_op (ev_callTy hin PyProof.Rows.Boot.«int» (ea_cons (fv V_law_turn_3 rfl) ea_nil) cv_int) ev_int (by walk_at "ov")) (fe_op ev_int (fv V_law_turn_2 rfl) (by walk_at "ov")) (by walk_at "ov")) (fv V_law_turn_0 rfl) ev_int rfl (sv_one (s_setH (A := []) (B := []) ev_int (fv V_law_turn_0 rfl) ev_int rfl ?_)))
    refine ⟨⟨p.cells, p.i1 + 1, i2, c.fmod 2147483647 + 1009 * p.i1, 0⟩, ⟨?_, ?_, ?_, ?_, Int.le_refl _, Int.le_refl _⟩, rfl⟩
    · show 0 ≤ p.i1 + 1; omega
    · show p.i1 + 1 ≤ ((t + 1 : Nat) : Int); omega
    · have := Int.fmod_nonneg_of_pos c (b := 2147483647) (by decide)
      show 0 ≤ c.fmod 2147483647 + 1009 * p.i1; omega
    · have := Int.fmod_lt_of_pos c (b := 2147483647) (by decide)
      show c.fmod 2147483647 + 1009 * p.i1 < 2 ^ 40; omega
  have mid : ∀ (c : Int), SV (cxOf (L2N.CX P w) P w K mg base N_law_turn d_law_turn.qual d_law_turn.scope (d_law_turn.ad K) cdv A outer s H E) (fun cls d _ H' => E cls d H') (d_law_turn.body.drop 4) [some ⟨Addr, tAdr, q⟩, some ⟨List Int, tLs tInt, p.cells⟩, some ⟨Int, tInt, p.i1⟩, some ⟨Int, tInt, c⟩] [fPl q p]
      (retN fun o => ∃ p', PlOk (t + 1) 0 p' ∧ o = .ret ⟨Unit, tNon, ()⟩ [fPl q p']) := fun c => by
    have pw : CPow 10 18 := by unfold CPow; decide
    refine sv_cons (s_setH (A := []) (B := []) (fe_op (fv V_law_turn_2 rfl) ev_int (by walk_at "ov")) (fv V_law_turn_0 rfl) ev_int rfl (sv_cons (s_setH (A := []) (B := []) ev_int (fv V_law_turn_0 rfl) ev_int rfl ?_)))
    refine sv_cons (s_if (EW.t (ew_and (ft_cmp (fv V_law_turn_2 rfl) (ev_callB hln PyProof.Rows.Boot.«len» (ea_cons (fv V_law_turn_1 rfl) ea_nil) cv_lenLs) (by walk_at "ov") (by walk_at "mk")) fun _ => ew_and1 (ft_cmp (fv V_law_turn_3 rfl) (fe_op ev_int ev_int (ov_pow pw)) ov_ge (by walk_at "mk")))) (fun hk => ?_) fun hk => ?_)
    · exact sv_one (s_setH (A := []) (B := []) (fv V_law_turn_3 rfl) (fv V_law_turn_0 rfl) ev_int rfl (fin c c))
    · exact sv_nil (fin c 0)
  refine sv_cons (s_set 1 hN (ev_ixH (fv V_law_turn_0 rfl) ev_int List.mem_cons_self rfl rfl) (sv_cons (s_set 2 hN (ev_ixH (fv V_law_turn_0 rfl) ev_int List.mem_cons_self rfl rfl) (sv_cons (s_set 3 hN ev_int ?_)))))
  refine sv_cons (s_if (ft_cmp (ev_callB hln PyProof.Rows.Boot.«len» (ea_cons (fv V_law_turn_1 rfl) ea_nil) cv_lenLs) ev_int (by walk_at "ov") (by walk_at "mk")) (fun hk => ?_) fun hk => sv_nil (mid 0))
  have hk : (0 : Int) < p.cells.length := of_decide_eq_true hk
  have hl : (p.cells.length : Int) ≠ 0 := Int.ne_of_gt hk
  obtain ⟨x, hx⟩ := atI_ok (xs := p.cells) (Int.fmod_nonneg_of_pos p.i1 hk) (Int.fmod_lt_of_pos p.i1 hk)
  exact sv_one (s_set 3 hN (ev_ixLs (fv V_law_turn_1 rfl) (fe_op (ev_callTy hin PyProof.Rows.Boot.«int» (ea_cons (fv V_law_turn_2 rfl) ea_nil) cv_int) (ev_callB hln PyProof.Rows.Boot.«len» (ea_cons (fv V_law_turn_1 rfl) ea_nil) cv_lenLs) (by walk_at "ov")) hx) (mid x))
def tScr (K : PySem.W.Frag) : FTy (List Int) := ⟨fun I v xs => ∃ a, v = .ref a ∧ SqL K I a (xs.map V.int), fun e ⟨a, h1, h2⟩ => ⟨a, h1, by
  rcases h2 with h2 | h2
  · rcases h2 with h2 | ⟨o, h2⟩
    · exact .inl (.inl (e _ _ h2))
    · exact .inl (.inr ⟨o, e _ _ h2⟩)
  · exact .inr h2⟩⟩
theorem cvn_scr {X : Cx} {M : Mem} {xs : List Int} (hz : xs.length ≤ 1000000) : CVN X (.type "list") [⟨List Int, tScr X.K, xs⟩] M (cLst tInt) xs M := cvn_R call_list_of fun I H vs Q s o rr k => by
  obtain ⟨v, rfl, p, rfl, h⟩ := frs1 rr
  have h2 : SqL X.K H p (xs.map V.int) := ((tScr X.K).mono s (v := .ref p) (x := xs) ⟨p, rfl, h⟩).elim fun a ⟨e, q⟩ => by cases e; exact q
  exact ⟨p, _, rfl, .inl h2, fun l hl => k l I _ hl (Go.newO s o hl ⟨_, rfl, vint_to⟩ (by show (xs.map V.int).length ≤ sizeLine; rw [List.length_map, sizeLine_eq]; omega))⟩
abbrev spOpen (K : PySem.W.Frag) : Sp := spF (ι := List Int) (fun xs => xs.length ≤ 1000000) (fun xs => [⟨List Int, tScr K, xs⟩]) (fun _ => []) (fun xs o => ∃ q p, PlOk 0 0 p ∧ o = .ret ⟨Addr, tAdr, q⟩ [fPl q p])
abbrev N_law_open : List Str := ["script", "cell"]
theorem S_law_open : FnScope N_law_open ["script"] d_law_open.scope := ⟨by rfl, by rfl, by rfl, by decide, by rfl, by decide, by decide⟩
theorem V_law_open_0 : VarOk N_law_open d_law_open.scope 0 "script" := ⟨by rfl, by first | exact Or.inl rfl | exact Or.inr (Or.inl rfl) | exact Or.inr (Or.inr rfl), by decide, by decide⟩
theorem B_law_open {K : PySem.W.Frag} : ∀ fd, FunD K d_law_open.name d_law_open.qual d_law_open.params d_law_open.body d_law_open.scope (d_law_open.dvs K) (d_law_open.kws K) (d_law_open.ad K) fd → Binds K fd ["script"] [] := fun fd F => FunD.bindsN (show FunD K d_law_open.name d_law_open.qual d_law_open.params d_law_open.body d_law_open.scope [] (d_law_open.kws K) (d_law_open.ad K) fd from F) fun kV doc pm an cdv ct us h => match us, h with
  | [u0], _ => rfl
theorem fo_open (F : Fu K d_law_open) (hin : mg "int" = none) (hls : mg "list" = none) (hab : mg "abs" = none) : Fo P w K mg base 1 d_law_open ["script"] (spOpen K) := by
  refine Fo.of F S_law_open (fun _ => rfl) B_law_open ?_
  intro xs hx cdv A outer s H E hr
  have hN := S_law_open.nd
  refine sv_one (s_retO (evn_list (ea_cons (EVL.frz (evl_lc (T' := tInt) 1 [("cell", 1)] rfl hN (blkOk_by (show blkC N_law_open d_law_open.scope _ _ = true by decide)) (EVL.frz (evl_take (EVL.frz (EVN.l (evn_callTy hls PyProof.Rows.Boot.«list» (ea_cons (fv V_law_open_0 rfl) ea_nil) (cvn_scr hx)))) ev_int (by decide))) (lc_map (f := absI) fun x _ s' H' C' cl fp => ?_) (hg := fun _ _ _ _ _ => pg_name hN rfl (Or.inl rfl)))) (ea_cons ev_int (ea_cons ev_int (ea_cons ev_int (ea_cons ev_int ea_nil)))))) fun q => ?_)
  · exact ev_callB hab PyProof.Rows.Boot.«abs» (ea_cons (ev_callTy hin PyProof.Rows.Boot.«int» (ea_cons (ev_var 1) ea_nil) cv_int) ea_nil) cv_abs
  · exact ⟨q, ⟨(xs.take 63).map absI, 0, 0, 0, 0⟩, ⟨Int.le_refl _, Int.le_refl _, Int.le_refl _, show (0 : Int) < 2 ^ 40 by decide, Int.le_refl _, Int.le_refl _⟩, rfl⟩
structure PtOk (a b c : Int) : Prop where
  a : a.natAbs < 10 ^ 57
  b0 : b ≠ 0
  b : b.natAbs < 10 ^ 57
  c1 : 1 ≤ c
  c2 : c ≤ 1000
abbrev ptC (r : Addr) (a b c : Int) : FCell := ⟨r, List Int, cLst tInt, [a, b, c]⟩
abbrev spParts : Sp := spF (ι := Addr × Pl × Bool × Nat × Nat) (fun i => i.2.2.2.1 ≤ 900 ∧ PlOk i.2.2.2.1 i.2.2.2.2 i.2.1) (fun i => [⟨Addr, tAdr, i.1⟩, ⟨Bool, tBl, i.2.2.1⟩]) (fun i => [fPl i.1 i.2.1]) (fun i o => ∃ r a b c p', PtOk a b c ∧ PlOk (i.2.2.2.1 + 1) 100 p' ∧ o = .ret ⟨Addr, tAdr, r⟩ [ptC r a b c, fPl i.1 p'])
theorem PlOk.mono {t m n : Nat} {p : Pl} (h : PlOk t m p) (hm : m ≤ n) : PlOk t n p := ⟨h.a1, h.a2, h.b1, h.b2, h.c1, by have := h.c2; omega⟩
theorem pre_draw {p : Pl} {many : Int} {t n : Nat} (h1 : 0 < many) (h2 : many ≤ 1000000) (h3 : n ≤ 1000000) (ok : PlOk t n p) : 0 < many ∧ many ≤ 1000000 ∧ n ≤ 1000000 ∧ PlOk t n p := ⟨h1, h2, h3, ok⟩
theorem kpow {m : Nat} {a : Int} (h : a.natAbs < 1000 ^ m) (hm : m ≤ 19) : Sb 200 a := Nat.lt_trans (Nat.lt_of_lt_of_le h (Nat.pow_le_pow_right (by decide) hm)) (by decide)
abbrev N_law_parts : List Str := ["pool", "great", "top", "bottom", "factor", "signs", "k"]
theorem S_law_parts : FnScope N_law_parts ["pool", "great"] d_law_parts.scope := ⟨by rfl, by rfl, by rfl, by decide, by rfl, by decide, by decide⟩
theorem V_law_parts_0 : VarOk N_law_parts d_law_parts.scope 0 "pool" := ⟨by rfl, by first | exact Or.inl rfl | exact Or.inr (Or.inl rfl) | exact Or.inr (Or.inr rfl), by decide, by decide⟩
theorem V_law_parts_1 : VarOk N_law_parts d_law_parts.scope 1 "great" := ⟨by rfl, by first | exact Or.inl rfl | exact Or.inr (Or.inl rfl) | exact Or.inr (Or.inr rfl), by decide, by decide⟩
theorem V_law_parts_2 : VarOk N_law_parts d_law_parts.scope 2 "top" := ⟨by rfl, by first | exact Or.inl rfl | exact Or.inr (Or.inl rfl) | exact Or.inr (Or.inr rfl), by decide, by decide⟩
theorem V_law_parts_3 : VarOk N_law_parts d_law_parts.scope 3 "bottom" := ⟨by rfl, by first | exact Or.inl rfl | exact Or.inr (Or.inl rfl) | exact Or.inr (Or.inr rfl), by decide, by decide⟩
theorem V_law_parts_4 : VarOk N_law_parts d_law_parts.scope 4 "factor" := ⟨by rfl, by first | exact Or.inl rfl | exact Or.inr (Or.inl rfl) | exact Or.inr (Or.inr rfl), by decide, by decide⟩
theorem V_law_parts_5 : VarOk N_law_parts d_law_parts.scope 5 "signs" := ⟨by rfl, by first | exact Or.inl rfl | exact Or.inr (Or.inl rfl) | exact Or.inr (Or.inr rfl), by decide, by decide⟩
theorem V_law_parts_6 : VarOk N_law_parts d_law_parts.scope 6 "k" := ⟨by rfl, by first | exact Or.inl rfl | exact Or.inr (Or.inl rfl) | exact Or.inr (Or.inr rfl), by decide, by decide⟩
theorem B_law_parts {K : PySem.W.Frag} : ∀ fd, FunD K d_law_parts.name d_law_parts.qual d_law_parts.params d_law_parts.body d_law_parts.scope (d_law_parts.dvs K) (d_law_parts.kws K) (d_law_parts.ad K) fd → Binds K fd ["pool", "great"] [] := fun fd F => FunD.bindsN (show FunD K d_law_parts.name d_law_parts.qual d_law_parts.params d_law_parts.body d_law_parts.scope [] (d_law_parts.kws K) (d_law_parts.ad K) fd from F) fun kV doc pm an cdv ct us h => match us, h with
  | [u0, u1], _ => rfl
theorem fo_parts (F : Fu K d_law_parts) (gtn : mg "_law_turn" = some (.ref (d_law_turn.ad K))) (tn : Fo P w K mg base 1 d_law_turn ["pool"] spTurn) (gdr : mg "_law_draw" = some (.ref (d_law_draw.ad K))) (dr : Fo P w K mg base 1 d_law_draw ["pool", "many"] spDraw) (hmx : mg "max" = none) (hrg : mg "range" = none) :
    Fo P w K mg base 2 d_law_parts ["pool", "great"] spParts := by
  refine Fo.of F S_law_parts (fun _ => rfl) B_law_parts ?_
  rintro ⟨q, p, great, t, n⟩ ⟨ht, ok⟩ cdv A outer s H E hr
  have hN := S_law_parts.nd
  have ok : PlOk t n p := ok
  have ht : t ≤ 900 := ht
  refine sv_cons (s_exprE (Ψ := fun _ M' => ∃ p', PlOk (t + 1) 0 p' ∧ M' = [fPl q p']) (ev_callE gtn tn.kp (ea_cons (fv V_law_parts_0 rfl) ea_nil) (by exact tn.cE hr (q, p, t, n) ⟨by show t ≤ 1000; omega, ok⟩ rfl [] [] (by rintro o ⟨p', h1, rfl⟩; exact ⟨_, _, rfl, p', h1, rfl⟩))) ?_)
  rintro _ _ ⟨p0, ok0, rfl⟩
  clear ok
  obtain ⟨t1, ht1⟩ : ∃ t1, t1 = t + 1 := ⟨_, rfl⟩
  rw [← ht1] at ok0
  have sg : ∀ (Γ : Gm) (a b c sg : Int) (k : Option FV) (p' : Pl), Γ = [some ⟨Addr, tAdr, q⟩, some ⟨Bool, tBl, great⟩, some ⟨Int, tInt, a⟩, some ⟨Int, tInt, b⟩, some ⟨Int, tInt, c⟩, some ⟨Int, tInt, sg⟩, k] → PtOk a b c → PlOk t1 100 p' →
      SV (cxOf (L2N.CX P w) P w K mg base N_law_parts d_law_parts.qual d_law_parts.scope (d_law_parts.ad K) cdv A outer s H E) (fun cls d _ H' => E cls d H') (d_law_parts.body.drop 6) Γ [fPl q p'] (retN fun o => ∃ r a b c p', PtOk a b c ∧ PlOk (t + 1) 100 p' ∧ o = .ret ⟨Addr, tAdr, r⟩ [ptC r a b c, fPl q p']) := by
    rintro _ a b c sg k p' rfl h okp
    have fin : ∀ (a b : Int), PtOk a b c → SV (cxOf (L2N.CX P w) P w K mg base N_law_parts d_law_parts.qual d_law_parts.scope (d_law_parts.ad K) cdv A outer s H E) (fun cls d _ H' => E cls d H') (d_law_parts.body.drop 8) [some ⟨Addr, tAdr, q⟩, some ⟨Bool, tBl, great⟩, some ⟨Int, tInt, a⟩, some ⟨Int, tInt, b⟩, some ⟨Int, tInt, c⟩, some ⟨Int, tInt, sg⟩, k] [fPl q p'] (retN fun o => ∃ r a b c p', PtOk a b c ∧ PlOk (t + 1) 100 p' ∧ o = .ret ⟨Addr, tAdr, r⟩ [ptC r a b c, fPl q p']) := fun a b h => by
      refine sv_one (s_retO (EVN.as (evn_list (ea_cons (fv V_law_parts_2 rfl) (ea_cons (fv V_law_parts_3 rfl) (ea_cons (fv V_law_parts_4 rfl) ea_nil)))) fun I u z => het_lst (T := tInt) (xs := [a, b, c]) z) fun r => ?_)
      exact ⟨r, a, b, c, p', h, by rw [← ht1]; exact okp, rfl⟩
    have fin2 : ∀ (a : Int), PtOk a b c → SV (cxOf (L2N.CX P w) P w K mg base N_law_parts d_law_parts.qual d_law_parts.scope (d_law_parts.ad K) cdv A outer s H E) (fun cls d _ H' => E cls d H') (d_law_parts.body.drop 7) [some ⟨Addr, tAdr, q⟩, some ⟨Bool, tBl, great⟩, some ⟨Int, tInt, a⟩, some ⟨Int, tInt, b⟩, some ⟨Int, tInt, c⟩, some ⟨Int, tInt, sg⟩, k] [fPl q p'] (retN fun o => ∃ r a b c p', PtOk a b c ∧ PlOk (t + 1) 100 p' ∧ o = .ret ⟨Addr, tAdr, r⟩ [ptC r a b c, fPl q p']) := fun a h => by
      refine sv_cons (s_if (ft_cmp (fv V_law_parts_5 rfl) ev_int (by walk_at "ov") (by walk_at "mk")) (fun _ => sv_one (s_set 3 hN (fe_un (fv V_law_parts_3 rfl) (by walk_at "uv")) (fin a (-b) ⟨h.a, by have := h.b0; omega, by rw [Int.natAbs_neg]; exact h.b, h.c1, h.c2⟩))) fun _ => sv_nil (fin a b h))
    refine sv_cons (s_if (EW.t (ew_or (ft_cmp (fv V_law_parts_5 rfl) ev_int (by walk_at "ov") (by walk_at "mk")) fun _ => ew_or1 (ft_cmp (fv V_law_parts_5 rfl) ev_int (by walk_at "ov") (by walk_at "mk")))) (fun _ => sv_one (s_set 2 hN (fe_un (fv V_law_parts_2 rfl) (by walk_at "uv")) (fin2 (-a) ⟨by rw [Int.natAbs_neg]; exact h.a, h.b0, h.b, h.c1, h.c2⟩))) fun _ => sv_nil (fin2 a h))
  refine sv_cons (s_set 2 hN (ev_call gdr dr.kp (ea_cons (fv V_law_parts_0 rfl) (ea_cons ev_int ea_nil)) (by exact dr.cM hr (q, p0, 13, t1, 0) (pre_draw (many := 13) (n := 0) (by decide) (by decide) (by first | decide | omega) (by assumption)) rfl (fun o h => h) [] [])) ?_)
  have e0 := draw_ok (many := 13) (by decide) ok0
  generalize drawM p0 13 = r0 at *
  obtain ⟨x0, p1⟩ := r0
  obtain ⟨u0, v0, ok1⟩ := e0
  have u0 : 0 ≤ x0 := u0
  have v0 : x0 < 13 := v0
  have ok1 : PlOk t1 1 p1 := ok1
  refine sv_cons (s_set 3 hN (fe_op ev_int (ev_call gdr dr.kp (ea_cons (fv V_law_parts_0 rfl) (ea_cons ev_int ea_nil)) (by exact dr.cM hr (q, p1, 9, t1, 1) (pre_draw (many := 9) (n := 1) (by decide) (by decide) (by first | decide | omega) (by assumption)) rfl (fun o h => h) [] [])) (by walk_at "ov")) ?_)
  have e1 := draw_ok (many := 9) (by decide) ok1
  generalize drawM p1 9 = r1 at *
  obtain ⟨x1, p2⟩ := r1
  obtain ⟨u1, v1, ok2⟩ := e1
  have u1 : 0 ≤ x1 := u1
  have v1 : x1 < 9 := v1
  have ok2 : PlOk t1 2 p2 := ok2
  refine sv_cons (s_set 4 hN (fe_op ev_int (ev_call gdr dr.kp (ea_cons (fv V_law_parts_0 rfl) (ea_cons ev_int ea_nil)) (by exact dr.cM hr (q, p2, 4, t1, 2) (pre_draw (many := 4) (n := 2) (by decide) (by decide) (by first | decide | omega) (by assumption)) rfl (fun o h => h) [] [])) (by walk_at "ov")) ?_)
  have e2 := draw_ok (many := 4) (by decide) ok2
  generalize drawM p2 4 = r2 at *
  obtain ⟨x2, p3⟩ := r2
  obtain ⟨u2, v2, ok3⟩ := e2
  have u2 : 0 ≤ x2 := u2
  have v2 : x2 < 4 := v2
  have ok3 : PlOk t1 3 p3 := ok3
  refine sv_cons (s_set 5 hN (ev_call gdr dr.kp (ea_cons (fv V_law_parts_0 rfl) (ea_cons ev_int ea_nil)) (by exact dr.cM hr (q, p3, 4, t1, 3) (pre_draw (many := 4) (n := 3) (by decide) (by decide) (by first | decide | omega) (by assumption)) rfl (fun o h => h) [] [])) ?_)
  have e3 := draw_ok (many := 4) (by decide) ok3
  generalize drawM p3 4 = r3 at *
  obtain ⟨x3, p4⟩ := r3
  obtain ⟨u3, v3, ok4⟩ := e3
  have u3 : 0 ≤ x3 := u3
  have v3 : x3 < 4 := v3
  have ok4 : PlOk t1 4 p4 := ok4
  have loop : ∀ (n m : Nat) (lo a b : Int) (k : Option FV) (p : Pl) (Φ : Out → Prop), m + n = 19 → 0 ≤ a → a.natAbs < 1000 ^ m → 0 ≤ b → b.natAbs < 1000 ^ m → PlOk t1 (4 + 2 * m) p →
      (∀ (a b : Int) (k : Option FV) (p : Pl), 0 ≤ a → a.natAbs < 1000 ^ 19 → 0 ≤ b → b.natAbs < 1000 ^ 19 → PlOk t1 42 p → Φ (.next [some ⟨Addr, tAdr, q⟩, some ⟨Bool, tBl, great⟩, some ⟨Int, tInt, a⟩, some ⟨Int, tInt, b⟩, some ⟨Int, tInt, 1 + x2⟩, some ⟨Int, tInt, x3⟩, k] [fPl q p])) →
      LV (cxOf (L2N.CX P w) P w K mg base N_law_parts d_law_parts.qual d_law_parts.scope (d_law_parts.ad K) cdv A outer s H E) (fun cls d _ H' => E cls d H') 6 (match d_law_parts.body[5]? with | some (Stmt.If _ a _ _) => (match a[2]? with | some (Stmt.For _ _ b _ _) => b | _ => []) | _ => []) tInt Φ (rng lo n)
        [some ⟨Addr, tAdr, q⟩, some ⟨Bool, tBl, great⟩, some ⟨Int, tInt, a⟩, some ⟨Int, tInt, b⟩, some ⟨Int, tInt, 1 + x2⟩, some ⟨Int, tInt, x3⟩, k] [fPl q p] := by
    intro n
    induction n with
    | zero => intro m lo a b k p Φ hm a0 a1 b0 b1 okp h; obtain rfl : m = 19 := by omega
              exact h a b k p a0 a1 b0 b1 okp
    | succ n ih =>
      intro m lo a b k p Φ hm a0 a1 b0 b1 okp h
      have m1 : CMulW a 1000 := (kpow a1 (by omega)).cm (sb_lit (b := 20) (by decide))
      have m2 : CMulW b 1000 := (kpow b1 (by omega)).cm (sb_lit (b := 20) (by decide))
      refine sv_cons (s_set 2 hN (fe_op (fe_op (fv V_law_parts_2 rfl) ev_int (by walk_at "ov")) (ev_call gdr dr.kp (ea_cons (fv V_law_parts_0 rfl) (ea_cons ev_int ea_nil)) (by exact dr.cM hr (q, p, 1000, t1, 4 + 2 * m) (pre_draw (many := 1000) (n := 4 + 2 * m) (by decide) (by decide) (by first | decide | omega) (by assumption)) rfl (fun o h => h) [] [])) (by walk_at "ov")) ?_)
      have ee := draw_ok (many := 1000) (by decide) okp
      generalize drawM p 1000 = r at *
      obtain ⟨y, p'⟩ := r
      obtain ⟨y0, y1, okp'⟩ := ee
      have y0 : 0 ≤ y := y0
      have y1 : y < 1000 := y1
      have okp' : PlOk t1 (4 + 2 * m + 1) p' := okp'
      refine sv_one (s_set 3 hN (fe_op (fe_op (fv V_law_parts_3 rfl) ev_int (by walk_at "ov")) (ev_call gdr dr.kp (ea_cons (fv V_law_parts_0 rfl) (ea_cons ev_int ea_nil)) (by exact dr.cM hr (q, p', 1000, t1, 4 + 2 * m + 1) (pre_draw (many := 1000) (n := 4 + 2 * m + 1) (by decide) (by decide) (by first | decide | omega) (by assumption)) rfl (fun o h => h) [] [])) (by walk_at "ov")) ?_)
      have ee := draw_ok (many := 1000) (by decide) okp'
      generalize drawM p' 1000 = r at *
      obtain ⟨z, p2⟩ := r
      obtain ⟨z0, z1, okp2⟩ := ee
      have z0 : 0 ≤ z := z0
      have z1 : z < 1000 := z1
      have okp2 : PlOk t1 (4 + 2 * (m + 1)) p2 := okp2
      have st : ∀ a y : Int, 0 ≤ a → a.natAbs < 1000 ^ m → 0 ≤ y → y < 1000 → 0 ≤ a * 1000 + y ∧ (a * 1000 + y).natAbs < 1000 ^ (m + 1) := fun a y a0 a1 y0 y1 => by
        rw [Nat.pow_succ]
        generalize 1000 ^ m = N at a1
        omega
      exact ih (m + 1) (lo + 1) (a * 1000 + y) (b * 1000 + z) (some ⟨Int, tInt, lo⟩) p2 Φ (by omega) (st a y a0 a1 y0 y1).1 (st a y a0 a1 y0 y1).2 (st b z b0 b1 z0 z1).1 (st b z b0 b1 z0 z1).2 okp2 h
  refine sv_cons (s_if (k := great) (et_val (fv V_law_parts_1 rfl)) (fun hg => ?_) fun hg => sv_nil ?_)
  · refine sv_cons (s_set 2 hN ev_int (sv_cons (s_set 3 hN ev_int ?_)))
    refine sv_cons (s_for_r1 6 (passes_of rfl) rfl hN hrg ev_int (loop 19 0 0 0 0 none p4 _ rfl (Int.le_refl _) (by decide) (Int.le_refl _) (by decide) ok4 ?_) (by decide) (by decide))
    intro a b k p5 a0 a1 b0 b1 ok5
    refine sv_cons (s_set 3 hN (ev_callB hmx PyProof.Rows.Boot.«max» (ea_cons ev_int (ea_cons (fv V_law_parts_3 rfl) ea_nil)) (cv_max rfl)) ?_)
    refine sv_one (s_set 4 hN (fe_op ev_int (ev_call gdr dr.kp (ea_cons (fv V_law_parts_0 rfl) (ea_cons ev_int ea_nil)) (by exact dr.cM hr (q, p5, 999, t1, 42) (pre_draw (many := 999) (n := 42) (by decide) (by decide) (by first | decide | omega) (by assumption)) rfl (fun o h => h) [] [])) (by walk_at "ov")) ?_)
    have ee := draw_ok (many := 999) (by decide) ok5
    generalize drawM p5 999 = r at *
    obtain ⟨z, p6⟩ := r
    obtain ⟨z0, z1, ok6⟩ := ee
    have z0 : 0 ≤ z := z0
    have z1 : z < 999 := z1
    have ok6 : PlOk t1 43 p6 := ok6
    refine sg _ a (if b > 1 then b else 1) (1 + z) x3 k p6 rfl ⟨Nat.lt_of_lt_of_le a1 (by decide), by split <;> omega, ?_, by omega, by omega⟩ (ok6.mono (by decide))
    split
    · exact Nat.lt_of_lt_of_le b1 (by decide)
    · decide
  · refine sg _ x0 (1 + x1) (1 + x2) x3 none p4 rfl ⟨?_, by omega, ?_, by omega, by omega⟩ (ok4.mono (by decide))
    · exact Nat.lt_of_lt_of_le (show x0.natAbs < 13 by omega) (by decide)
    · exact Nat.lt_of_lt_of_le (show (1 + x1).natAbs < 13 by omega) (by decide)
end Lw
set_option maxHeartbeats 4000000
namespace Lw
open PySem PyProof.Rows L2 FL
local macro_rules | `(tactic| walk_at "mk") => `(tactic| first | exact nomark _ | rfl | (with_unfolding_all rfl))
local macro_rules | `(tactic| walk_at "ov") => `(tactic| first | exact ov_add | exact ov_sub | exact ov_lt | exact ov_le | exact ov_gt | exact ov_ge | exact ov_eqI | exact ov_neI | exact ov_eqB | exact ov_neB | exact ov_eqS | exact ov_neS | exact ov_mul (by assumption) | exact ov_fdiv (by assumption) | exact ov_mod (by assumption))
local macro_rules | `(tactic| walk_at "uv") => `(tactic| exact uv_neg)
local macro_rules | `(tactic| walk_at "ci") => `(tactic| first | exact cv_isiO (tv_own isIns (by assumption)) (by assumption) | exact cv_isiO tv_int (by assumption) | exact cv_isiB (tv_own isIns (by assumption)) (by assumption) | exact cv_isiB tv_int (kit_ty (r := true) (by decide +kernel)) | exact cv_isiB tv_int (kit_ty (r := false) (by decide +kernel)) | exact cv_isiB tv_bl (kit_ty (r := true) (by decide +kernel)) | exact cv_isiB tv_bl (kit_ty (r := false) (by decide +kernel)) | exact cv_isiB tv_str (kit_ty (r := true) (by decide +kernel)) | exact cv_isiB tv_str (kit_ty (r := false) (by decide +kernel)))

variable {P : Program} {w : World} {K : PySem.W.Frag} {mg : Str → Option Value} {base : Heap} {C CD CC CT : Addr}
abbrev spSecond : Sp := spF (ι := Addr × Pl × Bool × Nat × Nat × Int × Int × Int) (fun i => (i.2.2.2.1 ≤ 900 ∧ PlOk i.2.2.2.1 i.2.2.2.2.1 i.2.1) ∧ PtOk i.2.2.2.2.2.1 i.2.2.2.2.2.2.1 i.2.2.2.2.2.2.2) (fun i => [⟨Addr, tAdr, i.1⟩, ⟨Bool, tBl, i.2.2.1⟩, ⟨List Int, tLs tInt, [i.2.2.2.2.2.1, i.2.2.2.2.2.2.1, i.2.2.2.2.2.2.2]⟩]) (fun i => [fPl i.1 i.2.1])
  (fun i o => ∃ r a b c p', PtOk a b c ∧ PlOk (i.2.2.2.1 + 1) 101 p' ∧ o = .ret ⟨Addr, tAdr, r⟩ [ptC r a b c, fPl i.1 p'])
abbrev N_law_second : List Str := ["pool", "great", "first", "parts", "way"]
theorem S_law_second : FnScope N_law_second ["pool", "great", "first"] d_law_second.scope := ⟨by rfl, by rfl, by rfl, by decide, by rfl, by decide, by decide⟩
theorem V_law_second_0 : VarOk N_law_second d_law_second.scope 0 "pool" := ⟨by rfl, by first | exact Or.inl rfl | exact Or.inr (Or.inl rfl) | exact Or.inr (Or.inr rfl), by decide, by decide⟩
theorem V_law_second_1 : VarOk N_law_second d_law_second.scope 1 "great" := ⟨by rfl, by first | exact Or.inl rfl | exact Or.inr (Or.inl rfl) | exact Or.inr (Or.inr rfl), by decide, by decide⟩
theorem V_law_second_2 : VarOk N_law_second d_law_second.scope 2 "first" := ⟨by rfl, by first | exact Or.inl rfl | exact Or.inr (Or.inl rfl) | exact Or.inr (Or.inr rfl), by decide, by decide⟩
theorem V_law_second_3 : VarOk N_law_second d_law_second.scope 3 "parts" := ⟨by rfl, by first | exact Or.inl rfl | exact Or.inr (Or.inl rfl) | exact Or.inr (Or.inr rfl), by decide, by decide⟩
theorem V_law_second_4 : VarOk N_law_second d_law_second.scope 4 "way" := ⟨by rfl, by first | exact Or.inl rfl | exact Or.inr (Or.inl rfl) | exact Or.inr (Or.inr rfl), by decide, by decide⟩
theorem B_law_second {K : PySem.W.Frag} : ∀ fd, FunD K d_law_second.name d_law_second.qual d_law_second.params d_law_second.body d_law_second.scope (d_law_second.dvs K) (d_law_second.kws K) (d_law_second.ad K) fd → Binds K fd ["pool", "great", "first"] [] := fun fd F => FunD.bindsN (show FunD K d_law_second.name d_law_second.qual d_law_second.params d_law_second.body d_law_second.scope [] (d_law_second.kws K) (d_law_second.ad K) fd from F) fun kV doc pm an cdv ct us h => match us, h with
  | [u0, u1, u2], _ => rfl
theorem fo_second (F : Fu K d_law_second) (gpt : mg "_law_parts" = some (.ref (d_law_parts.ad K))) (pt : Fo P w K mg base 2 d_law_parts ["pool", "great"] spParts) (gdr : mg "_law_draw" = some (.ref (d_law_draw.ad K))) (dr : Fo P w K mg base 1 d_law_draw ["pool", "many"] spDraw) :
    Fo P w K mg base 3 d_law_second ["pool", "great", "first"] spSecond := by
  refine Fo.of F S_law_second (fun _ => rfl) B_law_second ?_
  rintro ⟨q, p, great, t, n, f0, f1, f2⟩ ⟨⟨ht, ok⟩, hf⟩ cdv A outer s H E hr
  have hN := S_law_second.nd
  have ok : PlOk t n p := ok
  have ht : t ≤ 900 := ht
  have hf : PtOk f0 f1 f2 := hf
  refine sv_cons (s_setE (Ψ := fun t' M' => ∃ r a b c p', PtOk a b c ∧ PlOk (t + 1) 100 p' ∧ t' = ⟨Addr, tAdr, r⟩ ∧ M' = [ptC r a b c, fPl q p']) 3 hN (ev_callE gpt pt.kp (ea_cons (fv V_law_second_0 rfl) (ea_cons (fv V_law_second_1 rfl) ea_nil)) (by exact pt.cE hr (q, p, great, t, n) ⟨ht, ok⟩ rfl [] [] (by rintro o ⟨r, a, b, c, p', h1, h2, rfl⟩; exact ⟨_, _, rfl, r, a, b, c, p', h1, h2, rfl, rfl⟩))) ?_)
  rintro _ _ ⟨r, a, b, c, p1, h, ok1, rfl, rfl⟩
  refine sv_cons (s_set 4 hN (ev_call gdr dr.kp (ea_cons (fv V_law_second_0 rfl) (ea_cons ev_int ea_nil)) (by exact dr.cM hr (q, p1, 6, t + 1, 100) (pre_draw (many := 6) (n := 100) (by decide) (by decide) (by decide) (by assumption)) rfl (fun o h => h) [ptC r a b c] [])) ?_)
  have ee := draw_ok (many := 6) (by decide) ok1
  generalize drawM p1 6 = rr at *
  obtain ⟨z, p2⟩ := rr
  obtain ⟨z0, z1, ok2⟩ := ee
  have ok2 : PlOk (t + 1) 101 p2 := ok2
  have w4 : ∀ (a b : Int), PtOk a b c → SV (cxOf (L2N.CX P w) P w K mg base N_law_second d_law_second.qual d_law_second.scope (d_law_second.ad K) cdv A outer s H E) (fun cls d _ H' => E cls d H') (d_law_second.body.drop 6) [some ⟨Addr, tAdr, q⟩, some ⟨Bool, tBl, great⟩, some ⟨List Int, tLs tInt, [f0, f1, f2]⟩, some ⟨Addr, tAdr, r⟩, some ⟨Int, tInt, z⟩] [ptC r a b c, fPl q p2] (retN fun o => ∃ r a b c p', PtOk a b c ∧ PlOk (t + 1) 101 p' ∧ o = .ret ⟨Addr, tAdr, r⟩ [ptC r a b c, fPl q p']) := fun a b h =>
    sv_one (s_ret (fv V_law_second_3 rfl) ⟨r, a, b, c, p2, h, ok2, rfl⟩)
  have w3 : ∀ (a b : Int), PtOk a b c → SV (cxOf (L2N.CX P w) P w K mg base N_law_second d_law_second.qual d_law_second.scope (d_law_second.ad K) cdv A outer s H E) (fun cls d _ H' => E cls d H') (d_law_second.body.drop 5) [some ⟨Addr, tAdr, q⟩, some ⟨Bool, tBl, great⟩, some ⟨List Int, tLs tInt, [f0, f1, f2]⟩, some ⟨Addr, tAdr, r⟩, some ⟨Int, tInt, z⟩] [ptC r a b c, fPl q p2] (retN fun o => ∃ r a b c p', PtOk a b c ∧ PlOk (t + 1) 101 p' ∧ o = .ret ⟨Addr, tAdr, r⟩ [ptC r a b c, fPl q p']) := fun a b h =>
    sv_cons (s_if (ft_cmp (fv V_law_second_4 rfl) ev_int (by walk_at "ov") (by walk_at "mk")) (fun _ => sv_one (s_setO (A := []) (B := [fPl q p2]) (xs := [a, b, c]) (j := 1) ev_int (fv V_law_second_3 rfl) ev_int rfl (w4 a 1 ⟨h.a, by decide, by decide, h.c1, h.c2⟩))) fun _ => sv_nil (w4 a b h))
  have w2 : ∀ (a b : Int), PtOk a b c → SV (cxOf (L2N.CX P w) P w K mg base N_law_second d_law_second.qual d_law_second.scope (d_law_second.ad K) cdv A outer s H E) (fun cls d _ H' => E cls d H') (d_law_second.body.drop 4) [some ⟨Addr, tAdr, q⟩, some ⟨Bool, tBl, great⟩, some ⟨List Int, tLs tInt, [f0, f1, f2]⟩, some ⟨Addr, tAdr, r⟩, some ⟨Int, tInt, z⟩] [ptC r a b c, fPl q p2] (retN fun o => ∃ r a b c p', PtOk a b c ∧ PlOk (t + 1) 101 p' ∧ o = .ret ⟨Addr, tAdr, r⟩ [ptC r a b c, fPl q p']) := fun a b h =>
    sv_cons (s_if (ft_cmp (fv V_law_second_4 rfl) ev_int (by walk_at "ov") (by walk_at "mk")) (fun _ => sv_cons (s_setO (A := []) (B := [fPl q p2]) (xs := [a, b, c]) (j := 0) (fe_un (ev_ixLs (fv V_law_second_2 rfl) ev_int rfl) (by walk_at "uv")) (fv V_law_second_3 rfl) ev_int rfl (sv_one (s_setO (A := []) (B := [fPl q p2]) (xs := [-f0, b, c]) (j := 1) (ev_ixLs (fv V_law_second_2 rfl) ev_int rfl) (fv V_law_second_3 rfl) ev_int rfl (w3 (-f0) f1 ⟨by rw [Int.natAbs_neg]; exact hf.a, hf.b0, hf.b, h.c1, h.c2⟩))))) fun _ => sv_nil (w3 a b h))
  have w1 : ∀ (a b : Int), PtOk a b c → SV (cxOf (L2N.CX P w) P w K mg base N_law_second d_law_second.qual d_law_second.scope (d_law_second.ad K) cdv A outer s H E) (fun cls d _ H' => E cls d H') (d_law_second.body.drop 3) [some ⟨Addr, tAdr, q⟩, some ⟨Bool, tBl, great⟩, some ⟨List Int, tLs tInt, [f0, f1, f2]⟩, some ⟨Addr, tAdr, r⟩, some ⟨Int, tInt, z⟩] [ptC r a b c, fPl q p2] (retN fun o => ∃ r a b c p', PtOk a b c ∧ PlOk (t + 1) 101 p' ∧ o = .ret ⟨Addr, tAdr, r⟩ [ptC r a b c, fPl q p']) := fun a b h =>
    sv_cons (s_if (ft_cmp (fv V_law_second_4 rfl) ev_int (by walk_at "ov") (by walk_at "mk")) (fun _ => sv_cons (s_setO (A := []) (B := [fPl q p2]) (xs := [a, b, c]) (j := 0) (ev_ixLs (fv V_law_second_2 rfl) ev_int rfl) (fv V_law_second_3 rfl) ev_int rfl (sv_one (s_setO (A := []) (B := [fPl q p2]) (xs := [f0, b, c]) (j := 1) (ev_ixLs (fv V_law_second_2 rfl) ev_int rfl) (fv V_law_second_3 rfl) ev_int rfl (w2 f0 f1 ⟨hf.a, hf.b0, hf.b, h.c1, h.c2⟩))))) fun _ => sv_nil (w2 a b h))
  exact sv_cons (s_if (ft_cmp (fv V_law_second_4 rfl) ev_int (by walk_at "ov") (by walk_at "mk")) (fun _ => sv_one (s_setO (A := []) (B := [fPl q p2]) (xs := [a, b, c]) (j := 0) ev_int (fv V_law_second_3 rfl) ev_int rfl (w1 0 b ⟨by decide, h.b0, h.b, h.c1, h.c2⟩))) fun _ => sv_nil (w1 a b h))
def upr (a b : Int) : List Int := if b < 0 then [-a, -b] else [a, b]
abbrev spUpr : Sp := spF (ι := Int × Int × Int) (fun _ => True) (fun i => [⟨List Int, tLs tInt, [i.1, i.2.1, i.2.2]⟩]) (fun _ => []) (fun i o => ∃ r, o = .ret ⟨Addr, tAdr, r⟩ [⟨r, List Int, cLst tInt, upr i.1 i.2.1⟩])
abbrev N_law_upright : List Str := ["parts"]
theorem S_law_upright : FnScope N_law_upright ["parts"] d_law_upright.scope := ⟨by rfl, by rfl, by rfl, by decide, by rfl, by decide, by decide⟩
theorem V_law_upright_0 : VarOk N_law_upright d_law_upright.scope 0 "parts" := ⟨by rfl, by first | exact Or.inl rfl | exact Or.inr (Or.inl rfl) | exact Or.inr (Or.inr rfl), by decide, by decide⟩
theorem B_law_upright {K : PySem.W.Frag} : ∀ fd, FunD K d_law_upright.name d_law_upright.qual d_law_upright.params d_law_upright.body d_law_upright.scope (d_law_upright.dvs K) (d_law_upright.kws K) (d_law_upright.ad K) fd → Binds K fd ["parts"] [] := fun fd F => FunD.bindsN (show FunD K d_law_upright.name d_law_upright.qual d_law_upright.params d_law_upright.body d_law_upright.scope [] (d_law_upright.kws K) (d_law_upright.ad K) fd from F) fun kV doc pm an cdv ct us h => match us, h with
  | [u0], _ => rfl
theorem fo_upright (F : Fu K d_law_upright) : Fo P w K mg base 1 d_law_upright ["parts"] spUpr := by
  refine Fo.of F S_law_upright (fun _ => rfl) B_law_upright ?_
  rintro ⟨a, b, c⟩ _ cdv A outer s H E hr
  refine sv_cons (s_if (ft_cmp (ev_ixLs (fv V_law_upright_0 rfl) ev_int rfl) ev_int (by walk_at "ov") (by walk_at "mk")) (fun hk => ?_) fun hk => ?_)
  · have hk : b < 0 := of_decide_eq_true hk
    refine sv_one (s_retO (EVN.as (evn_list (ea_cons (fe_un (ev_ixLs (fv V_law_upright_0 rfl) ev_int rfl) (by walk_at "uv")) (ea_cons (fe_un (ev_ixLs (fv V_law_upright_0 rfl) ev_int rfl) (by walk_at "uv")) ea_nil))) fun I u z => het_lst (T := tInt) (xs := [-a, -b]) z) fun r => ⟨r, ?_⟩)
    show (Out.ret _ _ : Out) = Out.ret ⟨Addr, tAdr, r⟩ [⟨r, List Int, cLst tInt, upr a b⟩]
    unfold upr
    rw [if_pos hk]
  · have hk : ¬ b < 0 := of_decide_eq_false hk
    refine sv_nil (sv_one (s_retO (EVN.as (evn_list (ea_cons (ev_ixLs (fv V_law_upright_0 rfl) ev_int rfl) (ea_cons (ev_ixLs (fv V_law_upright_0 rfl) ev_int rfl) ea_nil))) fun I u z => het_lst (T := tInt) (xs := [a, b]) z) fun r => ⟨r, ?_⟩))
    show (Out.ret _ _ : Out) = Out.ret ⟨Addr, tAdr, r⟩ [⟨r, List Int, cLst tInt, upr a b⟩]
    unfold upr
    rw [if_neg hk]
end Lw
set_option maxHeartbeats 4000000
namespace Lw
open PySem PyProof.Rows L2 FL
local macro_rules | `(tactic| walk_at "mk") => `(tactic| first | exact nomark _ | rfl | (with_unfolding_all rfl))
local macro_rules | `(tactic| walk_at "ov") => `(tactic| first | exact ov_add | exact ov_sub | exact ov_lt | exact ov_le | exact ov_gt | exact ov_ge | exact ov_eqI | exact ov_neI | exact ov_eqB | exact ov_neB | exact ov_eqS | exact ov_neS | exact ov_mul (by assumption) | exact ov_fdiv (by assumption) | exact ov_mod (by assumption))
local macro_rules | `(tactic| walk_at "uv") => `(tactic| exact uv_neg)
local macro_rules | `(tactic| walk_at "ci") => `(tactic| first | exact cv_isiO (tv_own isIns (by assumption)) (by assumption) | exact cv_isiO tv_int (by assumption) | exact cv_isiB (tv_own isIns (by assumption)) (by assumption) | exact cv_isiB tv_int (kit_ty (r := true) (by decide +kernel)) | exact cv_isiB tv_int (kit_ty (r := false) (by decide +kernel)) | exact cv_isiB tv_bl (kit_ty (r := true) (by decide +kernel)) | exact cv_isiB tv_bl (kit_ty (r := false) (by decide +kernel)) | exact cv_isiB tv_str (kit_ty (r := true) (by decide +kernel)) | exact cv_isiB tv_str (kit_ty (r := false) (by decide +kernel)))

abbrev spDvB (C CD : Addr) (b : Nat) (t : Fr → Fr → FV) : Sp := spDv (ι := Fr × (Fr ⊕ Int)) (fun i => Ok b i.1 ∧ OkN b i.2) (fun i => [⟨Fr, tFr C, i.1⟩, nmV C i.2]) (fun i => (toF i.2).num = 0) (fun _ => exD CD) (fun i => t i.1 (toF i.2))
abbrev spDvR (C CD : Addr) (t : Fr → Fr → FV) : Sp := spDv (ι := Fr × Int) (fun i => Ok 5000 i.1 ∧ Sb 5000 i.2) (fun i => [⟨Fr, tFr C, i.1⟩, ⟨Int, tInt, i.2⟩]) (fun i => i.1.num = 0) (fun _ => exD CD) (fun i => t ⟨i.2, 1⟩ i.1)
structure FF (P : Program) (w : World) (K : PySem.W.Frag) (mg : Str → Option Value) (base : Heap) (C CD CC CT : Addr) : Prop where
  kf : KFr K mg C CD
  fi : FI P w K mg base C CD
  ko : KOp K C
  kb : mg "bool" = none
  of_ : Fo P w K mg base 3 d_Frac_of ["value"] (spOf C)
  add : Fo P w K mg base 3 d_Frac_add ["self", "other"] (spB C addF)
  sub : Fo P w K mg base 3 d_Frac_sub ["self", "other"] (spB C subF)
  mul : Fo P w K mg base 3 d_Frac_mul ["self", "other"] (spB C mulF)
  radd : Fo P w K mg base 3 d_Frac_radd ["self", "other"] (spR C addF)
  rsub : Fo P w K mg base 3 d_Frac_rsub ["self", "other"] (spR C subF)
  rmul : Fo P w K mg base 3 d_Frac_rmul ["self", "other"] (spR C mulF)
  fdv : Fo P w K mg base 4 d_Frac_floordiv ["self", "other"] (spDvB C CD 5000 fun x y => ⟨Int, tInt, fqF x y⟩)
  rfdv : Fo P w K mg base 4 d_Frac_rfloordiv ["self", "other"] (spDvR C CD fun x y => ⟨Int, tInt, fqF x y⟩)
  md : Fo P w K mg base 4 d_Frac_mod ["self", "other"] (spDvB C CD 5000 fun x y => ⟨Fr, tFr C, modF x y⟩)
  rmd : Fo P w K mg base 4 d_Frac_rmod ["self", "other"] (spDvR C CD fun x y => ⟨Fr, tFr C, modF x y⟩)
  over : Fo P w K mg base 4 d_Frac_over ["self", "b"] (spDvB C CD 1400 fun x y => ⟨Fr, tFr C, overF x y⟩)
  lt : Fo P w K mg base 1 d_Frac_lt ["self", "other"] (spC C ltF)
  le : Fo P w K mg base 1 d_Frac_le ["self", "other"] (spC C leF)
  gt : Fo P w K mg base 1 d_Frac_gt ["self", "other"] (spC C gtF)
  ge : Fo P w K mg base 1 d_Frac_ge ["self", "other"] (spC C geF)
  neg : Fo P w K mg base 3 d_Frac_neg ["self"] (spP (ι := Fr) (fun x => Ok 100000 x) (fun x => [⟨Fr, tFr C, x⟩]) (fun _ => tFr C) (fun x => nrm (-x.num) x.den))
  abs : Fo P w K mg base 3 d_Frac_abs ["self"] (spP (ι := Fr) (fun x => Ok 100000 x) (fun x => [⟨Fr, tFr C, x⟩]) (fun _ => tFr C) (fun x => nrm (if x.num < 0 then -x.num else x.num) x.den))
  bool : Fo P w K mg base 1 d_Frac_bool ["self"] (spP (ι := Fr) (fun x => True) (fun x => [⟨Fr, tFr C, x⟩]) (fun _ => tBl) (fun x => x.num != 0))
  eq : Fo P w K mg base 1 d_Frac_eq ["self", "other"] (spE C)
  eqs : Fo P w K mg base 4 d_Frac_equals ["self", "b"] (spP (ι := Fr × (Fr ⊕ Int)) (fun _ => True) (fun i => [⟨Fr, tFr C, i.1⟩, nmV C i.2]) (fun _ => tBl) (fun i => eqN i.1 (.inl (toF i.2))))
  sign : Fo P w K mg base 1 d_Frac_sign ["self"] (spP (ι := Fr) (fun _ => True) (fun x => [⟨Fr, tFr C, x⟩]) (fun _ => tInt) signF)
  str : Fo P w K mg base 1 d_Frac_str ["self"] (spP (ι := Fr) (fun x => Ok 1400 x) (fun x => [⟨Fr, tFr C, x⟩]) (fun _ => tStr) strF)
  rs : Fo P w K mg base 3 d_Frac_raised ["self", "k"] (spRs C CC)
  pw : Fo P w K mg base 4 d_Frac_pow ["self", "other"] (spP (ι := Fr × Int) (fun i => (Ok 300 i.1 ∧ Sb 300 i.1.den ∧ Nat.gcd i.1.num.natAbs i.1.den.natAbs = 1) ∧ 0 ≤ i.2 ∧ i.2 ≤ 64) (fun i => [⟨Fr, tFr C, i.1⟩, ⟨Int, tInt, i.2⟩]) (fun _ => tFr C) (fun i => nrm (i.1.num ^ i.2.toNat) (i.1.den ^ i.2.toNat)))
  read : Fo P w K mg base 4 d_Frac_read ["text"] (spRd C CT)
variable {P : Program} {w : World} {K : PySem.W.Frag} {mg : Str → Option Value} {base : Heap} {C CD CC CT : Addr}
section
variable {X : Cx} {M : Mem} {x y : Fr ⊕ Int} {j : Nat} (ff : FF P w K mg base C CD CC CT) (e : At5 X P w K mg base) (hr : Room j X.A)
def lr (x y : Fr ⊕ Int) : Prop := ∀ i j, ¬ (x = .inr i ∧ y = .inr j)
include ff e hr
theorem on_add (hj : 3 ≤ j) (h : lr x y) (hx : OkN 100000 x) (hy : OkN 100000 y) : OV X (binaryOp .Add) M (nmV C x).T (nmV C x).x (nmV C y).T (nmV C y).x (tFr C) (addF (toF x) (toF y)) M := by
  obtain ⟨rfl, rfl, rfl, rfl, rfl⟩ := e
  cases x with
  | inl x => cases y with
    | inl y => exact ov_own isIns isIns ff.ko.add (ff.add.cvP hr (x, .inl y) ⟨hx, hy⟩ rfl hj)
    | inr i => exact ov_ownI isIns ff.ko.add (ff.add.cvP hr (x, .inr i) ⟨hx, hy⟩ rfl hj)
  | inr i => cases y with
    | inl y => exact ov_refl io_add isIns ff.ko.radd (ff.radd.cvP hr (y, i) ⟨hy, hx.n⟩ rfl hj)
    | inr k => exact absurd ⟨rfl, rfl⟩ (h i k)
theorem on_sub (hj : 3 ≤ j) (h : lr x y) (hx : OkN 100000 x) (hy : OkN 100000 y) : OV X (binaryOp .Sub) M (nmV C x).T (nmV C x).x (nmV C y).T (nmV C y).x (tFr C) (subF (toF x) (toF y)) M := by
  obtain ⟨rfl, rfl, rfl, rfl, rfl⟩ := e
  cases x with
  | inl x => cases y with
    | inl y => exact ov_own isIns isIns ff.ko.sub (ff.sub.cvP hr (x, .inl y) ⟨hx, hy⟩ rfl hj)
    | inr i => exact ov_ownI isIns ff.ko.sub (ff.sub.cvP hr (x, .inr i) ⟨hx, hy⟩ rfl hj)
  | inr i => cases y with
    | inl y => exact ov_refl io_sub isIns ff.ko.rsub (ff.rsub.cvP hr (y, i) ⟨hy, hx.n⟩ rfl hj)
    | inr k => exact absurd ⟨rfl, rfl⟩ (h i k)
theorem on_mul (hj : 3 ≤ j) (h : lr x y) (hx : OkN 100000 x) (hy : OkN 100000 y) : OV X (binaryOp .Mult) M (nmV C x).T (nmV C x).x (nmV C y).T (nmV C y).x (tFr C) (mulF (toF x) (toF y)) M := by
  obtain ⟨rfl, rfl, rfl, rfl, rfl⟩ := e
  cases x with
  | inl x => cases y with
    | inl y => exact ov_own isIns isIns ff.ko.mul (ff.mul.cvP hr (x, .inl y) ⟨hx, hy⟩ rfl hj)
    | inr i => exact ov_ownI isIns ff.ko.mul (ff.mul.cvP hr (x, .inr i) ⟨hx, hy⟩ rfl hj)
  | inr i => cases y with
    | inl y => exact ov_refl io_mul isIns ff.ko.rmul (ff.rmul.cvP hr (y, i) ⟨hy, hx.n⟩ rfl hj)
    | inr k => exact absurd ⟨rfl, rfl⟩ (h i k)
theorem on_fdv (hj : 4 ≤ j) (h : lr x y) (hx : OkN 5000 x) (hy : OkN 5000 y) (h0 : (toF y).num ≠ 0) : OV X (binaryOp .FloorDiv) M (nmV C x).T (nmV C x).x (nmV C y).T (nmV C y).x tInt (fqF (toF x) (toF y)) M := by
  obtain ⟨rfl, rfl, rfl, rfl, rfl⟩ := e
  cases x with
  | inl x => cases y with
    | inl y => exact ov_own isIns isIns ff.ko.fdv (ff.fdv.cv0 hr (x, .inl y) ⟨hx, hy⟩ rfl (dv_ret h0) hj)
    | inr i => exact ov_ownI isIns ff.ko.fdv (ff.fdv.cv0 hr (x, .inr i) ⟨hx, hy⟩ rfl (dv_ret h0) hj)
  | inr i => cases y with
    | inl y => exact ov_refl io_floordiv isIns ff.ko.rfdv (ff.rfdv.cv0 hr (y, i) ⟨hy, hx.n⟩ rfl (dv_ret h0) hj)
    | inr k => exact absurd ⟨rfl, rfl⟩ (h i k)
theorem on_mod (hj : 4 ≤ j) (h : lr x y) (hx : OkN 5000 x) (hy : OkN 5000 y) (h0 : (toF y).num ≠ 0) : OV X (binaryOp .Mod) M (nmV C x).T (nmV C x).x (nmV C y).T (nmV C y).x (tFr C) (modF (toF x) (toF y)) M := by
  obtain ⟨rfl, rfl, rfl, rfl, rfl⟩ := e
  cases x with
  | inl x => cases y with
    | inl y => exact ov_own isIns isIns ff.ko.md (ff.md.cv0 hr (x, .inl y) ⟨hx, hy⟩ rfl (dv_ret h0) hj)
    | inr i => exact ov_ownI isIns ff.ko.md (ff.md.cv0 hr (x, .inr i) ⟨hx, hy⟩ rfl (dv_ret h0) hj)
  | inr i => cases y with
    | inl y => exact ov_refl io_mod isIns ff.ko.rmd (ff.rmd.cv0 hr (y, i) ⟨hy, hx.n⟩ rfl (dv_ret h0) hj)
    | inr k => exact absurd ⟨rfl, rfl⟩ (h i k)
theorem on_lt (hj : 3 ≤ j) (h : lr x y) (hx : OkN 100000 x) (hy : OkN 100000 y) : OV X (compareOp .Lt) M (nmV C x).T (nmV C x).x (nmV C y).T (nmV C y).x tBl (ltF (toF x) (toF y)) M := by
  obtain ⟨rfl, rfl, rfl, rfl, rfl⟩ := e
  cases x with
  | inl x => cases y with
    | inl y => exact ov_cmpO op_rcLt hr.units0 isIns isIns ff.ko.lt (ff.lt.cvP hr (x, .inl y) ⟨hx, hy⟩ rfl (Nat.le_trans (by decide) hj))
    | inr i => exact ov_cmpOI op_rcLt hr.units0 isIns ff.ko.lt (ff.lt.cvP hr (x, .inr i) ⟨hx, hy⟩ rfl (Nat.le_trans (by decide) hj))
  | inr i => cases y with
    | inl y => exact ov_cmpIO op_rcLt hr.units0 ci_lt isIns ff.ko.rlt (ff.gt.cvP hr (y, .inr i) ⟨hy, hx⟩ rfl (Nat.le_trans (by decide) hj))
    | inr k => exact absurd ⟨rfl, rfl⟩ (h i k)
theorem on_le (hj : 3 ≤ j) (h : lr x y) (hx : OkN 100000 x) (hy : OkN 100000 y) : OV X (compareOp .LtE) M (nmV C x).T (nmV C x).x (nmV C y).T (nmV C y).x tBl (leF (toF x) (toF y)) M := by
  obtain ⟨rfl, rfl, rfl, rfl, rfl⟩ := e
  cases x with
  | inl x => cases y with
    | inl y => exact ov_cmpO op_rcLe hr.units0 isIns isIns ff.ko.le (ff.le.cvP hr (x, .inl y) ⟨hx, hy⟩ rfl (Nat.le_trans (by decide) hj))
    | inr i => exact ov_cmpOI op_rcLe hr.units0 isIns ff.ko.le (ff.le.cvP hr (x, .inr i) ⟨hx, hy⟩ rfl (Nat.le_trans (by decide) hj))
  | inr i => cases y with
    | inl y => exact ov_cmpIO op_rcLe hr.units0 ci_le isIns ff.ko.rle (ff.ge.cvP hr (y, .inr i) ⟨hy, hx⟩ rfl (Nat.le_trans (by decide) hj))
    | inr k => exact absurd ⟨rfl, rfl⟩ (h i k)
theorem on_gt (hj : 3 ≤ j) (h : lr x y) (hx : OkN 100000 x) (hy : OkN 100000 y) : OV X (compareOp .Gt) M (nmV C x).T (nmV C x).x (nmV C y).T (nmV C y).x tBl (gtF (toF x) (toF y)) M := by
  obtain ⟨rfl, rfl, rfl, rfl, rfl⟩ := e
  cases x with
  | inl x => cases y with
    | inl y => exact ov_cmpO op_rcGt hr.units0 isIns isIns ff.ko.gt (ff.gt.cvP hr (x, .inl y) ⟨hx, hy⟩ rfl (Nat.le_trans (by decide) hj))
    | inr i => exact ov_cmpOI op_rcGt hr.units0 isIns ff.ko.gt (ff.gt.cvP hr (x, .inr i) ⟨hx, hy⟩ rfl (Nat.le_trans (by decide) hj))
  | inr i => cases y with
    | inl y => exact ov_cmpIO op_rcGt hr.units0 ci_gt isIns ff.ko.rgt (ff.lt.cvP hr (y, .inr i) ⟨hy, hx⟩ rfl (Nat.le_trans (by decide) hj))
    | inr k => exact absurd ⟨rfl, rfl⟩ (h i k)
theorem on_ge (hj : 3 ≤ j) (h : lr x y) (hx : OkN 100000 x) (hy : OkN 100000 y) : OV X (compareOp .GtE) M (nmV C x).T (nmV C x).x (nmV C y).T (nmV C y).x tBl (geF (toF x) (toF y)) M := by
  obtain ⟨rfl, rfl, rfl, rfl, rfl⟩ := e
  cases x with
  | inl x => cases y with
    | inl y => exact ov_cmpO op_rcGe hr.units0 isIns isIns ff.ko.ge (ff.ge.cvP hr (x, .inl y) ⟨hx, hy⟩ rfl (Nat.le_trans (by decide) hj))
    | inr i => exact ov_cmpOI op_rcGe hr.units0 isIns ff.ko.ge (ff.ge.cvP hr (x, .inr i) ⟨hx, hy⟩ rfl (Nat.le_trans (by decide) hj))
  | inr i => cases y with
    | inl y => exact ov_cmpIO op_rcGe hr.units0 ci_ge isIns ff.ko.rge (ff.le.cvP hr (y, .inr i) ⟨hy, hx⟩ rfl (Nat.le_trans (by decide) hj))
    | inr k => exact absurd ⟨rfl, rfl⟩ (h i k)
end
structure GH (P : Program) (w : World) (K : PySem.W.Frag) (mg : Str → Option Value) (base : Heap) (C : Addr) : Prop where
  gii : mg "_law_is_integer" = some (.ref (d_law_is_integer.ad K))
  ii : Fo P w K mg base 1 d_law_is_integer ["told"] spInt
  gif : mg "_law_is_frac" = some (.ref (d_law_is_frac.ad K))
  isf : Fo P w K mg base 2 d_law_is_frac ["told", "top", "bottom"] (spIsF C)
  git : mg "_law_is_truth" = some (.ref (d_law_is_truth.ad K))
  tr : Fo P w K mg base 1 d_law_is_truth ["told", "due"] (spP (ι := Bool × Bool) (fun _ => True) (fun i => [⟨Bool, tBl, i.1⟩, ⟨Bool, tBl, i.2⟩]) (fun _ => tBl) (fun i => decide (i.1 = i.2)))
abbrev spPair (C : Addr) : Sp := spP (ι := (Fr ⊕ Int) × (Fr ⊕ Int) × Int × Int × Int × Int) (fun i => lr i.1 i.2.1 ∧ Pq (toF i.1) i.2.2.1 i.2.2.2.1 ∧ Pq (toF i.2.1) i.2.2.2.2.1 i.2.2.2.2.2)
  (fun i => [nmV C i.1, nmV C i.2.1, ⟨Int, tInt, i.2.2.1⟩, ⟨Int, tInt, i.2.2.2.1⟩, ⟨Int, tInt, i.2.2.2.2.1⟩, ⟨Int, tInt, i.2.2.2.2.2⟩]) (fun _ => tBl) (fun _ => true)
abbrev N_law_pair : List Str := ["x", "y", "p", "q", "r", "s", "gap", "floor", "told"]
theorem S_law_pair : FnScope N_law_pair ["x", "y", "p", "q", "r", "s"] d_law_pair.scope := ⟨by rfl, by rfl, by rfl, by decide, by rfl, by decide, by decide⟩
theorem V_law_pair_0 : VarOk N_law_pair d_law_pair.scope 0 "x" := ⟨by rfl, by first | exact Or.inl rfl | exact Or.inr (Or.inl rfl) | exact Or.inr (Or.inr rfl), by decide, by decide⟩
theorem V_law_pair_1 : VarOk N_law_pair d_law_pair.scope 1 "y" := ⟨by rfl, by first | exact Or.inl rfl | exact Or.inr (Or.inl rfl) | exact Or.inr (Or.inr rfl), by decide, by decide⟩
theorem V_law_pair_2 : VarOk N_law_pair d_law_pair.scope 2 "p" := ⟨by rfl, by first | exact Or.inl rfl | exact Or.inr (Or.inl rfl) | exact Or.inr (Or.inr rfl), by decide, by decide⟩
theorem V_law_pair_3 : VarOk N_law_pair d_law_pair.scope 3 "q" := ⟨by rfl, by first | exact Or.inl rfl | exact Or.inr (Or.inl rfl) | exact Or.inr (Or.inr rfl), by decide, by decide⟩
theorem V_law_pair_4 : VarOk N_law_pair d_law_pair.scope 4 "r" := ⟨by rfl, by first | exact Or.inl rfl | exact Or.inr (Or.inl rfl) | exact Or.inr (Or.inr rfl), by decide, by decide⟩
theorem V_law_pair_5 : VarOk N_law_pair d_law_pair.scope 5 "s" := ⟨by rfl, by first | exact Or.inl rfl | exact Or.inr (Or.inl rfl) | exact Or.inr (Or.inr rfl), by decide, by decide⟩
theorem V_law_pair_6 : VarOk N_law_pair d_law_pair.scope 6 "gap" := ⟨by rfl, by first | exact Or.inl rfl | exact Or.inr (Or.inl rfl) | exact Or.inr (Or.inr rfl), by decide, by decide⟩
theorem V_law_pair_7 : VarOk N_law_pair d_law_pair.scope 7 "floor" := ⟨by rfl, by first | exact Or.inl rfl | exact Or.inr (Or.inl rfl) | exact Or.inr (Or.inr rfl), by decide, by decide⟩
theorem V_law_pair_8 : VarOk N_law_pair d_law_pair.scope 8 "told" := ⟨by rfl, by first | exact Or.inl rfl | exact Or.inr (Or.inl rfl) | exact Or.inr (Or.inr rfl), by decide, by decide⟩
theorem B_law_pair {K : PySem.W.Frag} : ∀ fd, FunD K d_law_pair.name d_law_pair.qual d_law_pair.params d_law_pair.body d_law_pair.scope (d_law_pair.dvs K) (d_law_pair.kws K) (d_law_pair.ad K) fd → Binds K fd ["x", "y", "p", "q", "r", "s"] [] := fun fd F => FunD.bindsN (show FunD K d_law_pair.name d_law_pair.qual d_law_pair.params d_law_pair.body d_law_pair.scope [] (d_law_pair.kws K) (d_law_pair.ad K) fd from F) fun kV doc pm an cdv ct us h => match us, h with
  | [u0, u1, u2, u3, u4, u5], _ => rfl
theorem fo_pair (F : Fu K d_law_pair) (ff : FF P w K mg base C CD CC CT) (gh : GH P w K mg base C) : Fo P w K mg base 5 d_law_pair ["x", "y", "p", "q", "r", "s"] (spPair C) := by
  refine Fo.of F S_law_pair (fun _ => rfl) B_law_pair ?_
  rintro ⟨x, y, p, q, r, s⟩ ⟨hl, hx, hy⟩ cdv A outer sh H E hr
  have hN := S_law_pair.nd
  have hl : lr x y := hl
  have hx : Pq (toF x) p q := hx
  have hy : Pq (toF y) r s := hy
  have ox : OkN 100000 x := hx.ok (by decide)
  have oy : OkN 100000 y := hy.ok (by decide)
  have ox5 : OkN 5000 x := hx.ok (by decide)
  have oy5 : OkN 5000 y := hy.ok (by decide)
  have m1 : CMulW p s := hx.p.cm hy.q
  have m2 : CMulW r q := hy.p.cm hx.q
  have m3 : CMulW q s := hx.q.cm hy.q
  have m4 : CMulW p r := hx.p.cm hy.p
  have m5 : CMulW q r := hx.q.cm hy.p
  refine sv_cons (s_set 6 hN (fe_op (fe_op (fv V_law_pair_2 rfl) (fv V_law_pair_5 rfl) (by walk_at "ov")) (fe_op (fv V_law_pair_4 rfl) (fv V_law_pair_3 rfl) (by walk_at "ov")) (by walk_at "ov")) ?_)
  refine sv_cons (s_if (k := !true) (et_not (et_val (ev_call gh.gif gh.isf.kp (ea_cons (fe_op (fv V_law_pair_0 rfl) (fv V_law_pair_1 rfl) (on_add ff ⟨rfl, rfl, rfl, rfl, rfl⟩ hr (by decide) hl ox oy)) (ea_cons (fe_op (fe_op (fv V_law_pair_2 rfl) (fv V_law_pair_5 rfl) (by walk_at "ov")) (fe_op (fv V_law_pair_4 rfl) (fv V_law_pair_3 rfl) (by walk_at "ov")) (by walk_at "ov")) (ea_cons (fe_op (fv V_law_pair_3 rfl) (fv V_law_pair_5 rfl) (by walk_at "ov")) ea_nil))) (by exact gh.isf.cP hr (addF (toF x) (toF y), p * s + r * q, q * s) (pq_add hx hy) rfl)))) (fun hk => absurd hk (by decide)) fun _ => sv_nil ?_)
  refine sv_cons (s_if (k := !true) (et_not (et_val (ev_call gh.gif gh.isf.kp (ea_cons (fe_op (fv V_law_pair_0 rfl) (fv V_law_pair_1 rfl) (on_sub ff ⟨rfl, rfl, rfl, rfl, rfl⟩ hr (by decide) hl ox oy)) (ea_cons (fv V_law_pair_6 rfl) (ea_cons (fe_op (fv V_law_pair_3 rfl) (fv V_law_pair_5 rfl) (by walk_at "ov")) ea_nil))) (by exact gh.isf.cP hr (subF (toF x) (toF y), p * s - r * q, q * s) (pq_sub hx hy) rfl)))) (fun hk => absurd hk (by decide)) fun _ => sv_nil ?_)
  refine sv_cons (s_if (k := !true) (et_not (et_val (ev_call gh.gif gh.isf.kp (ea_cons (fe_op (fv V_law_pair_0 rfl) (fv V_law_pair_1 rfl) (on_mul ff ⟨rfl, rfl, rfl, rfl, rfl⟩ hr (by decide) hl ox oy)) (ea_cons (fe_op (fv V_law_pair_2 rfl) (fv V_law_pair_4 rfl) (by walk_at "ov")) (ea_cons (fe_op (fv V_law_pair_3 rfl) (fv V_law_pair_5 rfl) (by walk_at "ov")) ea_nil))) (by exact gh.isf.cP hr (mulF (toF x) (toF y), p * r, q * s) (pq_mul hx hy) rfl)))) (fun hk => absurd hk (by decide)) fun _ => sv_nil ?_)
  have bb : ∀ {e : Expr} {k : Bool} {Γ : Gm} {pp pos : Pos}, EV (cxOf (L2N.CX P w) P w K mg base N_law_pair d_law_pair.qual d_law_pair.scope (d_law_pair.ad K) cdv A outer sh H E) e Γ [] tBl k [] → starEach [e] (cxOf (L2N.CX P w) P w K mg base N_law_pair d_law_pair.qual d_law_pair.scope (d_law_pair.ad K) cdv A outer sh H E).env = (false, eval e (cxOf (L2N.CX P w) P w K mg base N_law_pair d_law_pair.qual d_law_pair.scope (d_law_pair.ad K) cdv A outer sh H E).env) :: starEach [] (cxOf (L2N.CX P w) P w K mg base N_law_pair d_law_pair.qual d_law_pair.scope (d_law_pair.ad K) cdv A outer sh H E).env → EV (cxOf (L2N.CX P w) P w K mg base N_law_pair d_law_pair.qual d_law_pair.scope (d_law_pair.ad K) cdv A outer sh H E) (.Call (.Name "bool" pp) [e] [] pos) Γ [] tBl k [] := fun h he => ev_callTy ff.kb PyProof.Rows.Boot.«bool» (ea_cons h ea_nil he) cv_boolB (he := he)
  refine sv_cons (s_if (EW.t (ew_or (ft_cmp (bb (fe_cmp (fv V_law_pair_0 rfl) (fv V_law_pair_1 rfl) (on_lt ff ⟨rfl, rfl, rfl, rfl, rfl⟩ hr (by decide) hl ox oy) (by walk_at "mk")) rfl) (fe_cmp (fv V_law_pair_6 rfl) ev_int (by walk_at "ov") (by walk_at "mk")) ov_neB (by walk_at "mk")) fun _ => ew_or1 (ft_cmp (bb (fe_cmp (fv V_law_pair_0 rfl) (fv V_law_pair_1 rfl) (on_le ff ⟨rfl, rfl, rfl, rfl, rfl⟩ hr (by decide) hl ox oy) (by walk_at "mk")) rfl) (fe_cmp (fv V_law_pair_6 rfl) ev_int (by walk_at "ov") (by walk_at "mk")) ov_neB (by walk_at "mk")))) (fun hk => ?_) fun _ => sv_nil ?_)
  · exfalso
    rw [pq_lt hx hy, pq_le hx hy] at hk
    simp at hk
  refine sv_cons (s_if (EW.t (ew_or (ft_cmp (bb (fe_cmp (fv V_law_pair_0 rfl) (fv V_law_pair_1 rfl) (on_gt ff ⟨rfl, rfl, rfl, rfl, rfl⟩ hr (by decide) hl ox oy) (by walk_at "mk")) rfl) (fe_cmp (fv V_law_pair_6 rfl) ev_int (by walk_at "ov") (by walk_at "mk")) ov_neB (by walk_at "mk")) fun _ => ew_or1 (ft_cmp (bb (fe_cmp (fv V_law_pair_0 rfl) (fv V_law_pair_1 rfl) (on_ge ff ⟨rfl, rfl, rfl, rfl, rfl⟩ hr (by decide) hl ox oy) (by walk_at "mk")) rfl) (fe_cmp (fv V_law_pair_6 rfl) ev_int (by walk_at "ov") (by walk_at "mk")) ov_neB (by walk_at "mk")))) (fun hk => ?_) fun _ => sv_nil ?_)
  · exfalso
    rw [pq_gt hx hy, pq_ge hx hy] at hk
    simp at hk
  refine sv_cons (s_if (ft_cmp (fv V_law_pair_4 rfl) ev_int (by walk_at "ov") (by walk_at "mk")) (fun hk => sv_one (s_ret ev_bl rfl)) fun hk => sv_nil ?_)
  have r0 : r ≠ 0 := of_decide_eq_false hk
  have y0 : (toF y).num ≠ 0 := fun z => r0 ((pq_zero hy).mpr z)
  have q0 : q * r ≠ 0 := fun z => (Int.mul_eq_zero.mp z).elim (Int.ne_of_gt (hx.r.pos hx.p0)) r0
  have m6 : CDivX (p * s) (q * r) := ⟨q0, Nat.lt_of_lt_of_le (PySem.Flt.log2_lt_of (by decide) (hx.q.mul hy.p)) (by decide)⟩
  have hf : Sb 441 (fqF (toF x) (toF y)) := fdiv_sb (fun z => (Int.mul_eq_zero.mp z).elim (Int.ne_of_gt hx.p0) y0) (hx.n.mul hy.d)
  have m7 : CMulW (r * q) ((p * s).fdiv (q * r)) := by rw [pq_floor hx hy]; exact (hy.p.mul hx.q).cm hf
  refine sv_cons (s_set 7 hN (fe_op (fe_op (fv V_law_pair_2 rfl) (fv V_law_pair_5 rfl) (by walk_at "ov")) (fe_op (fv V_law_pair_3 rfl) (fv V_law_pair_4 rfl) (by walk_at "ov")) (by walk_at "ov")) ?_)
  refine sv_cons (s_set 8 hN (fe_op (fv V_law_pair_0 rfl) (fv V_law_pair_1 rfl) (on_fdv ff ⟨rfl, rfl, rfl, rfl, rfl⟩ hr (by decide) hl ox5 oy5 y0)) ?_)
  refine sv_cons (s_if (EW.t (ew_or (et_not (et_val (ev_call gh.gii gh.ii.kp (ea_cons (fv V_law_pair_8 rfl) ea_nil) (by exact gh.ii.cP hr _ trivial rfl)))) fun _ => ew_or1 (ft_cmp (fv V_law_pair_8 rfl) (fv V_law_pair_7 rfl) (by walk_at "ov") (by walk_at "mk")))) (fun hk => ?_) fun _ => sv_nil ?_)
  · exfalso
    rw [pq_floor hx hy] at hk
    simp at hk
  have mm := pq_mod hx hy r0
  rw [← pq_floor hx hy] at mm
  exact sv_one (s_ret (ev_call gh.gif gh.isf.kp (ea_cons (fe_op (fv V_law_pair_0 rfl) (fv V_law_pair_1 rfl) (on_mod ff ⟨rfl, rfl, rfl, rfl, rfl⟩ hr (by decide) hl ox5 oy5 y0)) (ea_cons (fe_op (fe_op (fv V_law_pair_2 rfl) (fv V_law_pair_5 rfl) (by walk_at "ov")) (fe_op (fe_op (fv V_law_pair_4 rfl) (fv V_law_pair_3 rfl) (by walk_at "ov")) (fv V_law_pair_7 rfl) (by walk_at "ov")) (by walk_at "ov")) (ea_cons (fe_op (fv V_law_pair_3 rfl) (fv V_law_pair_5 rfl) (by walk_at "ov")) ea_nil))) (by exact gh.isf.cP hr (modF (toF x) (toF y), p * s - r * q * (p * s).fdiv (q * r), q * s) mm rfl)) rfl)
end Lw
set_option maxHeartbeats 4000000
namespace Lw
open PySem PyProof.Rows L2 FL
local macro_rules | `(tactic| walk_at "mk") => `(tactic| first | exact nomark _ | rfl | (with_unfolding_all rfl))
local macro_rules | `(tactic| walk_at "ov") => `(tactic| first | exact ov_add | exact ov_sub | exact ov_lt | exact ov_le | exact ov_gt | exact ov_ge | exact ov_eqI | exact ov_neI | exact ov_eqB | exact ov_neB | exact ov_eqS | exact ov_neS | exact ov_mul (by assumption) | exact ov_fdiv (by assumption) | exact ov_mod (by assumption))
local macro_rules | `(tactic| walk_at "uv") => `(tactic| exact uv_neg)
local macro_rules | `(tactic| walk_at "ci") => `(tactic| first | exact cv_isiO (tv_own isIns (by assumption)) (by assumption) | exact cv_isiO tv_int (by assumption) | exact cv_isiB (tv_own isIns (by assumption)) (by assumption) | exact cv_isiB tv_int (kit_ty (r := true) (by decide +kernel)) | exact cv_isiB tv_int (kit_ty (r := false) (by decide +kernel)) | exact cv_isiB tv_bl (kit_ty (r := true) (by decide +kernel)) | exact cv_isiB tv_bl (kit_ty (r := false) (by decide +kernel)) | exact cv_isiB tv_str (kit_ty (r := true) (by decide +kernel)) | exact cv_isiB tv_str (kit_ty (r := false) (by decide +kernel)))

variable {P : Program} {w : World} {K : PySem.W.Frag} {mg : Str → Option Value} {base : Heap} {C CD CC CT CS : Addr}
section
variable {X : Cx} {W : WX} {M : Mem} {x y : Fr ⊕ Int} {j : Nat} (ff : FF P w K mg base C CD CC CT) (e : At5 X P w K mg base) (tk : L2N.Takes X W) (hr : Room j X.A)
include ff e tk hr
theorem ox_fdvN (hj : 4 ≤ j) (h : lr x y) (hx : OkN 5000 x) (hy : OkN 5000 y) (h0 : (toF y).num = 0) : OX X W (binaryOp .FloorDiv) M (nmV C x).T (nmV C x).x (nmV C y).T (nmV C y).x (exD CD) M := by
  obtain ⟨rfl, rfl, rfl, rfl, rfl⟩ := e
  cases x with
  | inl x => cases y with
    | inl y => exact ox_own isIns isIns ff.ko.fdv (ff.fdv.cvx0 tk hr (x, .inl y) ⟨hx, hy⟩ rfl (dv_exc h0) hj)
    | inr i => exact ox_ownI isIns ff.ko.fdv (ff.fdv.cvx0 tk hr (x, .inr i) ⟨hx, hy⟩ rfl (dv_exc h0) hj)
  | inr i => cases y with
    | inl y => exact ox_refl io_floordiv isIns ff.ko.rfdv (ff.rfdv.cvx0 tk hr (y, i) ⟨hy, hx.n⟩ rfl (dv_exc h0) hj)
    | inr k => exact absurd ⟨rfl, rfl⟩ (h i k)
theorem ox_modN (hj : 4 ≤ j) (h : lr x y) (hx : OkN 5000 x) (hy : OkN 5000 y) (h0 : (toF y).num = 0) : OX X W (binaryOp .Mod) M (nmV C x).T (nmV C x).x (nmV C y).T (nmV C y).x (exD CD) M := by
  obtain ⟨rfl, rfl, rfl, rfl, rfl⟩ := e
  cases x with
  | inl x => cases y with
    | inl y => exact ox_own isIns isIns ff.ko.md (ff.md.cvx0 tk hr (x, .inl y) ⟨hx, hy⟩ rfl (dv_exc h0) hj)
    | inr i => exact ox_ownI isIns ff.ko.md (ff.md.cvx0 tk hr (x, .inr i) ⟨hx, hy⟩ rfl (dv_exc h0) hj)
  | inr i => cases y with
    | inl y => exact ox_refl io_mod isIns ff.ko.rmd (ff.rmd.cvx0 tk hr (y, i) ⟨hy, hx.n⟩ rfl (dv_exc h0) hj)
    | inr k => exact absurd ⟨rfl, rfl⟩ (h i k)
end
theorem cvH {M : Mem} {d : DE} {ps : List Str} {k : Nat} {ι : Type} {pre : ι → Prop} {args : ι → List FV} {α : ι → Type} {T : ∀ i, FTy (α i)} {val : ∀ i, α i} {ts : List FV} (h : ∃ fd, L2H.FnH P w K mg base (L2N.CX P w) k (d.ad K) fd ps (spP pre args T val) ∧ Binds K fd ps []) {X : Cx} (rh : L2H.RoomH k X.A) (hc : L2H.HotC X) (i : ι) (hp : pre i) (ha : args i = ts)
    (e : At5 X P w K mg base := by exact ⟨rfl, rfl, rfl, rfl, rfl⟩) : CV X (.ref (d.ad K)) ts M (T i) (val i) M := by
  obtain ⟨rfl, rfl, rfl, rfl, rfl⟩ := e
  obtain ⟨fd, F, b⟩ := h
  exact cv_fnH F rh hc b i hp ha (fun o z => z) [] M
def ZOk (way : Int) (x y : Fr ⊕ Int) : Prop := (toF y).num = 0 ∧ (((way = 0 ∨ way = 1) ∧ lr x y ∧ OkN 5000 x ∧ OkN 5000 y) ∨ (way = 2 ∧ (∃ z, x = .inl z ∧ Ok 1400 z) ∧ OkN 1400 y) ∨ (way = 3 ∧ (∃ n, x = .inr n) ∧ y = .inr 0))
abbrev spDivd (C CD : Addr) : Sp := spF (ι := Int × (Fr ⊕ Int) × (Fr ⊕ Int)) (fun i => ZOk i.1 i.2.1 i.2.2) (fun i => [⟨Int, tInt, i.1⟩, nmV C i.2.1, nmV C i.2.2]) (fun _ => []) (fun _ o => o = .exc (exD CD) [] [])
abbrev N_law_divided : List Str := ["way", "x", "y"]
theorem S_law_divided : FnScope N_law_divided ["way", "x", "y"] d_law_divided.scope := ⟨by rfl, by rfl, by rfl, by decide, by rfl, by decide, by decide⟩
theorem V_law_divided_0 : VarOk N_law_divided d_law_divided.scope 0 "way" := ⟨by rfl, by first | exact Or.inl rfl | exact Or.inr (Or.inl rfl) | exact Or.inr (Or.inr rfl), by decide, by decide⟩
theorem V_law_divided_1 : VarOk N_law_divided d_law_divided.scope 1 "x" := ⟨by rfl, by first | exact Or.inl rfl | exact Or.inr (Or.inl rfl) | exact Or.inr (Or.inr rfl), by decide, by decide⟩
theorem V_law_divided_2 : VarOk N_law_divided d_law_divided.scope 2 "y" := ⟨by rfl, by first | exact Or.inl rfl | exact Or.inr (Or.inl rfl) | exact Or.inr (Or.inr rfl), by decide, by decide⟩
theorem B_law_divided {K : PySem.W.Frag} : ∀ fd, FunD K d_law_divided.name d_law_divided.qual d_law_divided.params d_law_divided.body d_law_divided.scope (d_law_divided.dvs K) (d_law_divided.kws K) (d_law_divided.ad K) fd → Binds K fd ["way", "x", "y"] [] := fun fd F => FunD.bindsN (show FunD K d_law_divided.name d_law_divided.qual d_law_divided.params d_law_divided.body d_law_divided.scope [] (d_law_divided.kws K) (d_law_divided.ad K) fd from F) fun kV doc pm an cdv ct us h => match us, h with
  | [u0, u1, u2], _ => rfl
theorem fo_divided (F : Fu K d_law_divided) (ff : FF P w K mg base C CD CC CT) : Fo P w K mg base 5 d_law_divided ["way", "x", "y"] (spDivd C CD) := by
  refine Fo.of F S_law_divided (fun _ => rfl) B_law_divided ?_
  rintro ⟨way, x, y⟩ ⟨h0, hz⟩ cdv A outer sh H E hr
  have h0 : (toF y).num = 0 := h0
  refine sv_cons (s_if (ft_cmp (fv V_law_divided_0 rfl) ev_int (by walk_at "ov") (by walk_at "mk")) (fun hk => ?_) fun hk => sv_nil ?_)
  · have hw : way = 0 := of_decide_eq_true hk
    rcases hz with ⟨_, hl, hx, hy⟩ | ⟨z, _⟩ | ⟨z, _⟩
    · refine sv_one (s_retX (ex_op (ox_fdvN ff ⟨rfl, rfl, rfl, rfl, rfl⟩ takesOf hr (by decide) hl hx hy h0) (fv V_law_divided_1 rfl) (fv V_law_divided_2 rfl)) ?_)
      rfl
    · exact absurd (show way = 2 from z) (by omega)
    · exact absurd (show way = 3 from z) (by omega)
  have w0 : way ≠ 0 := of_decide_eq_false hk
  refine sv_cons (s_if (ft_cmp (fv V_law_divided_0 rfl) ev_int (by walk_at "ov") (by walk_at "mk")) (fun hk => ?_) fun hk => sv_nil ?_)
  · have hw : way = 1 := of_decide_eq_true hk
    rcases hz with ⟨_, hl, hx, hy⟩ | ⟨z, _⟩ | ⟨z, _⟩
    · refine sv_one (s_retX (ex_op (ox_modN ff ⟨rfl, rfl, rfl, rfl, rfl⟩ takesOf hr (by decide) hl hx hy h0) (fv V_law_divided_1 rfl) (fv V_law_divided_2 rfl)) ?_)
      rfl
    · exact absurd (show way = 2 from z) (by omega)
    · exact absurd (show way = 3 from z) (by omega)
  have w1 : way ≠ 1 := of_decide_eq_false hk
  refine sv_cons (s_if (ft_cmp (fv V_law_divided_0 rfl) ev_int (by walk_at "ov") (by walk_at "mk")) (fun hk => ?_) fun hk => sv_nil ?_)
  · have hw : way = 2 := of_decide_eq_true hk
    rcases hz with ⟨z, _⟩ | ⟨_, ⟨z, hz, oz⟩, oy⟩ | ⟨z, _⟩
    · exact absurd (show way = 0 ∨ way = 1 from z) (by omega)
    · obtain rfl : x = .inl z := hz
      refine sv_one (s_retX (ex_meth (T := tFr C) (x := z) (fv V_law_divided_1 rfl) (fun I v ⟨a, dx, h1, h2⟩ => ⟨a, dx, _, h1, h2, rfl⟩) ff.kf.c ff.ko.ov (ea_cons (fv V_law_divided_2 rfl) ea_nil) (by exact ff.over.cX takesOf hr (z, y) ⟨oz, oy⟩ rfl (dv_exc h0))) ?_)
      rfl
    · exact absurd (show way = 3 from z) (by omega)
  have w2 : way ≠ 2 := of_decide_eq_false hk
  rcases hz with ⟨z, _⟩ | ⟨z, _⟩ | ⟨_, ⟨n, hn⟩, hy⟩
  · exact absurd (show way = 0 ∨ way = 1 from z) (by omega)
  · exact absurd (show way = 2 from z) w2
  · obtain rfl : x = .inr n := hn
    obtain rfl : y = .inr 0 := hy
    refine sv_one (s_retX (ex_frac2 (n := n) ff.fi takesOf hr (ea_cons (fv V_law_divided_1 rfl) (ea_cons (fv V_law_divided_2 rfl) ea_nil))) ?_)
    rfl
structure KX (K : PySem.W.Frag) (mg : Str → Option Value) (CS CD CC CT : Addr) : Prop where
  gS : mg "StayError" = some (.ref CS)
  gC : mg "BadCount" = some (.ref CC)
  gT : mg "BadText" = some (.ref CT)
  gs : mg "str" = none
  mD : PySem.W.exmOne K (.ref CD) (.ref CD) = some true
  mC : PySem.W.exmOne K (.ref CC) (.ref CC) = some true
  mT : PySem.W.exmOne K (.ref CT) (.ref CT) = some true
  eD : ExcC K CD
  eC : ExcC K CC
  eT : ExcC K CT
  xC : XfC K CC
  xT : XfC K CT
  nC : PySem.W.findIn K (.ref CC) "count" = some none
  nT : PySem.W.findIn K (.ref CT) "text" = some none
  kDS : PySem.W.kitOne K (.ref CD) (.ref CS) = some true
  kCS : PySem.W.kitOne K (.ref CC) (.ref CS) = some true
  kTS : PySem.W.kitOne K (.ref CT) (.ref CS) = some true
  kDC : PySem.W.kitOne K (.ref CD) (.ref CC) = some false
  kDT : PySem.W.kitOne K (.ref CD) (.ref CT) = some false
abbrev spT {ι : Type} (pre : ι → Prop) (args : ι → List FV) : Sp := spP pre args (fun _ => tBl) (fun _ => true)
abbrev N_law_zero_refused : List Str := ["way", "x", "y", "e"]
theorem S_law_zero_refused : FnScope N_law_zero_refused ["way", "x", "y"] d_law_zero_refused.scope := ⟨by rfl, by rfl, by rfl, by decide, by rfl, by decide, by decide⟩
theorem V_law_zero_refused_0 : VarOk N_law_zero_refused d_law_zero_refused.scope 0 "way" := ⟨by rfl, by first | exact Or.inl rfl | exact Or.inr (Or.inl rfl) | exact Or.inr (Or.inr rfl), by decide, by decide⟩
theorem V_law_zero_refused_1 : VarOk N_law_zero_refused d_law_zero_refused.scope 1 "x" := ⟨by rfl, by first | exact Or.inl rfl | exact Or.inr (Or.inl rfl) | exact Or.inr (Or.inr rfl), by decide, by decide⟩
theorem V_law_zero_refused_2 : VarOk N_law_zero_refused d_law_zero_refused.scope 2 "y" := ⟨by rfl, by first | exact Or.inl rfl | exact Or.inr (Or.inl rfl) | exact Or.inr (Or.inr rfl), by decide, by decide⟩
theorem V_law_zero_refused_3 : VarOk N_law_zero_refused d_law_zero_refused.scope 3 "e" := ⟨by rfl, by first | exact Or.inl rfl | exact Or.inr (Or.inl rfl) | exact Or.inr (Or.inr rfl), by decide, by decide⟩
theorem B_law_zero_refused {K : PySem.W.Frag} : ∀ fd, FunD K d_law_zero_refused.name d_law_zero_refused.qual d_law_zero_refused.params d_law_zero_refused.body d_law_zero_refused.scope (d_law_zero_refused.dvs K) (d_law_zero_refused.kws K) (d_law_zero_refused.ad K) fd → Binds K fd ["way", "x", "y"] [] := fun fd F => FunD.bindsN (show FunD K d_law_zero_refused.name d_law_zero_refused.qual d_law_zero_refused.params d_law_zero_refused.body d_law_zero_refused.scope [] (d_law_zero_refused.kws K) (d_law_zero_refused.ad K) fd from F) fun kV doc pm an cdv ct us h => match us, h with
  | [u0, u1, u2], _ => rfl
theorem fo_zref (F : Fu K d_law_zero_refused) (ff : FF P w K mg base C CD CC CT) (kx : KX K mg CS CD CC CT) (gdv : mg "_law_divided" = some (.ref (d_law_divided.ad K))) (dv : Fo P w K mg base 5 d_law_divided ["way", "x", "y"] (spDivd C CD)) :
    Fo P w K mg base 6 d_law_zero_refused ["way", "x", "y"] (spT (ι := Int × (Fr ⊕ Int) × (Fr ⊕ Int)) (fun i => ZOk i.1 i.2.1 i.2.2) (fun i => [⟨Int, tInt, i.1⟩, nmV C i.2.1, nmV C i.2.2])) := by
  refine Fo.of F S_law_zero_refused (fun _ => rfl) B_law_zero_refused ?_
  rintro ⟨way, x, y⟩ hz cdv A outer sh H E hr
  have hN := S_law_zero_refused.nd
  refine sv_cons (s_try rfl rfl hN takesOf fun pn xe W' tk' _ => sv_one (s_exprX (ex_call gdv dv.kp (ea_cons (fv V_law_zero_refused_0 rfl) (ea_cons (fv V_law_zero_refused_1 rfl) (ea_cons (fv V_law_zero_refused_2 rfl) ea_nil))) (by exact dv.cX tk' hr (way, x, y) hz rfl (fun o h => h))) ?_))
  refine ⟨.ref CD, true, 3, ⟨rfl, by decide, .inl ff.kf.gD⟩, kx.mD, rfl, rfl, fun _ a d oe pn zn vs => ?_, fun z => absurd z (by decide)⟩
  refine sv_one (s_ret (x := true && (!false && !false)) (ev_and (fe_isi (fv V_law_zero_refused_3 rfl) (ev_glob kx.gS) (cv_isE kx.eD zn vs kx.kDS) ff.kf.isi rfl rfl rfl rfl) fun _ => ev_and (ev_not (fe_isi (fv V_law_zero_refused_3 rfl) (ev_glob kx.gC) (cv_isE kx.eD zn vs kx.kDC) ff.kf.isi rfl rfl rfl rfl)) fun _ => ev_one (ev_not (fe_isi (fv V_law_zero_refused_3 rfl) (ev_glob kx.gT) (cv_isE kx.eD zn vs kx.kDT) ff.kf.isi rfl rfl rfl rfl))) ?_)
  rfl
abbrev N_law_count_refused : List Str := ["x", "k", "e"]
theorem S_law_count_refused : FnScope N_law_count_refused ["x", "k"] d_law_count_refused.scope := ⟨by rfl, by rfl, by rfl, by decide, by rfl, by decide, by decide⟩
theorem V_law_count_refused_0 : VarOk N_law_count_refused d_law_count_refused.scope 0 "x" := ⟨by rfl, by first | exact Or.inl rfl | exact Or.inr (Or.inl rfl) | exact Or.inr (Or.inr rfl), by decide, by decide⟩
theorem V_law_count_refused_1 : VarOk N_law_count_refused d_law_count_refused.scope 1 "k" := ⟨by rfl, by first | exact Or.inl rfl | exact Or.inr (Or.inl rfl) | exact Or.inr (Or.inr rfl), by decide, by decide⟩
theorem V_law_count_refused_2 : VarOk N_law_count_refused d_law_count_refused.scope 2 "e" := ⟨by rfl, by first | exact Or.inl rfl | exact Or.inr (Or.inl rfl) | exact Or.inr (Or.inr rfl), by decide, by decide⟩
theorem B_law_count_refused {K : PySem.W.Frag} : ∀ fd, FunD K d_law_count_refused.name d_law_count_refused.qual d_law_count_refused.params d_law_count_refused.body d_law_count_refused.scope (d_law_count_refused.dvs K) (d_law_count_refused.kws K) (d_law_count_refused.ad K) fd → Binds K fd ["x", "k"] [] := fun fd F => FunD.bindsN (show FunD K d_law_count_refused.name d_law_count_refused.qual d_law_count_refused.params d_law_count_refused.body d_law_count_refused.scope [] (d_law_count_refused.kws K) (d_law_count_refused.ad K) fd from F) fun kV doc pm an cdv ct us h => match us, h with
  | [u0, u1], _ => rfl
theorem fo_cref (F : Fu K d_law_count_refused) (ff : FF P w K mg base C CD CC CT) (kx : KX K mg CS CD CC CT) (gh : GH P w K mg base C) (hi : ∃ fd, L2H.FnH P w K mg base (L2N.CX P w) 1 (d_law_is_integer.ad K) fd ["told"] spInt ∧ Binds K fd ["told"] []) :
    Fo P w K mg base 4 d_law_count_refused ["x", "k"] (spT (ι := Fr × Int) (fun i => (Ok 300 i.1 ∧ Sb 300 i.1.den ∧ Nat.gcd i.1.num.natAbs i.1.den.natAbs = 1) ∧ ¬ (0 ≤ i.2 ∧ i.2 ≤ 64)) (fun i => [⟨Fr, tFr C, i.1⟩, ⟨Int, tInt, i.2⟩])) := by
  refine Fo.of F S_law_count_refused (fun _ => rfl) B_law_count_refused ?_
  rintro ⟨x, k⟩ ⟨hx, hk⟩ cdv A outer sh H E hr
  have hN := S_law_count_refused.nd
  have q : ∀ o, rsPost C CC x k o → o = .exc ⟨CC, [("count", ⟨Int, tInt, k⟩)]⟩ [] [] := fun o h => by unfold rsPost at h; rwa [if_neg hk] at h
  refine sv_cons (s_try rfl rfl hN takesOf fun pn xe W' tk' _ => sv_one (s_exprX (ex_meth (fv V_law_count_refused_0 rfl) (fun I v ⟨a, dx, h1, h2⟩ => ⟨a, dx, _, h1, h2, rfl⟩) ff.kf.c ff.ko.rs (ea_cons (fv V_law_count_refused_1 rfl) ea_nil) (by exact ff.rs.cX tk' hr (x, k) hx rfl q)) ?_))
  refine ⟨.ref CC, true, 2, ⟨rfl, by decide, .inl kx.gC⟩, kx.mC, rfl, rfl, fun _ a d oe pn zn vs => ?_, fun z => absurd z (by decide)⟩
  refine sv_one (s_ret (x := true && (true && decide (k = k))) (ev_and (fe_isi (fv V_law_count_refused_2 rfl) (ev_glob kx.gS) (cv_isE kx.eC zn vs kx.kCS) ff.kf.isi rfl rfl rfl rfl) fun _ => ev_and (ev_call gh.gii gh.ii.kp (ea_cons (ev_xf (x := ⟨CC, [("count", ⟨Int, tInt, k⟩)]⟩) kx.xC kx.nC zn vs (by rfl) (fv V_law_count_refused_2 rfl)) ea_nil) (by exact cvH hi (L2H.RoomH.mk (hr.mono (show 1 ≤ 3 by decide)).dp (hr.mono (show 1 ≤ 3 by decide)).un) (hot_suite zn vs) k trivial rfl)) fun _ => ev_one (fe_cmp (ev_xf (x := ⟨CC, [("count", ⟨Int, tInt, k⟩)]⟩) kx.xC kx.nC zn vs (by rfl) (fv V_law_count_refused_2 rfl)) (fv V_law_count_refused_1 rfl) ov_eqI (by walk_at "mk"))) ?_)
  show (Out.ret _ _ : Out) = _
  simp
abbrev N_law_text_refused : List Str := ["text", "e"]
theorem S_law_text_refused : FnScope N_law_text_refused ["text"] d_law_text_refused.scope := ⟨by rfl, by rfl, by rfl, by decide, by rfl, by decide, by decide⟩
theorem V_law_text_refused_0 : VarOk N_law_text_refused d_law_text_refused.scope 0 "text" := ⟨by rfl, by first | exact Or.inl rfl | exact Or.inr (Or.inl rfl) | exact Or.inr (Or.inr rfl), by decide, by decide⟩
theorem V_law_text_refused_1 : VarOk N_law_text_refused d_law_text_refused.scope 1 "e" := ⟨by rfl, by first | exact Or.inl rfl | exact Or.inr (Or.inl rfl) | exact Or.inr (Or.inr rfl), by decide, by decide⟩
theorem B_law_text_refused {K : PySem.W.Frag} : ∀ fd, FunD K d_law_text_refused.name d_law_text_refused.qual d_law_text_refused.params d_law_text_refused.body d_law_text_refused.scope (d_law_text_refused.dvs K) (d_law_text_refused.kws K) (d_law_text_refused.ad K) fd → Binds K fd ["text"] [] := fun fd F => FunD.bindsN (show FunD K d_law_text_refused.name d_law_text_refused.qual d_law_text_refused.params d_law_text_refused.body d_law_text_refused.scope [] (d_law_text_refused.kws K) (d_law_text_refused.ad K) fd from F) fun kV doc pm an cdv ct us h => match us, h with
  | [u0], _ => rfl
theorem fo_tref (F : Fu K d_law_text_refused) (ff : FF P w K mg base C CD CC CT) (kx : KX K mg CS CD CC CT) :
    Fo P w K mg base 5 d_law_text_refused ["text"] (spT (ι := Str) (fun x => x.length ≤ 1000000 ∧ readM x = none) (fun x => [⟨Str, tStr, x⟩])) := by
  refine Fo.of F S_law_text_refused (fun _ => rfl) B_law_text_refused ?_
  rintro x ⟨hx, hn⟩ cdv A outer sh H E hr
  have hN := S_law_text_refused.nd
  have q : ∀ o, rdPost C CT x o → o = .exc ⟨CT, [("text", ⟨Str, tStr, x⟩)]⟩ [] [] := fun o h => by unfold rdPost at h; rwa [hn] at h
  refine sv_cons (s_try rfl rfl hN takesOf fun pn xe W' tk' _ => sv_one (s_exprX (ex_stat (fun _ => ev_glob ff.kf.gC) ff.ko.rd (ea_cons (fv V_law_text_refused_0 rfl) ea_nil) (by exact ff.read.cX tk' hr x hx rfl q)) ?_))
  refine ⟨.ref CT, true, 1, ⟨rfl, by decide, .inl kx.gT⟩, kx.mT, rfl, rfl, fun _ a d oe pn zn vs => ?_, fun z => absurd z (by decide)⟩
  refine sv_one (s_ret (x := true && (true && decide (x = x))) (ev_and (fe_isi (fv V_law_text_refused_1 rfl) (ev_glob kx.gS) (cv_isE kx.eT zn vs kx.kTS) ff.kf.isi rfl rfl rfl rfl) fun _ => ev_and (fe_isi (ev_xf (x := ⟨CT, [("text", ⟨Str, tStr, x⟩)]⟩) kx.xT kx.nT zn vs (by rfl) (fv V_law_text_refused_1 rfl)) (ev_ty kx.gs PyProof.Rows.Boot.«str») (cv_isiB tv_str (kit_ty (r := true) (by decide +kernel))) ff.kf.isi rfl rfl rfl rfl) fun _ => ev_one (fe_cmp (ev_xf (x := ⟨CT, [("text", ⟨Str, tStr, x⟩)]⟩) kx.xT kx.nT zn vs (by rfl) (fv V_law_text_refused_1 rfl)) (fv V_law_text_refused_0 rfl) ov_eqS (by walk_at "mk"))) ?_)
  show (Out.ret _ _ : Out) = _
  simp
end Lw
set_option maxHeartbeats 4000000
namespace Lw
open PySem PyProof.Rows L2 FL
local macro_rules | `(tactic| walk_at "mk") => `(tactic| first | exact nomark _ | rfl | (with_unfolding_all rfl))
local macro_rules | `(tactic| walk_at "ov") => `(tactic| first | exact ov_add | exact ov_sub | exact ov_lt | exact ov_le | exact ov_gt | exact ov_ge | exact ov_eqI | exact ov_neI | exact ov_eqB | exact ov_neB | exact ov_eqS | exact ov_neS | exact ov_mul (by assumption) | exact ov_fdiv (by assumption) | exact ov_mod (by assumption))
local macro_rules | `(tactic| walk_at "uv") => `(tactic| exact uv_neg)
local macro_rules | `(tactic| walk_at "ci") => `(tactic| first | exact cv_isiO (tv_own isIns (by assumption)) (by assumption) | exact cv_isiO tv_int (by assumption) | exact cv_isiB (tv_own isIns (by assumption)) (by assumption) | exact cv_isiB tv_int (kit_ty (r := true) (by decide +kernel)) | exact cv_isiB tv_int (kit_ty (r := false) (by decide +kernel)) | exact cv_isiB tv_bl (kit_ty (r := true) (by decide +kernel)) | exact cv_isiB tv_bl (kit_ty (r := false) (by decide +kernel)) | exact cv_isiB tv_str (kit_ty (r := true) (by decide +kernel)) | exact cv_isiB tv_str (kit_ty (r := false) (by decide +kernel)))

variable {P : Program} {w : World} {K : PySem.W.Frag} {mg : Str → Option Value} {base : Heap} {C CD CC CT CS : Addr}
structure Low (x : Fr) : Prop where
  o : Ok 300 x
  d : Sb 300 x.den
  c : Nat.gcd x.num.natAbs x.den.natAbs = 1
abbrev N_law_power : List Str := ["x", "t", "u", "k", "told", "top", "bottom", "j", "y"]
theorem S_law_power : FnScope N_law_power ["x", "t", "u", "k", "told"] d_law_power.scope := ⟨by rfl, by rfl, by rfl, by decide, by rfl, by decide, by decide⟩
theorem V_law_power_0 : VarOk N_law_power d_law_power.scope 0 "x" := ⟨by rfl, by first | exact Or.inl rfl | exact Or.inr (Or.inl rfl) | exact Or.inr (Or.inr rfl), by decide, by decide⟩
theorem V_law_power_1 : VarOk N_law_power d_law_power.scope 1 "t" := ⟨by rfl, by first | exact Or.inl rfl | exact Or.inr (Or.inl rfl) | exact Or.inr (Or.inr rfl), by decide, by decide⟩
theorem V_law_power_2 : VarOk N_law_power d_law_power.scope 2 "u" := ⟨by rfl, by first | exact Or.inl rfl | exact Or.inr (Or.inl rfl) | exact Or.inr (Or.inr rfl), by decide, by decide⟩
theorem V_law_power_3 : VarOk N_law_power d_law_power.scope 3 "k" := ⟨by rfl, by first | exact Or.inl rfl | exact Or.inr (Or.inl rfl) | exact Or.inr (Or.inr rfl), by decide, by decide⟩
theorem V_law_power_4 : VarOk N_law_power d_law_power.scope 4 "told" := ⟨by rfl, by first | exact Or.inl rfl | exact Or.inr (Or.inl rfl) | exact Or.inr (Or.inr rfl), by decide, by decide⟩
theorem V_law_power_5 : VarOk N_law_power d_law_power.scope 5 "top" := ⟨by rfl, by first | exact Or.inl rfl | exact Or.inr (Or.inl rfl) | exact Or.inr (Or.inr rfl), by decide, by decide⟩
theorem V_law_power_6 : VarOk N_law_power d_law_power.scope 6 "bottom" := ⟨by rfl, by first | exact Or.inl rfl | exact Or.inr (Or.inl rfl) | exact Or.inr (Or.inr rfl), by decide, by decide⟩
theorem V_law_power_7 : VarOk N_law_power d_law_power.scope 7 "j" := ⟨by rfl, by first | exact Or.inl rfl | exact Or.inr (Or.inl rfl) | exact Or.inr (Or.inr rfl), by decide, by decide⟩
theorem V_law_power_8 : VarOk N_law_power d_law_power.scope 8 "y" := ⟨by rfl, by first | exact Or.inl rfl | exact Or.inr (Or.inl rfl) | exact Or.inr (Or.inr rfl), by decide, by decide⟩
theorem B_law_power {K : PySem.W.Frag} : ∀ fd, FunD K d_law_power.name d_law_power.qual d_law_power.params d_law_power.body d_law_power.scope (d_law_power.dvs K) (d_law_power.kws K) (d_law_power.ad K) fd → Binds K fd ["x", "t", "u", "k", "told"] [] := fun fd F => FunD.bindsN (show FunD K d_law_power.name d_law_power.qual d_law_power.params d_law_power.body d_law_power.scope [] (d_law_power.kws K) (d_law_power.ad K) fd from F) fun kV doc pm an cdv ct us h => match us, h with
  | [u0, u1, u2, u3, u4], _ => rfl
theorem fo_power (F : Fu K d_law_power) (ff : FF P w K mg base C CD CC CT) (gh : GH P w K mg base C) (hrg : mg "range" = none) :
    Fo P w K mg base 4 d_law_power ["x", "t", "u", "k", "told"] (spT (ι := Fr × Int) (fun i => Low i.1 ∧ 0 ≤ i.2 ∧ i.2 ≤ 64) (fun i => [⟨Fr, tFr C, i.1⟩, ⟨Int, tInt, i.1.num⟩, ⟨Int, tInt, i.1.den⟩, ⟨Int, tInt, i.2⟩, ⟨Fr, tFr C, ⟨i.1.num ^ i.2.toNat, i.1.den ^ i.2.toNat⟩⟩])) := by
  refine Fo.of F S_law_power (fun _ => rfl) B_law_power ?_
  rintro ⟨x, k⟩ ⟨hx, hk⟩ cdv A outer s H E hr
  have hN := S_law_power.nd
  have hx : Low x := hx
  have hk : 0 ≤ k ∧ k ≤ 64 := hk
  have kf := ff.kf
  have ci := ff.kf.ci
  have kFF := ff.kf.kFF
  refine sv_cons (s_set 5 hN ev_int (sv_cons (s_set 6 hN ev_int ?_)))
  have loop : ∀ (n : Nat) (lo : Int) (m : Nat) (u : Option FV) (Φ : Out → Prop), m + n ≤ 64 → (∀ u, Φ (.next [some ⟨Fr, tFr C, x⟩, some ⟨Int, tInt, x.num⟩, some ⟨Int, tInt, x.den⟩, some ⟨Int, tInt, k⟩, some ⟨Fr, tFr C, ⟨x.num ^ k.toNat, x.den ^ k.toNat⟩⟩, some ⟨Int, tInt, x.num ^ (m + n)⟩, some ⟨Int, tInt, x.den ^ (m + n)⟩, u, none] [])) →
      LV (cxOf (L2N.CX P w) P w K mg base N_law_power d_law_power.qual d_law_power.scope (d_law_power.ad K) cdv A outer s H E) (fun cls d _ H' => E cls d H') 7 (match d_law_power.body[2]? with | some (Stmt.For _ _ b _ _) => b | _ => []) tInt Φ (rng lo n)
        [some ⟨Fr, tFr C, x⟩, some ⟨Int, tInt, x.num⟩, some ⟨Int, tInt, x.den⟩, some ⟨Int, tInt, k⟩, some ⟨Fr, tFr C, ⟨x.num ^ k.toNat, x.den ^ k.toNat⟩⟩, some ⟨Int, tInt, x.num ^ m⟩, some ⟨Int, tInt, x.den ^ m⟩, u, none] [] := by
    intro n
    induction n with
    | zero => intro lo m u Φ _ h; exact h u
    | succ n ih =>
      intro lo m u Φ hm h
      have b1 : Sb 20000 (x.num ^ m) := (pow_sb hx.o.n).mono (by omega)
      have b2 : Sb 20000 (x.den ^ m) := (pow_sb hx.d).mono (by omega)
      have m1 : CMulW (x.num ^ m) x.num := b1.cm hx.o.n
      have m2 : CMulW (x.den ^ m) x.den := b2.cm hx.d
      refine sv_cons (s_set 5 hN (fe_op (fv V_law_power_5 rfl) (fv V_law_power_1 rfl) (by walk_at "ov")) (sv_one (s_set 6 hN (fe_op (fv V_law_power_6 rfl) (fv V_law_power_2 rfl) (by walk_at "ov")) ?_)))
      have r := ih (lo + 1) (m + 1) (some ⟨Int, tInt, lo⟩) Φ (by omega) (fun u => by rw [show m + 1 + n = m + (n + 1) by omega]; exact h u)
      rw [Int.pow_succ, Int.pow_succ] at r
      exact r
  have l0 := fun Φ => loop k.toNat 0 0 none Φ (by omega)
  rw [Int.pow_zero, Int.pow_zero, Nat.zero_add] at l0
  refine sv_cons (s_for_r1 7 (passes_of rfl) rfl hN hrg (fv V_law_power_3 rfl) (l0 _ fun u => ?_) (by omega) (by omega))
  have hz : nrm (x.num ^ k.toNat) (x.den ^ k.toNat) = ⟨x.num ^ k.toNat, x.den ^ k.toNat⟩ := nrm_id (x := ⟨x.num ^ k.toNat, x.den ^ k.toNat⟩) (Int.pow_pos hx.o.p) (cop_pow hx.c _)
  have q : ∀ o, rsPost C CC x k o → o = .ret ⟨Fr, tFr C, ⟨x.num ^ k.toNat, x.den ^ k.toNat⟩⟩ [] := fun o h => by unfold rsPost at h; rw [if_pos hk, hz] at h; exact h
  generalize hzz : (⟨x.num ^ k.toNat, x.den ^ k.toNat⟩ : Fr) = z at *
  have zn : x.num ^ k.toNat = z.num := by rw [← hzz]
  have zd : x.den ^ k.toNat = z.den := by rw [← hzz]
  rw [zn, zd]
  have turn : ∀ (u v : Option FV) (Φ : Out → Prop) (Kn : Gm → Mem → Prop), (∀ u v, Kn [some ⟨Fr, tFr C, x⟩, some ⟨Int, tInt, x.num⟩, some ⟨Int, tInt, x.den⟩, some ⟨Int, tInt, k⟩, some ⟨Fr, tFr C, z⟩, some ⟨Int, tInt, z.num⟩, some ⟨Int, tInt, z.den⟩, u, v] []) →
      SV (cxOf (L2N.CX P w) P w K mg base N_law_power d_law_power.qual d_law_power.scope (d_law_power.ad K) cdv A outer s H E) (fun cls d _ H' => E cls d H') (match d_law_power.body[3]? with | some (Stmt.For _ _ b _ _) => b | _ => []) (List.set [some ⟨Fr, tFr C, x⟩, some ⟨Int, tInt, x.num⟩, some ⟨Int, tInt, x.den⟩, some ⟨Int, tInt, k⟩, some ⟨Fr, tFr C, z⟩, some ⟨Int, tInt, z.num⟩, some ⟨Int, tInt, z.den⟩, u, v] 8 (some ⟨Fr, tFr C, z⟩)) [] (Turn1 Φ Kn) := by
    intro u v Φ Kn h
    refine sv_cons (s_if (k := !true || (!true || !true)) (EW.t (ew_or (et_not (et_val (fe_isi (fv V_law_power_8 rfl) (ev_glob ff.kf.gC) (by walk_at "ci") kf.isi rfl rfl rfl rfl))) fun _ => ew_or (et_not (et_val (ev_call gh.gii gh.ii.kp (ea_cons (ev_num ff.kf.c ff.kf.n1 (fv V_law_power_8 rfl)) ea_nil) (by exact gh.ii.cP hr _ trivial rfl)))) fun _ => ew_or1 (et_not (et_val (ev_call gh.gii gh.ii.kp (ea_cons (ev_den ff.kf.c ff.kf.n2 (fv V_law_power_8 rfl)) ea_nil) (by exact gh.ii.cP hr _ trivial rfl)))))) (fun hk => absurd hk (by decide)) fun _ => sv_nil ?_)
    refine sv_one (s_if (EW.t (ew_or (ft_cmp (ev_num ff.kf.c ff.kf.n1 (fv V_law_power_8 rfl)) (fv V_law_power_5 rfl) (by walk_at "ov") (by walk_at "mk")) fun _ => ew_or1 (ft_cmp (ev_den ff.kf.c ff.kf.n2 (fv V_law_power_8 rfl)) (fv V_law_power_6 rfl) (by walk_at "ov") (by walk_at "mk")))) (fun hk => ?_) fun _ => sv_nil (h _ _))
    exfalso
    simp at hk
  refine sv_cons (s_for (xs := [z, z]) 8 (passes_of rfl) rfl hN ((EVN.frz (evn_list (ea_cons (ev_meth (T := tFr C) (x := x) (fv V_law_power_0 rfl) (fun I v ⟨a, dx, h1, h2⟩ => ⟨a, dx, _, h1, h2, rfl⟩) ff.kf.c ff.ko.rs (ea_cons (fv V_law_power_3 rfl) ea_nil) (by exact ff.rs.c0 hr (x, k) ⟨hx.o, hx.d, hx.c⟩ rfl q)) (ea_cons (fv V_law_power_4 rfl) ea_nil))) frz_het).as fun I v h => hl_ls (T := tFr C) (xs := [z, z]) h) ?_)
  refine turn u none _ _ fun u v => turn u v _ _ fun u v => ?_
  exact sv_one (s_ret ev_bl rfl)
def wrt (t u : Int) : Str := if u = 1 then toString t else ((toString t : Str) ++ ("/" : Str)) ++ toString u
abbrev N_law_written : List Str := ["t", "u"]
theorem S_law_written : FnScope N_law_written ["t", "u"] d_law_written.scope := ⟨by rfl, by rfl, by rfl, by decide, by rfl, by decide, by decide⟩
theorem V_law_written_0 : VarOk N_law_written d_law_written.scope 0 "t" := ⟨by rfl, by first | exact Or.inl rfl | exact Or.inr (Or.inl rfl) | exact Or.inr (Or.inr rfl), by decide, by decide⟩
theorem V_law_written_1 : VarOk N_law_written d_law_written.scope 1 "u" := ⟨by rfl, by first | exact Or.inl rfl | exact Or.inr (Or.inl rfl) | exact Or.inr (Or.inr rfl), by decide, by decide⟩
theorem B_law_written {K : PySem.W.Frag} : ∀ fd, FunD K d_law_written.name d_law_written.qual d_law_written.params d_law_written.body d_law_written.scope (d_law_written.dvs K) (d_law_written.kws K) (d_law_written.ad K) fd → Binds K fd ["t", "u"] [] := fun fd F => FunD.bindsN (show FunD K d_law_written.name d_law_written.qual d_law_written.params d_law_written.body d_law_written.scope [] (d_law_written.kws K) (d_law_written.ad K) fd from F) fun kV doc pm an cdv ct us h => match us, h with
  | [u0, u1], _ => rfl
theorem fo_written (F : Fu K d_law_written) (hs : mg "str" = none) : Fo P w K mg base 1 d_law_written ["t", "u"] (spP (ι := Int × Int) (fun i => Sb 1400 i.1 ∧ Sb 1400 i.2) (fun i => [⟨Int, tInt, i.1⟩, ⟨Int, tInt, i.2⟩]) (fun _ => tStr) (fun i => wrt i.1 i.2)) := by
  refine Fo.of F S_law_written (fun _ => rfl) B_law_written ?_
  rintro ⟨t, u⟩ ⟨ht, hu⟩ cdv A outer s H E hr
  have ht : Sb 1400 t := ht
  have hu : Sb 1400 u := hu
  have l1 : t.natAbs.log2 < 1920 := Nat.lt_of_lt_of_le (PySem.Flt.log2_lt_of (by decide) ht) (by decide)
  have l2 : u.natAbs.log2 < 1920 := Nat.lt_of_lt_of_le (PySem.Flt.log2_lt_of (by decide) hu) (by decide)
  have z1 := str_len ht
  have z2 := str_len hu
  have hsl : sizeLine = 16777216 := sizeLine_eq
  refine sv_cons (s_if (ft_cmp (fv V_law_written_1 rfl) ev_int (by walk_at "ov") (by walk_at "mk")) (fun hk => ?_) fun hk => sv_nil ?_)
  · have hk : u = 1 := of_decide_eq_true hk
    refine sv_one (s_ret (ev_callTy hs PyProof.Rows.Boot.«str» (ea_cons (fv V_law_written_0 rfl) ea_nil) (cv_str (by assumption))) ?_)
    show (Out.ret ⟨Str, tStr, _⟩ [] : Out) = Out.ret ⟨Str, tStr, wrt t u⟩ []
    unfold wrt
    rw [if_pos hk]
  · have hk : ¬ u = 1 := of_decide_eq_false hk
    have y1 : (toString t : Str).length + ("/" : Str).length ≤ sizeLine := by rw [hsl]; show (toString t : Str).length + 1 ≤ _; omega
    have y2 : ((toString t : Str) ++ ("/" : Str)).length + (toString u : Str).length ≤ sizeLine := by
      have : ((toString t : Str) ++ ("/" : Str)).length = (toString t : Str).length + 1 := Array.size_append
      rw [hsl, this]; omega
    refine sv_one (s_ret (fe_op (fe_op (ev_callTy hs PyProof.Rows.Boot.«str» (ea_cons (fv V_law_written_0 rfl) ea_nil) (cv_str (by assumption))) ev_str (ov_addS y1)) (ev_callTy hs PyProof.Rows.Boot.«str» (ea_cons (fv V_law_written_1 rfl) ea_nil) (cv_str (by assumption))) (ov_addS y2)) ?_)
    show (Out.ret ⟨Str, tStr, _⟩ [] : Out) = Out.ret ⟨Str, tStr, wrt t u⟩ []
    unfold wrt
    rw [if_neg hk]
abbrev N_law_reads : List Str := ["text", "t", "u", "told"]
theorem S_law_reads : FnScope N_law_reads ["text", "t", "u"] d_law_reads.scope := ⟨by rfl, by rfl, by rfl, by decide, by rfl, by decide, by decide⟩
theorem V_law_reads_0 : VarOk N_law_reads d_law_reads.scope 0 "text" := ⟨by rfl, by first | exact Or.inl rfl | exact Or.inr (Or.inl rfl) | exact Or.inr (Or.inr rfl), by decide, by decide⟩
theorem V_law_reads_1 : VarOk N_law_reads d_law_reads.scope 1 "t" := ⟨by rfl, by first | exact Or.inl rfl | exact Or.inr (Or.inl rfl) | exact Or.inr (Or.inr rfl), by decide, by decide⟩
theorem V_law_reads_2 : VarOk N_law_reads d_law_reads.scope 2 "u" := ⟨by rfl, by first | exact Or.inl rfl | exact Or.inr (Or.inl rfl) | exact Or.inr (Or.inr rfl), by decide, by decide⟩
theorem V_law_reads_3 : VarOk N_law_reads d_law_reads.scope 3 "told" := ⟨by rfl, by first | exact Or.inl rfl | exact Or.inr (Or.inl rfl) | exact Or.inr (Or.inr rfl), by decide, by decide⟩
theorem B_law_reads {K : PySem.W.Frag} : ∀ fd, FunD K d_law_reads.name d_law_reads.qual d_law_reads.params d_law_reads.body d_law_reads.scope (d_law_reads.dvs K) (d_law_reads.kws K) (d_law_reads.ad K) fd → Binds K fd ["text", "t", "u"] [] := fun fd F => FunD.bindsN (show FunD K d_law_reads.name d_law_reads.qual d_law_reads.params d_law_reads.body d_law_reads.scope [] (d_law_reads.kws K) (d_law_reads.ad K) fd from F) fun kV doc pm an cdv ct us h => match us, h with
  | [u0, u1, u2], _ => rfl
theorem fo_reads (F : Fu K d_law_reads) (ff : FF P w K mg base C CD CC CT) (gh : GH P w K mg base C) (hs : mg "str" = none) : Fo P w K mg base 5 d_law_reads ["text", "t", "u"] (spT (ι := Str × Fr × Int × Int) (fun i => i.1.length ≤ 1000000 ∧ readM i.1 = some i.2.1 ∧ strF i.2.1 = i.1 ∧ Low i.2.1 ∧ IsF i.2.1 i.2.2.1 i.2.2.2) (fun i => [⟨Str, tStr, i.1⟩, ⟨Int, tInt, i.2.2.1⟩, ⟨Int, tInt, i.2.2.2⟩])) := by
  refine Fo.of F S_law_reads (fun _ => rfl) B_law_reads ?_
  rintro ⟨x, f, t, u⟩ ⟨hl, hx, hs', ho, hf⟩ cdv A outer s H E hr
  have hN := S_law_reads.nd
  have ho : Low f := ho
  have hs' : strF f = x := hs'
  have hx : readM x = some f := hx
  have q : ∀ o, rdPost C CT x o → o = .ret ⟨Fr, tFr C, f⟩ [] := fun o h => by unfold rdPost at h; rw [hx] at h; exact h
  refine sv_cons (s_set 3 hN (ev_stat (fun _ => ev_glob ff.kf.gC) ff.ko.rd (ea_cons (fv V_law_reads_0 rfl) ea_nil) (by exact ff.read.c0 hr x hl rfl q)) ?_)
  refine sv_one (s_ret (x := true && decide (strF f = x)) (ev_and (ev_call gh.gif gh.isf.kp (ea_cons (fv V_law_reads_3 rfl) (ea_cons (fv V_law_reads_1 rfl) (ea_cons (fv V_law_reads_2 rfl) ea_nil))) (by exact gh.isf.cP hr (f, t, u) hf rfl)) fun _ => ev_one (fe_cmp (ev_callTy hs PyProof.Rows.Boot.«str» (ea_cons (fv V_law_reads_3 rfl) ea_nil) (cv_strO (Nat.lt_trans (Nat.add_lt_add_left (show 2 < 64 by decide) _) hr.units) isIns ff.ko.str (by exact ff.str.cP (j := 2) hr.in1.in1 f (ho.o.mono (by decide)) rfl))) (fv V_law_reads_0 rfl) ov_eqS (by walk_at "mk"))) ?_)
  show (Out.ret ⟨Bool, tBl, true && decide (strF f = x)⟩ [] : Out) = Out.ret ⟨Bool, tBl, true⟩ []
  rw [hs']
  simp
end Lw
set_option maxHeartbeats 4000000
namespace Lw
open PySem PyProof.Rows L2 FL
local macro_rules | `(tactic| walk_at "mk") => `(tactic| first | exact nomark _ | rfl | (with_unfolding_all rfl))
local macro_rules | `(tactic| walk_at "ov") => `(tactic| first | exact ov_add | exact ov_sub | exact ov_lt | exact ov_le | exact ov_gt | exact ov_ge | exact ov_eqI | exact ov_neI | exact ov_eqB | exact ov_neB | exact ov_eqS | exact ov_neS | exact ov_mul (by assumption) | exact ov_fdiv (by assumption) | exact ov_mod (by assumption))
local macro_rules | `(tactic| walk_at "uv") => `(tactic| exact uv_neg)
local macro_rules | `(tactic| walk_at "ci") => `(tactic| first | exact cv_isiO (tv_own isIns (by assumption)) (by assumption) | exact cv_isiO tv_int (by assumption) | exact cv_isiB (tv_own isIns (by assumption)) (by assumption) | exact cv_isiB tv_int (kit_ty (r := true) (by decide +kernel)) | exact cv_isiB tv_int (kit_ty (r := false) (by decide +kernel)) | exact cv_isiB tv_bl (kit_ty (r := true) (by decide +kernel)) | exact cv_isiB tv_bl (kit_ty (r := false) (by decide +kernel)) | exact cv_isiB tv_str (kit_ty (r := true) (by decide +kernel)) | exact cv_isiB tv_str (kit_ty (r := false) (by decide +kernel)))

variable {P : Program} {w : World} {K : PySem.W.Frag} {mg : Str → Option Value} {base : Heap} {C CD CC CT CS : Addr}
section
variable {X : Cx} {W : WX} {Γ : Gm} {M : Mem} {a b : Expr} {e : Expr} {p pos p2 : Pos} {j : Nat} {k d : Bool} {A B : List Stmt} {Φ : Out → Prop}
theorem et_truth (gh : GH P w K mg base C) (at5 : At5 X P w K mg base) (hr : Room j X.A) (hj : 1 ≤ j) (h : EV X a Γ M tBl k M) (hb : EV X b Γ M tBl d M) (h1 : starEach [a, b] X.env = (false, eval a X.env) :: starEach [b] X.env) (h2 : starEach [b] X.env = (false, eval b X.env) :: starEach [] X.env) (hpl : (backTo p (starEach [b] X.env)).any (·.1) = false) (hg : Gl X "_law_is_truth") :
    EV X (.Call (.Name "_law_is_truth" p2) [a, b] [] p) Γ M tBl (decide (k = d)) M := by
  obtain ⟨rfl, rfl, rfl, rfl, rfl⟩ := at5
  exact ev_call gh.git gh.tr.kp (ea_cons h (ea_cons hb ea_nil h2) h1) (gh.tr.cvP hr (k, d) trivial rfl hj) hg (by decide) h1 hpl
end
structure EqOk (x y : Fr) (n p q : Int) : Prop where
  ne : ¬ (x.num = y.num ∧ x.den = y.den)
  iff : p = n * q ↔ (x.num = n ∧ x.den = 1)
  q0 : 0 < q
  q : Sb 250 q
  n : Sb 250 n
theorem nrm_unit {d : Int} (h : 0 < d) : nrm 1 d = ⟨1, d⟩ := nrm_id (x := ⟨1, d⟩) h (Nat.gcd_one_left _)
abbrev N_law_equalities : List Str := ["one", "same", "apart", "n", "p", "q"]
theorem S_law_equalities : FnScope N_law_equalities ["one", "same", "apart", "n", "p", "q"] d_law_equalities.scope := ⟨by rfl, by rfl, by rfl, by decide, by rfl, by decide, by decide⟩
theorem V_law_equalities_0 : VarOk N_law_equalities d_law_equalities.scope 0 "one" := ⟨by rfl, by first | exact Or.inl rfl | exact Or.inr (Or.inl rfl) | exact Or.inr (Or.inr rfl), by decide, by decide⟩
theorem V_law_equalities_1 : VarOk N_law_equalities d_law_equalities.scope 1 "same" := ⟨by rfl, by first | exact Or.inl rfl | exact Or.inr (Or.inl rfl) | exact Or.inr (Or.inr rfl), by decide, by decide⟩
theorem V_law_equalities_2 : VarOk N_law_equalities d_law_equalities.scope 2 "apart" := ⟨by rfl, by first | exact Or.inl rfl | exact Or.inr (Or.inl rfl) | exact Or.inr (Or.inr rfl), by decide, by decide⟩
theorem V_law_equalities_3 : VarOk N_law_equalities d_law_equalities.scope 3 "n" := ⟨by rfl, by first | exact Or.inl rfl | exact Or.inr (Or.inl rfl) | exact Or.inr (Or.inr rfl), by decide, by decide⟩
theorem V_law_equalities_4 : VarOk N_law_equalities d_law_equalities.scope 4 "p" := ⟨by rfl, by first | exact Or.inl rfl | exact Or.inr (Or.inl rfl) | exact Or.inr (Or.inr rfl), by decide, by decide⟩
theorem V_law_equalities_5 : VarOk N_law_equalities d_law_equalities.scope 5 "q" := ⟨by rfl, by first | exact Or.inl rfl | exact Or.inr (Or.inl rfl) | exact Or.inr (Or.inr rfl), by decide, by decide⟩
theorem B_law_equalities {K : PySem.W.Frag} : ∀ fd, FunD K d_law_equalities.name d_law_equalities.qual d_law_equalities.params d_law_equalities.body d_law_equalities.scope (d_law_equalities.dvs K) (d_law_equalities.kws K) (d_law_equalities.ad K) fd → Binds K fd ["one", "same", "apart", "n", "p", "q"] [] := fun fd F => FunD.bindsN (show FunD K d_law_equalities.name d_law_equalities.qual d_law_equalities.params d_law_equalities.body d_law_equalities.scope [] (d_law_equalities.kws K) (d_law_equalities.ad K) fd from F) fun kV doc pm an cdv ct us h => match us, h with
  | [u0, u1, u2, u3, u4, u5], _ => rfl
theorem fo_equalities (F : Fu K d_law_equalities) (ff : FF P w K mg base C CD CC CT) (gh : GH P w K mg base C) :
    Fo P w K mg base 5 d_law_equalities ["one", "same", "apart", "n", "p", "q"] (spT (ι := Fr × Fr × Int × Int × Int) (fun i => EqOk i.1 i.2.1 i.2.2.1 i.2.2.2.1 i.2.2.2.2) (fun i => [⟨Fr, tFr C, i.1⟩, ⟨Fr, tFr C, i.1⟩, ⟨Fr, tFr C, i.2.1⟩, ⟨Int, tInt, i.2.2.1⟩, ⟨Int, tInt, i.2.2.2.1⟩, ⟨Int, tInt, i.2.2.2.2⟩])) := by
  refine Fo.of F S_law_equalities (fun _ => rfl) B_law_equalities ?_
  rintro ⟨x, y, n, p, q⟩ hh cdv A outer s H E hr
  have hh : EqOk x y n p q := hh
  have m1 : CMulW n q := hh.n.cm hh.q
  have at5 : At5 (cxOf (L2N.CX P w) P w K mg base N_law_equalities d_law_equalities.qual d_law_equalities.scope (d_law_equalities.ad K) cdv A outer s H E) P w K mg base := ⟨rfl, rfl, rfl, rfl, rfl⟩
  have eqv : ∀ (u v : Fr) (Mm : Mem), OV (cxOf (L2N.CX P w) P w K mg base N_law_equalities d_law_equalities.qual d_law_equalities.scope (d_law_equalities.ad K) cdv A outer s H E) (compareOp .Eq) Mm (tFr C) u (tFr C) v tBl (eqN u (.inl v)) Mm := fun u v Mm => ov_cmpO op_rcEq hr.units0 isIns isIns ff.ko.eq (by exact ff.eq.cP hr (u, .inl v) trivial rfl)
  have nev : ∀ (u v : Fr) (Mm : Mem), OV (cxOf (L2N.CX P w) P w K mg base N_law_equalities d_law_equalities.qual d_law_equalities.scope (d_law_equalities.ad K) cdv A outer s H E) (compareOp .NotEq) Mm (tFr C) u (tFr C) v tBl (!eqN u (.inl v)) Mm := fun u v Mm => ov_neO (Nat.lt_trans (Nat.add_lt_add_left (show 1 < 64 by decide) _) hr.units) isIns isIns ff.ko.ne (by exact ff.eq.cP (j := 3) hr.in1 (u, .inl v) trivial rfl)
  have e1 : eqN x (.inl x) = true := by simp [eqN]
  have e2 : eqN x (.inl y) = false := by
    simp only [eqN, Bool.and_eq_false_iff, decide_eq_false_iff_not]
    exact Decidable.not_and_iff_or_not.mp hh.ne
  have q1 : 0 < q + 1 := by have := hh.q0; omega
  have q2 : 0 < q + 2 := by have := hh.q0; omega
  have bq : Sb 260 q := hh.q.mono (by decide)
  have hg1 := log_ok (n := 1) (d := q + 1) ((bq.add (sb_lit (i := 1) (b := 260) (Nat.one_lt_two_pow (by decide)))).mono (by decide)) (by omega)
  have hg2 := log_ok (n := 1) (d := q + 2) ((bq.add (sb_lit (i := 2) (b := 260) (by decide))).mono (by decide)) (by omega)
  have e3 : eqN (nrm 1 (q + 1)) (.inl (nrm 1 (q + 2))) = false := by
    rw [nrm_unit q1, nrm_unit q2]
    simp [eqN]
  have e4 : eqN ⟨n, 1⟩ (.inl ⟨n, 1⟩) = true := by simp [eqN]
  have e5 : eqN ⟨n, 1⟩ (.inl ⟨n + 1, 1⟩) = false := by
    simp [eqN]
    omega
  have e6 : eqN x (.inl ⟨n, 1⟩) = decide (p = n * q) := by
    show (decide (x.num = n) && decide (x.den = 1)) = _
    rw [← Bool.decide_and]
    exact decide_eq_decide.mpr hh.iff.symm
  refine sv_cons (s_if (EW.t (ew_or (et_not (et_val (et_truth gh at5 hr (by decide) (fe_cmp (fv V_law_equalities_0 rfl) (fv V_law_equalities_1 rfl) (eqv x x []) (by walk_at "mk")) ev_bl rfl rfl rfl rfl))) fun _ => ew_or1 (et_not (et_val (et_truth gh at5 hr (by decide) (fe_cmp (fv V_law_equalities_0 rfl) (fv V_law_equalities_1 rfl) (nev x x []) (by walk_at "mk")) ev_bl rfl rfl rfl rfl))))) (fun hk => ?_) fun _ => sv_nil ?_)
  · exfalso; rw [e1] at hk; exact absurd hk (by decide)
  refine sv_cons (s_if (EW.t (ew_or (et_not (et_val (et_truth gh at5 hr (by decide) (fe_cmp (fv V_law_equalities_0 rfl) (fv V_law_equalities_2 rfl) (eqv x y []) (by walk_at "mk")) ev_bl rfl rfl rfl rfl))) fun _ => ew_or1 (et_not (et_val (et_truth gh at5 hr (by decide) (fe_cmp (fv V_law_equalities_0 rfl) (fv V_law_equalities_2 rfl) (nev x y []) (by walk_at "mk")) ev_bl rfl rfl rfl rfl))))) (fun hk => ?_) fun _ => sv_nil ?_)
  · exfalso; rw [e2] at hk; exact absurd hk (by decide)
  refine sv_cons (s_if (et_not (et_val (et_truth gh at5 hr (by decide) (fe_cmp (ev_frac2 ff.fi hr (ea_cons ev_int (ea_cons (fe_op (fv V_law_equalities_5 rfl) ev_int (by walk_at "ov")) ea_nil)) (by omega) hg1) (ev_frac2 ff.fi hr (ea_cons ev_int (ea_cons (fe_op (fv V_law_equalities_5 rfl) ev_int (by walk_at "ov")) ea_nil)) (by omega) hg2) (eqv _ _ []) (by walk_at "mk")) ev_bl rfl rfl rfl rfl))) (fun hk => ?_) fun _ => sv_nil ?_)
  · exfalso; rw [e3] at hk; exact absurd hk (by decide)
  have mth : ∀ (u : Fr) (v : Fr ⊕ Int) (Mm : Mem), CV (cxOf (L2N.CX P w) P w K mg base N_law_equalities d_law_equalities.qual d_law_equalities.scope (d_law_equalities.ad K) cdv A outer s H E) (.ref (d_Frac_equals.ad K)) [⟨Fr, tFr C, u⟩, nmV C v] Mm tBl (eqN u (.inl (toF v))) Mm := fun u v Mm => ff.eqs.cP hr (u, v) trivial rfl
  have hT : ∀ (u : Fr) (I : Hp) (v : V), (tFr C).r I v u → ∃ a dx fs, v = .ref a ∧ I a = some (.ins C dx fs) ∧ fs.lookup ("equals" : Str) = none := fun u I v ⟨a, dx, h1, h2⟩ => ⟨a, dx, _, h1, h2, rfl⟩
  refine sv_cons (s_if (et_not (et_val (et_truth gh at5 hr (by decide) (ev_meth (fv V_law_equalities_0 rfl) (hT x) ff.kf.c ff.ko.eqs (ea_cons (fv V_law_equalities_1 rfl) ea_nil) (mth x (.inl x) [])) ev_bl rfl rfl rfl rfl))) (fun hk => ?_) fun _ => sv_nil ?_)
  · exfalso; rw [show eqN x (.inl (toF (.inl x))) = true from e1] at hk; exact absurd hk (by decide)
  refine sv_cons (s_if (et_not (et_val (et_truth gh at5 hr (by decide) (ev_meth (fv V_law_equalities_0 rfl) (hT x) ff.kf.c ff.ko.eqs (ea_cons (fv V_law_equalities_2 rfl) ea_nil) (mth x (.inl y) [])) ev_bl rfl rfl rfl rfl))) (fun hk => ?_) fun _ => sv_nil ?_)
  · exfalso; rw [show eqN x (.inl (toF (.inl y))) = false from e2] at hk; exact absurd hk (by decide)
  refine sv_cons (s_if (et_not (et_val (et_truth gh at5 hr (by decide) (ev_meth (fv V_law_equalities_0 rfl) (hT x) ff.kf.c ff.ko.eqs (ea_cons (fv V_law_equalities_3 rfl) ea_nil) (mth x (.inr n) [])) (fe_cmp (fv V_law_equalities_4 rfl) (fe_op (fv V_law_equalities_3 rfl) (fv V_law_equalities_5 rfl) (by walk_at "ov")) (by walk_at "ov") (by walk_at "mk")) rfl rfl rfl rfl))) (fun hk => ?_) fun _ => sv_nil ?_)
  · exfalso; rw [show eqN x (.inl (toF (.inr n))) = decide (p = n * q) from e6] at hk; simp at hk
  refine sv_cons (s_if (et_not (et_val (et_truth gh at5 hr (by decide) (ev_meth (ev_frac1 ff.fi hr (ea_cons (fv V_law_equalities_3 rfl) ea_nil)) (hT ⟨n, 1⟩) ff.kf.c ff.ko.eqs (ea_cons (fv V_law_equalities_3 rfl) ea_nil) (mth ⟨n, 1⟩ (.inr n) [])) ev_bl rfl rfl rfl rfl))) (fun hk => ?_) fun _ => sv_nil ?_)
  · exfalso; rw [show eqN ⟨n, 1⟩ (.inl (toF (.inr n))) = true from e4] at hk; exact absurd hk (by decide)
  refine sv_one (s_ret (ev_and (et_truth gh at5 hr (by decide) (ev_meth (ev_frac1 ff.fi hr (ea_cons (fv V_law_equalities_3 rfl) ea_nil)) (hT ⟨n, 1⟩) ff.kf.c ff.ko.eqs (ea_cons (fe_op (fv V_law_equalities_3 rfl) ev_int (by walk_at "ov")) ea_nil) (mth ⟨n, 1⟩ (.inr (n + 1)) [])) ev_bl rfl rfl rfl rfl) fun _ => ev_one (et_truth gh at5 hr (by decide) (fe_cmp (ev_frac1 ff.fi hr (ea_cons (fv V_law_equalities_3 rfl) ea_nil)) (fv V_law_equalities_3 rfl) (ov_cmpOI op_rcEq hr.units0 isIns ff.ko.eq (by exact ff.eq.cP hr (⟨n, 1⟩, .inr n) trivial rfl)) (by walk_at "mk")) ev_bl rfl rfl rfl rfl)) ?_)
  show (Out.ret ⟨Bool, tBl, decide (eqN ⟨n, 1⟩ (.inl ⟨n + 1, 1⟩) = false) && decide (eqN ⟨n, 1⟩ (.inr n) = false)⟩ [] : Out) = Out.ret ⟨Bool, tBl, true⟩ []
  rw [e5]
  rfl
end Lw
set_option maxHeartbeats 4000000
namespace Lw
open PySem PyProof.Rows L2 FL
local macro_rules | `(tactic| walk_at "mk") => `(tactic| first | exact nomark _ | rfl | (with_unfolding_all rfl))
local macro_rules | `(tactic| walk_at "ov") => `(tactic| first | exact ov_add | exact ov_sub | exact ov_lt | exact ov_le | exact ov_gt | exact ov_ge | exact ov_eqI | exact ov_neI | exact ov_eqB | exact ov_neB | exact ov_eqS | exact ov_neS | exact ov_mul (by assumption) | exact ov_fdiv (by assumption) | exact ov_mod (by assumption))
local macro_rules | `(tactic| walk_at "uv") => `(tactic| exact uv_neg)
local macro_rules | `(tactic| walk_at "ci") => `(tactic| first | exact cv_isiO (tv_own isIns (by assumption)) (by assumption) | exact cv_isiO tv_int (by assumption) | exact cv_isiB (tv_own isIns (by assumption)) (by assumption) | exact cv_isiB tv_int (kit_ty (r := true) (by decide +kernel)) | exact cv_isiB tv_int (kit_ty (r := false) (by decide +kernel)) | exact cv_isiB tv_bl (kit_ty (r := true) (by decide +kernel)) | exact cv_isiB tv_bl (kit_ty (r := false) (by decide +kernel)) | exact cv_isiB tv_str (kit_ty (r := true) (by decide +kernel)) | exact cv_isiB tv_str (kit_ty (r := false) (by decide +kernel)))

variable {P : Program} {w : World} {K : PySem.W.Frag} {mg : Str → Option Value} {base : Heap} {C CD CC CT CS : Addr}
abbrev spZref (C : Addr) : Sp := spT (ι := Int × (Fr ⊕ Int) × (Fr ⊕ Int)) (fun i => ZOk i.1 i.2.1 i.2.2) (fun i => [⟨Int, tInt, i.1⟩, nmV C i.2.1, nmV C i.2.2])
abbrev N_law_zeros : List Str := ["one", "n", "zero", "way"]
theorem S_law_zeros : FnScope N_law_zeros ["one", "n"] d_law_zeros.scope := ⟨by rfl, by rfl, by rfl, by decide, by rfl, by decide, by decide⟩
theorem V_law_zeros_0 : VarOk N_law_zeros d_law_zeros.scope 0 "one" := ⟨by rfl, by first | exact Or.inl rfl | exact Or.inr (Or.inl rfl) | exact Or.inr (Or.inr rfl), by decide, by decide⟩
theorem V_law_zeros_1 : VarOk N_law_zeros d_law_zeros.scope 1 "n" := ⟨by rfl, by first | exact Or.inl rfl | exact Or.inr (Or.inl rfl) | exact Or.inr (Or.inr rfl), by decide, by decide⟩
theorem V_law_zeros_2 : VarOk N_law_zeros d_law_zeros.scope 2 "zero" := ⟨by rfl, by first | exact Or.inl rfl | exact Or.inr (Or.inl rfl) | exact Or.inr (Or.inr rfl), by decide, by decide⟩
theorem V_law_zeros_3 : VarOk N_law_zeros d_law_zeros.scope 3 "way" := ⟨by rfl, by first | exact Or.inl rfl | exact Or.inr (Or.inl rfl) | exact Or.inr (Or.inr rfl), by decide, by decide⟩
theorem B_law_zeros {K : PySem.W.Frag} : ∀ fd, FunD K d_law_zeros.name d_law_zeros.qual d_law_zeros.params d_law_zeros.body d_law_zeros.scope (d_law_zeros.dvs K) (d_law_zeros.kws K) (d_law_zeros.ad K) fd → Binds K fd ["one", "n"] [] := fun fd F => FunD.bindsN (show FunD K d_law_zeros.name d_law_zeros.qual d_law_zeros.params d_law_zeros.body d_law_zeros.scope [] (d_law_zeros.kws K) (d_law_zeros.ad K) fd from F) fun kV doc pm an cdv ct us h => match us, h with
  | [u0, u1], _ => rfl
theorem fo_zeros (F : Fu K d_law_zeros) (ff : FF P w K mg base C CD CC CT) (gzr : mg "_law_zero_refused" = some (.ref (d_law_zero_refused.ad K))) (zr : Fo P w K mg base 6 d_law_zero_refused ["way", "x", "y"] (spZref C)) (hrg : mg "range" = none) :
    Fo P w K mg base 7 d_law_zeros ["one", "n"] (spT (ι := Fr × Int) (fun i => Ok 1400 i.1 ∧ Sb 1400 i.2) (fun i => [⟨Fr, tFr C, i.1⟩, ⟨Int, tInt, i.2⟩])) := by
  refine Fo.of F S_law_zeros (fun _ => rfl) B_law_zeros ?_
  rintro ⟨x, n⟩ ⟨hx, hn⟩ cdv A outer s H E hr
  have hN := S_law_zeros.nd
  have hx : Ok 1400 x := hx
  have hn : Sb 1400 n := hn
  have z01 : Ok 1400 ⟨0, 1⟩ := ok_int (sb_lit (i := 0) (b := 1400) (Nat.two_pow_pos _))
  have zok : ∀ (v : Fr ⊕ Int) (way : Int), toF v = ⟨0, 1⟩ → (way = 0 ∨ way = 1 ∨ way = 2) → ZOk way (.inl x) v := fun v way hv hw => by
    refine ⟨by rw [hv], ?_⟩
    rcases hw with h | h | h
    · exact .inl ⟨.inl h, (fun i j z => by cases z.1), hx.mono (by decide), (by unfold OkN; rw [hv]; exact z01.mono (by decide))⟩
    · exact .inl ⟨.inr h, (fun i j z => by cases z.1), hx.mono (by decide), (by unfold OkN; rw [hv]; exact z01.mono (by decide))⟩
    · exact .inr (.inl ⟨h, ⟨x, rfl, hx⟩, by unfold OkN; rw [hv]; exact z01⟩)
  have zok2 : ∀ (way : Int), (way = 0 ∨ way = 1) → ZOk way (.inr n) (.inl ⟨0, 1⟩) := fun way hw => ⟨rfl, .inl ⟨hw, (fun i j z => by cases z.2), ok_int (hn.mono (by decide)), z01.mono (by decide)⟩⟩
  have inner : ∀ (v : Fr ⊕ Int) (hv : toF v = ⟨0, 1⟩) (u : Option FV) (Φ : Out → Prop) (Kn : Gm → Mem → Prop), (∀ u, Kn [some ⟨Fr, tFr C, x⟩, some ⟨Int, tInt, n⟩, some (nmV C v), u] []) →
      SV (cxOf (L2N.CX P w) P w K mg base N_law_zeros d_law_zeros.qual d_law_zeros.scope (d_law_zeros.ad K) cdv A outer s H E) (fun cls d _ H' => E cls d H') (match d_law_zeros.body[0]? with | some (Stmt.For _ _ b _ _) => b | _ => []) [some ⟨Fr, tFr C, x⟩, some ⟨Int, tInt, n⟩, some (nmV C v), u] [] (Turn1 Φ Kn) := by
    intro v hv u Φ Kn h
    have step : ∀ (way : Int) (u : Option FV) (Φ2 : Out → Prop) (K2 : Gm → Mem → Prop), (way = 0 ∨ way = 1 ∨ way = 2) → K2 [some ⟨Fr, tFr C, x⟩, some ⟨Int, tInt, n⟩, some (nmV C v), some ⟨Int, tInt, way⟩] [] →
        SV (cxOf (L2N.CX P w) P w K mg base N_law_zeros d_law_zeros.qual d_law_zeros.scope (d_law_zeros.ad K) cdv A outer s H E) (fun cls d _ H' => E cls d H') (match d_law_zeros.body[0]? with | some (Stmt.For _ _ [.For _ _ b _ _] _ _) => b | _ => []) [some ⟨Fr, tFr C, x⟩, some ⟨Int, tInt, n⟩, some (nmV C v), some ⟨Int, tInt, way⟩] [] (Turn1 Φ2 K2) := fun way u Φ2 K2 hw hk =>
      sv_one (s_if (k := !true) (et_not (et_val (ev_call gzr zr.kp (ea_cons (fv V_law_zeros_3 rfl) (ea_cons (fv V_law_zeros_0 rfl) (ea_cons (fv V_law_zeros_2 rfl) ea_nil))) (by exact zr.cP hr (way, .inl x, v) (zok v way hv hw) rfl)))) (fun z => absurd z (by decide)) fun _ => sv_nil hk)
    refine sv_one (s_for_r1 3 (passes_of rfl) rfl hN hrg ev_int ?_ (by decide) (by decide))
    refine step 0 u _ _ (.inl rfl) ?_
    refine step 1 (some ⟨Int, tInt, 0⟩) _ _ (.inr (.inl rfl)) ?_
    refine step 2 (some ⟨Int, tInt, 1⟩) _ _ (.inr (.inr rfl)) ?_
    exact h _
  refine sv_cons (s_forH (ts := [⟨Int, tInt, 0⟩, ⟨Fr, tFr C, ⟨0, 1⟩⟩]) 2 (passes_of rfl) rfl hN (EVN.frz (evn_list (ea_cons ev_int (ea_cons (ev_frac1 ff.fi hr (ea_cons ev_int ea_nil)) ea_nil))) frz_het) ?_)
  refine inner (.inr 0) rfl none _ _ fun u => ?_
  refine inner (.inl ⟨0, 1⟩) rfl u _ _ fun u => ?_
  have step2 : ∀ (way : Int) (u : Option FV) (Φ2 : Out → Prop) (K2 : Gm → Mem → Prop), (way = 0 ∨ way = 1) → K2 [some ⟨Fr, tFr C, x⟩, some ⟨Int, tInt, n⟩, some (nmV C (.inl ⟨0, 1⟩)), some ⟨Int, tInt, way⟩] [] →
      SV (cxOf (L2N.CX P w) P w K mg base N_law_zeros d_law_zeros.qual d_law_zeros.scope (d_law_zeros.ad K) cdv A outer s H E) (fun cls d _ H' => E cls d H') (match d_law_zeros.body[1]? with | some (Stmt.For _ _ b _ _) => b | _ => []) [some ⟨Fr, tFr C, x⟩, some ⟨Int, tInt, n⟩, some (nmV C (.inl ⟨0, 1⟩)), some ⟨Int, tInt, way⟩] [] (Turn1 Φ2 K2) := fun way u Φ2 K2 hw hk =>
    sv_one (s_if (k := !true) (et_not (et_val (ev_call gzr zr.kp (ea_cons (fv V_law_zeros_3 rfl) (ea_cons (fv V_law_zeros_1 rfl) (ea_cons (ev_frac0 ff.fi hr) ea_nil))) (by exact zr.cP hr (way, .inr n, .inl ⟨0, 1⟩) (zok2 way hw) rfl)))) (fun z => absurd z (by decide)) fun _ => sv_nil hk)
  refine sv_cons (s_for_r1 3 (passes_of rfl) rfl hN hrg ev_int ?_ (by decide) (by decide))
  refine step2 0 u _ _ (.inl rfl) ?_
  refine step2 1 (some ⟨Int, tInt, 0⟩) _ _ (.inr rfl) ?_
  refine sv_one (s_ret (x := true && true) (ev_and (ev_call gzr zr.kp (ea_cons ev_int (ea_cons (fv V_law_zeros_1 rfl) (ea_cons ev_int ea_nil))) (by exact zr.cP hr (3, .inr n, .inr 0) ⟨rfl, .inr (.inr ⟨rfl, ⟨n, rfl⟩, rfl⟩)⟩ rfl)) fun _ => ev_one (ev_call gzr zr.kp (ea_cons ev_int (ea_cons ev_int (ea_cons ev_int ea_nil))) (by exact zr.cP hr (3, .inr 0, .inr 0) ⟨rfl, .inr (.inr ⟨rfl, ⟨0, rfl⟩, rfl⟩)⟩ rfl))) ?_)
  rfl
end Lw
set_option maxHeartbeats 4000000
namespace Lw
open PySem PyProof.Rows L2 FL
theorem addS_ok {p q : Str} {a b : Nat} (hp : p.length ≤ a) (hq : q.length ≤ b) (h : a + b ≤ 16777216 := by decide) : p.length + q.length ≤ sizeLine := by
  have : sizeLine = 16777216 := sizeLine_eq
  omega
theorem app_le {p q : Str} {a b : Nat} (hp : p.length ≤ a) (hq : q.length ≤ b) : (p ++ q).length ≤ a + b := by rw [len_app]; omega
def rep (s : Str) (i : Int) : Str := ⟨(List.replicate i.toNat s.cps).foldl (· ++ ·) #[]⟩
def nearM (t u : Int) : List Str :=
  (([("" : Str), "-", "-0", "--1", "a", "1_0", "1.5", "1/", "/2", "1/2/3", ("0/" : Str) ++ toString (u + 1)] ++
    ([("+" : Str) ++ wrt t u, ("0" : Str) ++ wrt t u, (" " : Str) ++ wrt t u, wrt t u ++ (" " : Str)] ++ [wrt t u ++ ("\n" : Str), wrt t u ++ ("/1" : Str), ((toString (2 * t) : Str) ++ ("/" : Str)) ++ toString (2 * u)])) ++
    [(toString t : Str) ++ ("/0" : Str), ((toString t : Str) ++ ("/-" : Str)) ++ toString (u + 1), ((toString t : Str) ++ ("/0" : Str)) ++ toString (u + 1)]) ++
    [rep "9" 61, ("-" : Str) ++ rep "9" 61, ("1/" : Str) ++ rep "9" 61, ("1" : Str) ++ rep "0" 60]
theorem wrt_len {t u : Int} (ht : Sb 1400 t) (hu : Sb 1400 u) : (wrt t u).length ≤ 4000 := by
  have h1 := str_len2 ht
  have h2 := str_len2 hu
  unfold wrt
  split
  · omega
  · have e : (("/" : Str)).length = 1 := rfl
    rw [len_app, len_app, e]
    omega
structure Cn (f : Fr) : Prop where
  p : 0 < f.den
  c : Nat.gcd f.num.natAbs f.den.natAbs = 1
theorem strF_one {f : Fr} (h : f.den = 1) : chs (strF f) = dgI f.num := by unfold strF; rw [if_pos h]; rfl
theorem strF_two {f : Fr} (h : f.den ≠ 1) : chs (strF f) = dgI f.num ++ 47 :: dgI f.den := by
  unfold strF
  rw [if_neg h, chs_app, chs_app, chs_app]
  show (([] : List Nat) ++ dgI f.num) ++ [47] ++ dgI f.den = _
  simp
theorem strF_or {f : Fr} : (f.den = 1 ∧ chs (strF f) = dgI f.num) ∨ (f.den ≠ 1 ∧ chs (strF f) = dgI f.num ++ 47 :: dgI f.den) := by
  by_cases h : f.den = 1
  · exact .inl ⟨h, strF_one h⟩
  · exact .inr ⟨h, strF_two h⟩
theorem chs_wrt {t u : Int} : (u = 1 ∧ chs (wrt t u) = dgI t) ∨ (u ≠ 1 ∧ chs (wrt t u) = dgI t ++ 47 :: dgI u) := by
  unfold wrt
  by_cases h : u = 1
  · rw [if_pos h]; exact .inl ⟨h, rfl⟩
  · rw [if_neg h, chs_app, chs_app]
    refine .inr ⟨h, ?_⟩
    show dgI t ++ [47] ++ dgI u = _
    simp
theorem wrt_str {f : Fr} : wrt f.num f.den = strF f := by
  refine chs_ext ?_
  rcases chs_wrt (t := f.num) (u := f.den) with ⟨h, e⟩ | ⟨h, e⟩
  · rw [e, strF_one h]
  · rw [e, strF_two h]
theorem read_inv {x : Str} {f : Fr} (h : readM x = some f) : strF f = x ∧ Cn f := by
  unfold readM rdIn at h
  split at h
  · split at h
    · cases h
    · split at h
      · rename_i h0 h1
        cases h
        exact ⟨h1, nrm_pos h0, nrm_cop h0⟩
      · cases h
  · cases h
theorem read_no {x : Str} (h : ∀ f, Cn f → chs (strF f) ≠ chs x) : readM x = none := by
  cases e : readM x with
  | none => rfl
  | some f =>
    obtain ⟨h1, h2⟩ := read_inv e
    exact absurd (by rw [h1]) (h f h2)
theorem dgI_pos {i : Int} (h : 0 ≤ i) : dgI i = dgN i.toNat := by
  obtain ⟨n, rfl⟩ := Int.eq_ofNat_of_zero_le h
  rfl
theorem dgI_ng {i : Int} (h : i < 0) : dgI i = 45 :: dgN i.natAbs := by
  obtain ⟨n, rfl⟩ := Int.eq_negSucc_of_lt_zero h
  exact dgI_neg
theorem dgI_all {i : Int} : ∀ c ∈ dgI i, c = 45 ∨ (48 ≤ c ∧ c ≤ 57) := fun c hc => by
  by_cases h : 0 ≤ i
  · rw [dgI_pos h] at hc; exact .inr ((dg_ok _).a c hc)
  · rw [dgI_ng (by omega)] at hc
    rcases List.mem_cons.mp hc with h | h
    · exact .inl h
    · exact .inr ((dg_ok _).a c h)
theorem strF_all {f : Fr} : ∀ c ∈ chs (strF f), c = 45 ∨ c = 47 ∨ (48 ≤ c ∧ c ≤ 57) := fun c hc => by
  rcases strF_or (f := f) with ⟨h, e⟩ | ⟨h, e⟩
  · rw [e] at hc; rcases dgI_all c hc with h | h
    · exact .inl h
    · exact .inr (.inr h)
  · rw [e] at hc
    rcases List.mem_append.mp hc with hc | hc
    · rcases dgI_all c hc with h | h
      · exact .inl h
      · exact .inr (.inr h)
    · rcases List.mem_cons.mp hc with h | hc
      · exact .inr (.inl h)
      · rcases dgI_all c hc with h | h
        · exact .inl h
        · exact .inr (.inr h)
theorem dgI_inj {i j : Int} (h : dgI i = dgI j) : i = j := by
  by_cases h1 : 0 ≤ i <;> by_cases h2 : 0 ≤ j
  · rw [dgI_pos h1, dgI_pos h2] at h
    have := dgN_inj h
    omega
  · rw [dgI_pos h1, dgI_ng (by omega)] at h
    have := (dg_ok i.toNat).a 45 (by rw [h]; exact List.mem_cons_self)
    omega
  · rw [dgI_ng (by omega), dgI_pos h2] at h
    have := (dg_ok j.toNat).a 45 (by rw [← h]; exact List.mem_cons_self)
    omega
  · rw [dgI_ng (by omega), dgI_ng (by omega)] at h
    have := dgN_inj (List.cons.inj h).2
    omega
theorem nsl {i : Int} : 47 ∉ dgI i := no_slI (by decide)
theorem dgI_head {i : Int} {c : Nat} {r : List Nat} (h : dgI i = c :: r) : (c = 45 ∧ i < 0) ∨ (c = 48 ∧ i = 0 ∧ r = []) ∨ (49 ≤ c ∧ c ≤ 57 ∧ 0 < i) := by
  by_cases h1 : 0 ≤ i
  · rw [dgI_pos h1] at h
    rcases (dg_ok i.toNat).h with ⟨q, e⟩ | ⟨d, s, e, hd⟩
    · rw [e] at h
      obtain ⟨e1, e2⟩ := List.cons.inj h
      exact .inr (.inl ⟨e1.symm, by omega, e2.symm⟩)
    · have h57 := (dg_ok i.toNat).a d (by rw [e]; exact List.mem_cons_self)
      rw [e] at h
      obtain ⟨e1, e2⟩ := List.cons.inj h
      refine .inr (.inr ⟨by omega, by omega, ?_⟩)
      rcases Int.lt_or_eq_of_le h1 with q | q
      · exact q
      · exfalso
        rw [← q] at e
        have e0 : dgN (0 : Int).toNat = [48] := by decide +kernel
        rw [e0] at e
        obtain ⟨e1, _⟩ := List.cons.inj e
        omega
  · rw [dgI_ng (by omega)] at h
    obtain ⟨e1, _⟩ := List.cons.inj h
    exact .inl ⟨e1.symm, by omega⟩
theorem two_eq {f : Fr} {a b : List Nat} (ha : 47 ∉ a) (h : chs (strF f) = a ++ 47 :: b) : f.den ≠ 1 ∧ dgI f.num = a ∧ dgI f.den = b := by
  rcases strF_or (f := f) with ⟨h1, e⟩ | ⟨h1, e⟩
  · rw [e] at h
    have : 47 ∈ dgI f.num := by rw [h]; simp
    exact absurd this nsl
  · rw [e] at h
    obtain ⟨r1, r2⟩ := split_at nsl ha h
    exact ⟨h1, r1, r2⟩
theorem one_eq {f : Fr} {a : List Nat} (ha : 47 ∉ a) (h : chs (strF f) = a) : f.den = 1 ∧ dgI f.num = a := by
  rcases strF_or (f := f) with ⟨h1, e⟩ | ⟨h1, e⟩
  · exact ⟨h1, by rw [← e, h]⟩
  · exfalso; apply ha; rw [← h, e]; simp
theorem Cn.z {f : Fr} (c : Cn f) (h : f.num = 0) : f.den = 1 := by
  have := c.c
  rw [h] at this
  have p := c.p
  simp at this
  omega
theorem dval_of {x : Str} {n : Nat} (h : chs x = dgN n) : dval x = n := by
  unfold dval
  rw [show x.cps.toList = dgN n from h, (dg_ok n).v]
theorem isNat_of {x : Str} {n : Nat} (h : chs x = dgN n) (hn : n < 10 ^ 60) : isNat x 60 = true := by
  refine isNat_iff.mpr ⟨by rw [h]; exact (dg_ok n).a, by rw [h]; exact dg_ne n, ?_⟩
  rw [← chs_len, h]
  exact dgN_len (by decide) hn
theorem rdIn_ok {x : Str} {t : Str × Str × Str} {f : Fr} (hx : strF f = x) (h1 : ((partsT t).map fun p => isNat p 60).all id = true) (h2 : denT t ≠ 0) (h3 : fndT x t = f) : rdIn x t = some f := by
  unfold rdIn
  rw [if_pos h1, if_neg h2, h3, if_pos hx]
theorem read_strF {f : Fr} (c : Cn f) (h1 : f.num.natAbs < 10 ^ 60) (h2 : f.den.natAbs < 10 ^ 60) : readM (strF f) = some f := by
  generalize hx : strF f = x
  -- the sign and the digits of the numerator
  have sg : ∀ (b : List Nat), chs x = dgI f.num ++ b → (if Txt.startswith x "-" = true then (-1 : Int) else 1) * (f.num.natAbs : Int) = f.num ∧ chs (Txt.removeprefix x "-") = dgN f.num.natAbs ++ b := by
    intro b hb
    by_cases hn : 0 ≤ f.num
    · have e := dgI_pos hn
      have en : f.num.toNat = f.num.natAbs := by omega
      rw [en] at e
      have ns : (chs x)[0]? ≠ some 45 := by
        rw [hb, e]
        intro q
        rcases (dg_ok f.num.natAbs).h with ⟨_, e1⟩ | ⟨d, r, e1, hd⟩
        · rw [e1] at q; simp at q
        · rw [e1] at q; simp at q; omega
      obtain ⟨s1, s2⟩ := starts_no ns
      rw [s1, s2, hb, e]
      exact ⟨by simp; omega, rfl⟩
    · have e := dgI_ng (i := f.num) (by omega)
      obtain ⟨s1, s2⟩ := starts_yes (x := x) (r := dgN f.num.natAbs ++ b) (by rw [hb, e]; rfl)
      rw [s1, s2]
      exact ⟨by simp; omega, rfl⟩
  have hd : dgI f.den = dgN f.den.natAbs := by
    rw [dgI_pos (Int.le_of_lt c.p)]
    have := c.p
    congr 1
    omega
  have fin : ∀ (t : Str × Str × Str), chs t.1 = dgN f.num.natAbs → ((if Txt.startswith x "-" = true then (-1 : Int) else 1) * (f.num.natAbs : Int) = f.num) → denT t = f.den → fndT x t = f := by
    intro t e1 e2 e3
    unfold fndT
    rw [e3, dval_of e1]
    have e4 : (if Txt.startswith x "-" = true then -((f.num.natAbs : Nat) : Int) else (f.num.natAbs : Nat)) = f.num := by
      rw [← e2]
      split <;> simp
    rw [e4]
    exact nrm_id c.p c.c
  unfold readM
  rcases strF_or (f := f) with ⟨h, e⟩ | ⟨h, e⟩
  · rw [hx] at e
    obtain ⟨s1, s2⟩ := sg [] (by rw [e]; simp)
    rw [List.append_nil] at s2
    have np : 47 ∉ chs (Txt.removeprefix x "-") := by rw [s2]; exact no_sl (by decide)
    rw [part_none np]
    have sl : slT (Txt.removeprefix x "-", Str.empty, Str.empty) = false := rfl
    refine rdIn_ok hx ?_ ?_ (fin _ s2 s1 ?_)
    · unfold partsT
      rw [sl, if_neg (by decide)]
      show (isNat (Txt.removeprefix x "-") 60 && true) = true
      rw [isNat_of s2 h1]; rfl
    · unfold denT; rw [sl, if_neg (by decide)]; decide
    · unfold denT; rw [sl, if_neg (by decide), h]
  · rw [hx] at e
    obtain ⟨s1, s2⟩ := sg (47 :: dgI f.den) e
    obtain ⟨p1, p2, p3⟩ := part_some s2 (no_sl (by decide))
    rw [hd] at p3
    generalize Txt.partition (Txt.removeprefix x "-") "/" = t at *
    have sl : slT t = true := by unfold slT; rw [p2]; rfl
    have dd : denT t = f.den := by
      unfold denT
      have := c.p
      rw [if_pos sl, dval_of p3]
      omega
    refine rdIn_ok hx ?_ ?_ (fin _ p1 s1 dd)
    · unfold partsT
      rw [if_pos sl]
      show (isNat t.1 60 && (isNat t.2.2 60 && true)) = true
      rw [isNat_of p1 h1, isNat_of p3 h2]; rfl
    · rw [dd]; exact Int.ne_of_gt c.p
theorem bad_sign {x : Str} {c : Nat} (hc : c ∈ chs x) (h : c ≠ 45 ∧ c ≠ 47 ∧ ¬ (48 ≤ c ∧ c ≤ 57)) : readM x = none := read_no fun f _ e => by
  rcases strF_all c (by rw [e]; exact hc) with q | q | q
  · exact h.1 q
  · exact h.2.1 q
  · exact h.2.2 q
theorem dgI_ne {i : Int} : dgI i ≠ [] := by
  by_cases h : 0 ≤ i
  · rw [dgI_pos h]; exact dg_ne _
  · rw [dgI_ng (by omega)]; simp
theorem near_none {t u : Int} (c : Cn ⟨t, u⟩) : ∀ x ∈ nearM t u, readM x = none := by
  have hp : 0 < u := c.p
  have hw := chs_wrt (t := t) (u := u)
  have wne : chs (wrt t u) ≠ [] := by
    rcases hw with ⟨_, e⟩ | ⟨_, e⟩
    · rw [e]; exact dgI_ne
    · rw [e]; simp
  intro x hx
  unfold nearM at hx
  simp only [List.mem_append, List.mem_cons, List.mem_nil_iff, or_false] at hx
  rcases hx with ((((h | h | h | h | h | h | h | h | h | h | h) | ((h | h | h | h) | (h | h | h))) | (h | h | h)) | (h | h | h | h)) <;> subst h
  · decide +kernel
  · decide +kernel
  · decide +kernel
  · decide +kernel
  · decide +kernel
  · decide +kernel
  · decide +kernel
  · decide +kernel
  · decide +kernel
  · decide +kernel
  · refine read_no fun f cf e => ?_
    have e2 : chs (("0/" : Str) ++ (toString (u + 1) : Str)) = [48] ++ 47 :: dgI (u + 1) := by rw [chs_app]; rfl
    obtain ⟨h1, h2, h3⟩ := two_eq (by decide) (e.trans e2)
    rcases dgI_head h2 with q | q | q
    · omega
    · exact h1 (cf.z q.2.1)
    · omega
  · exact bad_sign (c := 43) (by rw [chs_app]; exact List.mem_append_left _ List.mem_cons_self) (by decide)
  · refine read_no fun f cf e => ?_
    have e2 : chs (("0" : Str) ++ wrt t u) = 48 :: chs (wrt t u) := by rw [chs_app]; rfl
    rw [e2] at e
    rcases strF_or (f := f) with ⟨h1, e1⟩ | ⟨h1, e1⟩
    · rw [e1] at e
      rcases dgI_head e with q | q | q
      · omega
      · exact wne q.2.2
      · omega
    · rw [e1] at e
      have : ∃ r, dgI f.num = 48 :: r := by
        cases q : dgI f.num with
        | nil => exact absurd q dgI_ne
        | cons a r => rw [q] at e; exact ⟨r, by rw [(List.cons.inj e).1]⟩
      obtain ⟨r, q⟩ := this
      rcases dgI_head q with q | q | q
      · omega
      · exact h1 (cf.z q.2.1)
      · omega
  · exact bad_sign (c := 32) (by rw [chs_app]; exact List.mem_append_left _ List.mem_cons_self) (by decide)
  · exact bad_sign (c := 32) (by rw [chs_app]; exact List.mem_append_right _ List.mem_cons_self) (by decide)
  · exact bad_sign (c := 10) (by rw [chs_app]; exact List.mem_append_right _ List.mem_cons_self) (by decide)
  · refine read_no fun f cf e => ?_
    have e0 : chs (wrt t u ++ ("/1" : Str)) = chs (wrt t u) ++ 47 :: [49] := by rw [chs_app]; rfl
    rw [e0] at e
    rcases hw with ⟨_, ew⟩ | ⟨_, ew⟩
    · rw [ew] at e
      obtain ⟨h1, h2, h3⟩ := two_eq nsl e
      exact h1 (dgI_inj (by rw [h3]; decide +kernel))
    · rw [ew, List.append_assoc] at e
      obtain ⟨h1, h2, h3⟩ := two_eq nsl e
      have : 47 ∈ dgI f.den := by rw [h3]; simp
      exact nsl this
  · refine read_no fun f cf e => ?_
    have e0 : chs (((toString (2 * t) : Str) ++ ("/" : Str)) ++ (toString (2 * u) : Str)) = dgI (2 * t) ++ 47 :: dgI (2 * u) := by
      rw [chs_app, chs_app]
      show dgI (2 * t) ++ [47] ++ dgI (2 * u) = _
      simp
    obtain ⟨h1, h2, h3⟩ := two_eq nsl (e.trans e0)
    have n1 := dgI_inj h2
    have n2 := dgI_inj h3
    have g := cf.c
    rw [n1, n2, Int.natAbs_mul, Int.natAbs_mul, Nat.gcd_mul_left] at g
    have := Nat.eq_one_of_mul_eq_one_right g
    revert this; decide
  · refine read_no fun f cf e => ?_
    have e0 : chs ((toString t : Str) ++ ("/0" : Str)) = dgI t ++ 47 :: [48] := by rw [chs_app]; rfl
    obtain ⟨h1, h2, h3⟩ := two_eq nsl (e.trans e0)
    have p := cf.p
    rcases dgI_head h3 with q | q | q <;> omega
  · refine read_no fun f cf e => ?_
    have e0 : chs (((toString t : Str) ++ ("/-" : Str)) ++ (toString (u + 1) : Str)) = dgI t ++ 47 :: (45 :: dgI (u + 1)) := by
      rw [chs_app, chs_app]
      show dgI t ++ [47, 45] ++ dgI (u + 1) = _
      simp
    obtain ⟨h1, h2, h3⟩ := two_eq nsl (e.trans e0)
    have p := cf.p
    rcases dgI_head h3 with q | q | q <;> omega
  · refine read_no fun f cf e => ?_
    have e0 : chs (((toString t : Str) ++ ("/0" : Str)) ++ (toString (u + 1) : Str)) = dgI t ++ 47 :: (48 :: dgI (u + 1)) := by
      rw [chs_app, chs_app]
      show dgI t ++ [47, 48] ++ dgI (u + 1) = _
      simp
    obtain ⟨h1, h2, h3⟩ := two_eq nsl (e.trans e0)
    have p := cf.p
    rcases dgI_head h3 with q | q | q
    · omega
    · exact dgI_ne q.2.2
    · omega
  · decide +kernel
  · decide +kernel
  · decide +kernel
  · decide +kernel
end Lw
set_option maxHeartbeats 4000000
namespace Lw
open PySem PyProof.Rows L2 FL
local macro_rules | `(tactic| walk_at "mk") => `(tactic| first | exact nomark _ | rfl | (with_unfolding_all rfl))
local macro_rules | `(tactic| walk_at "ov") => `(tactic| first | exact ov_add | exact ov_sub | exact ov_lt | exact ov_le | exact ov_gt | exact ov_ge | exact ov_eqI | exact ov_neI | exact ov_eqB | exact ov_neB | exact ov_eqS | exact ov_neS | exact ov_mul (by assumption) | exact ov_fdiv (by assumption) | exact ov_mod (by assumption))
local macro_rules | `(tactic| walk_at "uv") => `(tactic| exact uv_neg)
local macro_rules | `(tactic| walk_at "ci") => `(tactic| first | exact cv_isiO (tv_own isIns (by assumption)) (by assumption) | exact cv_isiO tv_int (by assumption) | exact cv_isiB (tv_own isIns (by assumption)) (by assumption) | exact cv_isiB tv_int (kit_ty (r := true) (by decide +kernel)) | exact cv_isiB tv_int (kit_ty (r := false) (by decide +kernel)) | exact cv_isiB tv_bl (kit_ty (r := true) (by decide +kernel)) | exact cv_isiB tv_bl (kit_ty (r := false) (by decide +kernel)) | exact cv_isiB tv_str (kit_ty (r := true) (by decide +kernel)) | exact cv_isiB tv_str (kit_ty (r := false) (by decide +kernel)))

variable {P : Program} {w : World} {K : PySem.W.Frag} {mg : Str → Option Value} {base : Heap} {C CD CC CT CS : Addr}
abbrev N_law_near_texts : List Str := ["t", "u", "text", "top", "low", "plain", "bent", "torn"]
theorem S_law_near_texts : FnScope N_law_near_texts ["t", "u"] d_law_near_texts.scope := ⟨by rfl, by rfl, by rfl, by decide, by rfl, by decide, by decide⟩
theorem V_law_near_texts_0 : VarOk N_law_near_texts d_law_near_texts.scope 0 "t" := ⟨by rfl, by first | exact Or.inl rfl | exact Or.inr (Or.inl rfl) | exact Or.inr (Or.inr rfl), by decide, by decide⟩
theorem V_law_near_texts_1 : VarOk N_law_near_texts d_law_near_texts.scope 1 "u" := ⟨by rfl, by first | exact Or.inl rfl | exact Or.inr (Or.inl rfl) | exact Or.inr (Or.inr rfl), by decide, by decide⟩
theorem V_law_near_texts_2 : VarOk N_law_near_texts d_law_near_texts.scope 2 "text" := ⟨by rfl, by first | exact Or.inl rfl | exact Or.inr (Or.inl rfl) | exact Or.inr (Or.inr rfl), by decide, by decide⟩
theorem V_law_near_texts_3 : VarOk N_law_near_texts d_law_near_texts.scope 3 "top" := ⟨by rfl, by first | exact Or.inl rfl | exact Or.inr (Or.inl rfl) | exact Or.inr (Or.inr rfl), by decide, by decide⟩
theorem V_law_near_texts_4 : VarOk N_law_near_texts d_law_near_texts.scope 4 "low" := ⟨by rfl, by first | exact Or.inl rfl | exact Or.inr (Or.inl rfl) | exact Or.inr (Or.inr rfl), by decide, by decide⟩
theorem V_law_near_texts_5 : VarOk N_law_near_texts d_law_near_texts.scope 5 "plain" := ⟨by rfl, by first | exact Or.inl rfl | exact Or.inr (Or.inl rfl) | exact Or.inr (Or.inr rfl), by decide, by decide⟩
theorem V_law_near_texts_6 : VarOk N_law_near_texts d_law_near_texts.scope 6 "bent" := ⟨by rfl, by first | exact Or.inl rfl | exact Or.inr (Or.inl rfl) | exact Or.inr (Or.inr rfl), by decide, by decide⟩
theorem V_law_near_texts_7 : VarOk N_law_near_texts d_law_near_texts.scope 7 "torn" := ⟨by rfl, by first | exact Or.inl rfl | exact Or.inr (Or.inl rfl) | exact Or.inr (Or.inr rfl), by decide, by decide⟩
theorem B_law_near_texts {K : PySem.W.Frag} : ∀ fd, FunD K d_law_near_texts.name d_law_near_texts.qual d_law_near_texts.params d_law_near_texts.body d_law_near_texts.scope (d_law_near_texts.dvs K) (d_law_near_texts.kws K) (d_law_near_texts.ad K) fd → Binds K fd ["t", "u"] [] := fun fd F => FunD.bindsN (show FunD K d_law_near_texts.name d_law_near_texts.qual d_law_near_texts.params d_law_near_texts.body d_law_near_texts.scope [] (d_law_near_texts.kws K) (d_law_near_texts.ad K) fd from F) fun kV doc pm an cdv ct us h => match us, h with
  | [u0, u1], _ => rfl
theorem fo_near (F : Fu K d_law_near_texts) (hs : mg "str" = none) (gwr : mg "_law_written" = some (.ref (d_law_written.ad K))) (wr : Fo P w K mg base 1 d_law_written ["t", "u"] (spP (ι := Int × Int) (fun i => Sb 1400 i.1 ∧ Sb 1400 i.2) (fun i => [⟨Int, tInt, i.1⟩, ⟨Int, tInt, i.2⟩]) (fun _ => tStr) (fun i => wrt i.1 i.2))) :
    Fo P w K mg base 2 d_law_near_texts ["t", "u"] (spP (ι := Int × Int) (fun i => Sb 1300 i.1 ∧ Sb 1300 i.2) (fun i => [⟨Int, tInt, i.1⟩, ⟨Int, tInt, i.2⟩]) (fun _ => tLs tStr) (fun i => nearM i.1 i.2)) := by
  refine Fo.of F S_law_near_texts (fun _ => rfl) B_law_near_texts ?_
  rintro ⟨t, u⟩ ⟨ht, hu⟩ cdv A outer s H E hr
  have hN := S_law_near_texts.nd
  have ht : Sb 1300 t := ht
  have hu : Sb 1300 u := hu
  have lg : ∀ {i : Int}, Sb 1400 i → i.natAbs.log2 < 1920 := fun h => Nat.lt_of_lt_of_le (PySem.Flt.log2_lt_of (by decide) h) (by decide)
  have ht4 : Sb 1400 t := ht.mono (by decide)
  have hu4 : Sb 1400 u := hu.mono (by decide)
  have hu1 : Sb 1400 (u + 1) := (hu.add (sb_lit (i := 1) (b := 1300) (Nat.one_lt_two_pow (by decide)))).mono (by decide)
  have h2t : Sb 1400 (2 * t) := ((sb_lit (i := 2) (b := 10) (by decide)).mul ht).mono (by decide)
  have h2u : Sb 1400 (2 * u) := ((sb_lit (i := 2) (b := 10) (by decide)).mul hu).mono (by decide)
  have m1 : CMulW 2 t := (sb_lit (i := 2) (b := 10) (by decide)).cm ht
  have m2 : CMulW 2 u := (sb_lit (i := 2) (b := 10) (by decide)).cm hu
  have g1 := lg ht4
  have g2 := lg hu1
  have g3 := lg h2t
  have g4 := lg h2u
  have l1 := str_len2 ht4
  have l2 := str_len2 hu1
  have l3 := str_len2 h2t
  have l4 := str_len2 h2u
  have lw := wrt_len ht4 hu4
  refine sv_cons (s_set (x := wrt t u) 2 hN (ev_call gwr wr.kp (ea_cons (fv V_law_near_texts_0 rfl) (ea_cons (fv V_law_near_texts_1 rfl) ea_nil)) (by exact wr.cP hr (t, u) ⟨ht4, hu4⟩ rfl)) ?_)
  refine sv_cons (s_set (x := (toString t : Str)) 3 hN (ev_callTy hs PyProof.Rows.Boot.«str» (ea_cons (fv V_law_near_texts_0 rfl) ea_nil) (cv_str g1)) (sv_cons (s_set (x := (toString (u + 1) : Str)) 4 hN (ev_callTy hs PyProof.Rows.Boot.«str» (ea_cons (fe_op (fv V_law_near_texts_1 rfl) ev_int (by walk_at "ov")) ea_nil) (cv_str g2)) ?_)))
  refine sv_cons (s_set (T := tLs tStr) (x := [("" : Str), "-", "-0", "--1", "a", "1_0", "1.5", "1/", "/2", "1/2/3", ("0/" : Str) ++ toString (u + 1)]) 5 hN ((EVN.frz (evn_list (ea_cons ev_str (ea_cons ev_str (ea_cons ev_str (ea_cons ev_str (ea_cons ev_str (ea_cons ev_str (ea_cons ev_str (ea_cons ev_str (ea_cons ev_str (ea_cons ev_str (ea_cons (fe_op ev_str (fv V_law_near_texts_4 rfl) (ov_addS (addS_ok (a := 10) (by decide +kernel) l2))) ea_nil)))))))))))) frz_het).as fun I v h => hl_ls (T := tStr) h) ?_)
  refine sv_cons (s_set (T := tLs tStr) (x := [("+" : Str) ++ wrt t u, ("0" : Str) ++ wrt t u, (" " : Str) ++ wrt t u, wrt t u ++ (" " : Str)]) 6 hN ((EVN.frz (evn_list (ea_cons (fe_op ev_str (fv V_law_near_texts_2 rfl) (ov_addS (addS_ok (a := 10) (by decide +kernel) lw))) (ea_cons (fe_op ev_str (fv V_law_near_texts_2 rfl) (ov_addS (addS_ok (a := 10) (by decide +kernel) lw))) (ea_cons (fe_op ev_str (fv V_law_near_texts_2 rfl) (ov_addS (addS_ok (a := 10) (by decide +kernel) lw))) (ea_cons (fe_op (fv V_law_near_texts_2 rfl) ev_str (ov_addS (addS_ok (b := 10) lw (by decide +kernel)))) ea_nil))))) frz_het).as fun I v h => hl_ls (T := tStr) h) ?_)
  refine sv_cons (s_set (T := tLs tStr) (x := [("+" : Str) ++ wrt t u, ("0" : Str) ++ wrt t u, (" " : Str) ++ wrt t u, wrt t u ++ (" " : Str)] ++ [wrt t u ++ ("\n" : Str), wrt t u ++ ("/1" : Str), ((toString (2 * t) : Str) ++ ("/" : Str)) ++ toString (2 * u)]) 6 hN (fe_op (fv V_law_near_texts_6 rfl) ((EVN.frz (evn_list (ea_cons (fe_op (fv V_law_near_texts_2 rfl) ev_str (ov_addS (addS_ok (b := 10) lw (by decide +kernel)))) (ea_cons (fe_op (fv V_law_near_texts_2 rfl) ev_str (ov_addS (addS_ok (b := 10) lw (by decide +kernel)))) (ea_cons (fe_op (fe_op (ev_callTy hs PyProof.Rows.Boot.«str» (ea_cons (fe_op ev_int (fv V_law_near_texts_0 rfl) (ov_mul m1)) ea_nil) (cv_str g3)) ev_str (ov_addS (addS_ok (b := 10) l3 (by decide +kernel)))) (ev_callTy hs PyProof.Rows.Boot.«str» (ea_cons (fe_op ev_int (fv V_law_near_texts_1 rfl) (ov_mul m2)) ea_nil) (cv_str g4)) (ov_addS (addS_ok (app_le (b := 10) l3 (by decide +kernel)) l4))) ea_nil)))) frz_het).as fun I v h => hl_ls (T := tStr) (xs := [wrt t u ++ ("\n" : Str), wrt t u ++ ("/1" : Str), ((toString (2 * t) : Str) ++ ("/" : Str)) ++ toString (2 * u)]) h) (ov_catLs (by rw [sizeLine_eq]; show 4 + 3 ≤ 16777216; decide))) ?_)
  refine sv_cons (s_set (T := tLs tStr) (x := [(toString t : Str) ++ ("/0" : Str), ((toString t : Str) ++ ("/-" : Str)) ++ toString (u + 1), ((toString t : Str) ++ ("/0" : Str)) ++ toString (u + 1)]) 7 hN ((EVN.frz (evn_list (ea_cons (fe_op (fv V_law_near_texts_3 rfl) ev_str (ov_addS (addS_ok (b := 10) l1 (by decide +kernel)))) (ea_cons (fe_op (fe_op (fv V_law_near_texts_3 rfl) ev_str (ov_addS (addS_ok (b := 10) l1 (by decide +kernel)))) (fv V_law_near_texts_4 rfl) (ov_addS (addS_ok (app_le (b := 10) l1 (by decide +kernel)) l2))) (ea_cons (fe_op (fe_op (fv V_law_near_texts_3 rfl) ev_str (ov_addS (addS_ok (b := 10) l1 (by decide +kernel)))) (fv V_law_near_texts_4 rfl) (ov_addS (addS_ok (app_le (b := 10) l1 (by decide +kernel)) l2))) ea_nil)))) frz_het).as fun I v h => hl_ls (T := tStr) h) ?_)
  have r9 : (rep "9" 61).length ≤ 100 := by decide +kernel
  have r0 : (rep "0" 60).length ≤ 100 := by decide +kernel
  have k9 : ∀ (Mm : Mem), OV (cxOf (L2N.CX P w) P w K mg base N_law_near_texts d_law_near_texts.qual d_law_near_texts.scope (d_law_near_texts.ad K) cdv A outer s H E) (binaryOp .Mult) Mm tStr ("9" : Str) tInt 61 tStr (rep "9" 61) Mm := fun Mm => ov_mulS (by decide) (by decide) (by decide +kernel) (by decide +kernel)
  have k0 : ∀ (Mm : Mem), OV (cxOf (L2N.CX P w) P w K mg base N_law_near_texts d_law_near_texts.qual d_law_near_texts.scope (d_law_near_texts.ad K) cdv A outer s H E) (binaryOp .Mult) Mm tStr ("0" : Str) tInt 60 tStr (rep "0" 60) Mm := fun Mm => ov_mulS (by decide) (by decide) (by decide +kernel) (by decide +kernel)
  refine sv_one (s_ret (T := tLs tStr) (x := nearM t u) (fe_op (fe_op (fe_op (fv V_law_near_texts_5 rfl) (fv V_law_near_texts_6 rfl) (ov_catLs (by rw [sizeLine_eq]; show 11 + 7 ≤ 16777216; decide))) (fv V_law_near_texts_7 rfl) (ov_catLs (by rw [sizeLine_eq]; show 18 + 3 ≤ 16777216; decide))) ((EVN.frz (evn_list (ea_cons (fe_op ev_str ev_int (k9 [])) (ea_cons (fe_op ev_str (fe_op ev_str ev_int (k9 [])) (ov_addS (addS_ok (a := 10) (by decide +kernel) r9))) (ea_cons (fe_op ev_str (fe_op ev_str ev_int (k9 [])) (ov_addS (addS_ok (a := 10) (by decide +kernel) r9))) (ea_cons (fe_op ev_str (fe_op ev_str ev_int (k0 [])) (ov_addS (addS_ok (a := 10) (by decide +kernel) r0))) ea_nil))))) frz_het).as fun I v h => hl_ls (T := tStr) (xs := [rep "9" 61, ("-" : Str) ++ rep "9" 61, ("1/" : Str) ++ rep "9" 61, ("1" : Str) ++ rep "0" 60]) h) (ov_catLs (by rw [sizeLine_eq]; show 21 + 4 ≤ 16777216; decide))) rfl)
end Lw
set_option maxHeartbeats 4000000
namespace Lw
open PySem PyProof.Rows L2 FL
structure Sg (p q : Int) : Prop where
  q0 : 0 < q
  p : p.natAbs < 10 ^ 57
  q : q.natAbs < 10 ^ 57
theorem d57 {i : Int} (h : i.natAbs < 10 ^ 57) : Sb 200 i := Nat.lt_trans h (by decide)
structure Sx (x : Fr) (p q : Int) : Prop where
  c : Cn x
  l : Low x
  n : x.num.natAbs < 10 ^ 60
  d : x.den.natAbs < 10 ^ 60
  r : Rep x p q
  e : x.num * q = p * x.den
theorem le_fac {a g : Int} (h : g ≠ 0) : a.natAbs ≤ (a * g).natAbs := le_mul_nz h
theorem sx_of {p q : Int} (h : Sg p q) : Sx (nrm p q) p q := by
  have q0 : q ≠ 0 := Int.ne_of_gt h.q0
  have hp := nrm_pos (n := p) q0
  have hc := nrm_cop (n := p) q0
  have e := nrm_eq (n := p) (d := q)
  have sn : Sb 200 (nrm p q).num := nrm_sn q0 (d57 h.p)
  have sd : Sb 200 (nrm p q).den := nrm_sd q0 (d57 h.q)
  have n1 : (nrm p q).num.natAbs < 10 ^ 60 := by
    have := le_fac (a := (nrm p q).num) (dvs_ne (n := p) q0)
    rw [nrm_num] at this
    exact Nat.lt_trans (Nat.lt_of_le_of_lt this h.p) (by decide)
  have n2 : (nrm p q).den.natAbs < 10 ^ 60 := by
    have := le_fac (a := (nrm p q).den) (dvs_ne (n := p) q0)
    rw [nrm_den] at this
    exact Nat.lt_trans (Nat.lt_of_le_of_lt this h.q) (by decide)
  exact ⟨⟨hp, hc⟩, ⟨⟨sn.mono (by decide), sd.mono (by decide), hp⟩, sd.mono (by decide), hc⟩, n1, n2, rep_of e hp hc h.q0, e⟩
theorem sx_sign {x : Fr} {p q : Int} (h : Sx x p q) : signF x = (if decide (0 < p) = true then 1 else 0) - (if decide (p < 0) = true then 1 else 0) := by
  obtain ⟨g, g0, hp, hq⟩ := h.r.ex
  have h1 := sign_lt (a := x.num) g0
  have h2 := sign_gt (a := x.num) g0
  rw [← hp] at h1 h2
  unfold signF
  by_cases q1 : x.num < 0
  · have : ¬ 0 < p := fun z => by have := h2.mp z; omega
    rw [if_pos q1, decide_eq_true (h1.mpr q1), decide_eq_false this]; rfl
  · have n1 : ¬ p < 0 := fun z => q1 (h1.mp z)
    rw [if_neg q1, decide_eq_false n1]
    by_cases q2 : 0 < x.num
    · rw [if_pos q2, decide_eq_true (h2.mpr q2)]; rfl
    · have n2 : ¬ 0 < p := fun z => q2 (h2.mp z)
      rw [if_neg q2, decide_eq_false n2]; rfl
theorem sx_zero {x : Fr} {p q : Int} (h : Sx x p q) : x.num = 0 ↔ p = 0 := by
  obtain ⟨g, g0, hp, hq⟩ := h.r.ex
  rw [hp]
  constructor
  · intro z; rw [z, Int.mul_zero]
  · intro z
    rcases Int.mul_eq_zero.mp z with z | z
    · omega
    · exact z
theorem sx_isF {x : Fr} {p q : Int} (hs : Sg p q) (h : Sx x p q) : IsF x p q := ⟨h.l.o.n.mono (by decide), h.l.d.mono (by decide), h.c.p, h.e, h.c.c, (d57 hs.p).mono (by decide), (d57 hs.q).mono (by decide)⟩
theorem sx_neg {x : Fr} {p q : Int} (hs : Sg p q) (h : Sx x p q) : IsF (nrm (-x.num) x.den) (-p) q :=
  isF_nrm (Int.ne_of_gt h.c.p) (by rw [Int.neg_mul, h.e, Int.neg_mul]) ((h.l.o.n.mono (by decide)).neg) (h.l.d.mono (by decide)) (((d57 hs.p).mono (by decide)).neg) ((d57 hs.q).mono (by decide))
theorem sx_abs {x : Fr} {p q : Int} (hs : Sg p q) (h : Sx x p q) : IsF (nrm (if x.num < 0 then -x.num else x.num) x.den) (absI p) q := by
  obtain ⟨g, g0, hp, hq⟩ := h.r.ex
  have h1 := sign_lt (a := x.num) g0
  rw [← hp] at h1
  have e := h.e
  unfold absI
  by_cases q1 : x.num < 0
  · rw [if_pos q1, if_pos (h1.mpr q1)]
    exact sx_neg hs h
  · rw [if_neg q1, if_neg (fun z => q1 (h1.mp z))]
    exact isF_nrm (Int.ne_of_gt h.c.p) e (h.l.o.n.mono (by decide)) (h.l.d.mono (by decide)) ((d57 hs.p).mono (by decide)) ((d57 hs.q).mono (by decide))
theorem absI_n (i : Int) : absI i = (i.natAbs : Int) := by unfold absI; split <;> omega
theorem euc_dvs {p q : Int} (h : Sg p q) : euc 1500 (absI p) (absI q) = dvs p q := by
  rw [absI_n, absI_n, euc_gcd 700 1500 _ _ ((d57 h.q).mono (by decide)) (by decide)]
  unfold dvs
  rw [if_neg (by have := h.q0; omega)]
theorem near_len {t u : Int} (ht : Sb 1300 t) (hu : Sb 1300 u) : ∀ x ∈ nearM t u, x.length ≤ 1000000 := by
  have l1 := str_len2 (ht.mono (show 1300 ≤ 1400 by decide))
  have l2 := str_len2 ((hu.add (sb_lit (i := 1) (b := 1300) (Nat.one_lt_two_pow (by decide)))).mono (show 1301 ≤ 1400 by decide))
  have l3 := str_len2 (((sb_lit (i := 2) (b := 10) (by decide)).mul ht).mono (show 10 + 1300 ≤ 1400 by decide))
  have l4 := str_len2 (((sb_lit (i := 2) (b := 10) (by decide)).mul hu).mono (show 10 + 1300 ≤ 1400 by decide))
  have lw := wrt_len (ht.mono (show 1300 ≤ 1400 by decide)) (hu.mono (show 1300 ≤ 1400 by decide))
  have c1 : ∀ s : Str, s.length ≤ 100 → s.length ≤ 1000000 := fun s h => by omega
  intro x hx
  unfold nearM at hx
  simp only [List.mem_append, List.mem_cons, List.mem_nil_iff, or_false] at hx
  rcases hx with ((((h | h | h | h | h | h | h | h | h | h | h) | ((h | h | h | h) | (h | h | h))) | (h | h | h)) | (h | h | h | h)) <;> subst h
  case inl.inl.inl.inr.inr.inr.inr.inr.inr.inr.inr.inr.inr => rw [len_app]; have : ("0/" : Str).length ≤ 10 := by decide +kernel
                                                              omega
  case inl.inl.inr.inl.inl => rw [len_app]; have : ("+" : Str).length ≤ 10 := by decide +kernel
                              omega
  case inl.inl.inr.inl.inr.inl => rw [len_app]; have : ("0" : Str).length ≤ 10 := by decide +kernel
                                  omega
  case inl.inl.inr.inl.inr.inr.inl => rw [len_app]; have : (" " : Str).length ≤ 10 := by decide +kernel
                                      omega
  case inl.inl.inr.inl.inr.inr.inr => rw [len_app]; have : (" " : Str).length ≤ 10 := by decide +kernel
                                      omega
  case inl.inl.inr.inr.inl => rw [len_app]; have : ("\n" : Str).length ≤ 10 := by decide +kernel
                              omega
  case inl.inl.inr.inr.inr.inl => rw [len_app]; have : ("/1" : Str).length ≤ 10 := by decide +kernel
                                  omega
  case inl.inl.inr.inr.inr.inr => rw [len_app, len_app]; have : ("/" : Str).length ≤ 10 := by decide +kernel
                                  omega
  case inl.inr.inl => rw [len_app]; have : ("/0" : Str).length ≤ 10 := by decide +kernel
                      omega
  case inl.inr.inr.inl => rw [len_app, len_app]; have : ("/-" : Str).length ≤ 10 := by decide +kernel
                          omega
  case inl.inr.inr.inr => rw [len_app, len_app]; have : ("/0" : Str).length ≤ 10 := by decide +kernel
                          omega
  all_goals (refine c1 _ ?_; decide +kernel)
end Lw
set_option maxHeartbeats 4000000
namespace Lw
open PySem PyProof.Rows L2 FL
local macro_rules | `(tactic| walk_at "mk") => `(tactic| first | exact nomark _ | rfl | (with_unfolding_all rfl))
local macro_rules | `(tactic| walk_at "ov") => `(tactic| first | exact ov_add | exact ov_sub | exact ov_lt | exact ov_le | exact ov_gt | exact ov_ge | exact ov_eqI | exact ov_neI | exact ov_eqB | exact ov_neB | exact ov_eqS | exact ov_neS | exact ov_mul (by assumption) | exact ov_fdiv (by assumption) | exact ov_mod (by assumption))
local macro_rules | `(tactic| walk_at "uv") => `(tactic| exact uv_neg)
local macro_rules | `(tactic| walk_at "ci") => `(tactic| first | exact cv_isiO (tv_own isIns (by assumption)) (by assumption) | exact cv_isiO tv_int (by assumption) | exact cv_isiB (tv_own isIns (by assumption)) (by assumption) | exact cv_isiB tv_int (kit_ty (r := true) (by decide +kernel)) | exact cv_isiB tv_int (kit_ty (r := false) (by decide +kernel)) | exact cv_isiB tv_bl (kit_ty (r := true) (by decide +kernel)) | exact cv_isiB tv_bl (kit_ty (r := false) (by decide +kernel)) | exact cv_isiB tv_str (kit_ty (r := true) (by decide +kernel)) | exact cv_isiB tv_str (kit_ty (r := false) (by decide +kernel)))

variable {P : Program} {w : World} {K : PySem.W.Frag} {mg : Str → Option Value} {base : Heap} {C CD CC CT CS : Addr}
abbrev spDivi : Sp := spP (ι := Int × Int) (fun _ => True) (fun i => [⟨Int, tInt, i.1⟩, ⟨Int, tInt, i.2⟩]) (fun _ => tInt) (fun i => euc 1500 (absI i.1) (absI i.2))
abbrev spPow (C : Addr) : Sp := spT (ι := Fr × Int) (fun i => Low i.1 ∧ 0 ≤ i.2 ∧ i.2 ≤ 64) (fun i => [⟨Fr, tFr C, i.1⟩, ⟨Int, tInt, i.1.num⟩, ⟨Int, tInt, i.1.den⟩, ⟨Int, tInt, i.2⟩, ⟨Fr, tFr C, ⟨i.1.num ^ i.2.toNat, i.1.den ^ i.2.toNat⟩⟩])
abbrev spWr : Sp := spP (ι := Int × Int) (fun i => Sb 1400 i.1 ∧ Sb 1400 i.2) (fun i => [⟨Int, tInt, i.1⟩, ⟨Int, tInt, i.2⟩]) (fun _ => tStr) (fun i => wrt i.1 i.2)
abbrev spReads : Sp := spT (ι := Str × Fr × Int × Int) (fun i => i.1.length ≤ 1000000 ∧ readM i.1 = some i.2.1 ∧ strF i.2.1 = i.1 ∧ Low i.2.1 ∧ IsF i.2.1 i.2.2.1 i.2.2.2) (fun i => [⟨Str, tStr, i.1⟩, ⟨Int, tInt, i.2.2.1⟩, ⟨Int, tInt, i.2.2.2⟩])
abbrev spTr : Sp := spT (ι := Str) (fun x => x.length ≤ 1000000 ∧ readM x = none) (fun x => [⟨Str, tStr, x⟩])
abbrev spNear : Sp := spP (ι := Int × Int) (fun i => Sb 1300 i.1 ∧ Sb 1300 i.2) (fun i => [⟨Int, tInt, i.1⟩, ⟨Int, tInt, i.2⟩]) (fun _ => tLs tStr) (fun i => nearM i.1 i.2)
structure GS (P : Program) (w : World) (K : PySem.W.Frag) (mg : Str → Option Value) (base : Heap) (C : Addr) : Prop where
  hs : mg "str" = none
  hab : mg "abs" = none
  gdv : mg "_law_divisor" = some (.ref (d_law_divisor.ad K))
  dvr : Fo P w K mg base 1 d_law_divisor ["one", "other"] spDivi
  gwr : mg "_law_written" = some (.ref (d_law_written.ad K))
  wr : Fo P w K mg base 1 d_law_written ["t", "u"] spWr
  grd : mg "_law_reads" = some (.ref (d_law_reads.ad K))
  rd : Fo P w K mg base 5 d_law_reads ["text", "t", "u"] spReads
  gpw : mg "_law_power" = some (.ref (d_law_power.ad K))
  pw : Fo P w K mg base 4 d_law_power ["x", "t", "u", "k", "told"] (spPow C)
  gnr : mg "_law_near_texts" = some (.ref (d_law_near_texts.ad K))
  nr : Fo P w K mg base 2 d_law_near_texts ["t", "u"] spNear
  gtr : mg "_law_text_refused" = some (.ref (d_law_text_refused.ad K))
  tr : Fo P w K mg base 5 d_law_text_refused ["text"] spTr
theorem pow_id {x : Fr} (h : Cn x) (k : Nat) : nrm (x.num ^ k) (x.den ^ k) = ⟨x.num ^ k, x.den ^ k⟩ := nrm_id (x := ⟨x.num ^ k, x.den ^ k⟩) (Int.pow_pos h.p) (cop_pow h.c _)
abbrev N_law_single : List Str := ["one", "p", "q", "power", "g", "t", "u", "told", "text", "row"]
theorem S_law_single : FnScope N_law_single ["one", "p", "q", "power"] d_law_single.scope := ⟨by rfl, by rfl, by rfl, by decide, by rfl, by decide, by decide⟩
theorem V_law_single_0 : VarOk N_law_single d_law_single.scope 0 "one" := ⟨by rfl, by first | exact Or.inl rfl | exact Or.inr (Or.inl rfl) | exact Or.inr (Or.inr rfl), by decide, by decide⟩
theorem V_law_single_1 : VarOk N_law_single d_law_single.scope 1 "p" := ⟨by rfl, by first | exact Or.inl rfl | exact Or.inr (Or.inl rfl) | exact Or.inr (Or.inr rfl), by decide, by decide⟩
theorem V_law_single_2 : VarOk N_law_single d_law_single.scope 2 "q" := ⟨by rfl, by first | exact Or.inl rfl | exact Or.inr (Or.inl rfl) | exact Or.inr (Or.inr rfl), by decide, by decide⟩
theorem V_law_single_3 : VarOk N_law_single d_law_single.scope 3 "power" := ⟨by rfl, by first | exact Or.inl rfl | exact Or.inr (Or.inl rfl) | exact Or.inr (Or.inr rfl), by decide, by decide⟩
theorem V_law_single_4 : VarOk N_law_single d_law_single.scope 4 "g" := ⟨by rfl, by first | exact Or.inl rfl | exact Or.inr (Or.inl rfl) | exact Or.inr (Or.inr rfl), by decide, by decide⟩
theorem V_law_single_5 : VarOk N_law_single d_law_single.scope 5 "t" := ⟨by rfl, by first | exact Or.inl rfl | exact Or.inr (Or.inl rfl) | exact Or.inr (Or.inr rfl), by decide, by decide⟩
theorem V_law_single_6 : VarOk N_law_single d_law_single.scope 6 "u" := ⟨by rfl, by first | exact Or.inl rfl | exact Or.inr (Or.inl rfl) | exact Or.inr (Or.inr rfl), by decide, by decide⟩
theorem V_law_single_7 : VarOk N_law_single d_law_single.scope 7 "told" := ⟨by rfl, by first | exact Or.inl rfl | exact Or.inr (Or.inl rfl) | exact Or.inr (Or.inr rfl), by decide, by decide⟩
theorem V_law_single_8 : VarOk N_law_single d_law_single.scope 8 "text" := ⟨by rfl, by first | exact Or.inl rfl | exact Or.inr (Or.inl rfl) | exact Or.inr (Or.inr rfl), by decide, by decide⟩
theorem V_law_single_9 : VarOk N_law_single d_law_single.scope 9 "row" := ⟨by rfl, by first | exact Or.inl rfl | exact Or.inr (Or.inl rfl) | exact Or.inr (Or.inr rfl), by decide, by decide⟩
theorem B_law_single {K : PySem.W.Frag} : ∀ fd, FunD K d_law_single.name d_law_single.qual d_law_single.params d_law_single.body d_law_single.scope (d_law_single.dvs K) (d_law_single.kws K) (d_law_single.ad K) fd → Binds K fd ["one", "p", "q", "power"] [] := fun fd F => FunD.bindsN (show FunD K d_law_single.name d_law_single.qual d_law_single.params d_law_single.body d_law_single.scope [] (d_law_single.kws K) (d_law_single.ad K) fd from F) fun kV doc pm an cdv ct us h => match us, h with
  | [u0, u1, u2, u3], _ => rfl
theorem fo_single (F : Fu K d_law_single) (ff : FF P w K mg base C CD CC CT) (gh : GH P w K mg base C) (gs : GS P w K mg base C) :
    Fo P w K mg base 6 d_law_single ["one", "p", "q", "power"] (spT (ι := Int × Int × Int) (fun i => Sg i.1 i.2.1 ∧ 0 ≤ i.2.2 ∧ i.2.2 ≤ 64) (fun i => [⟨Fr, tFr C, nrm i.1 i.2.1⟩, ⟨Int, tInt, i.1⟩, ⟨Int, tInt, i.2.1⟩, ⟨Int, tInt, i.2.2⟩])) := by
  refine Fo.of F S_law_single (fun _ => rfl) B_law_single ?_
  rintro ⟨p, q, k⟩ ⟨hs, hk⟩ cdv A outer s H E hr
  have hN := S_law_single.nd
  have hs : Sg p q := hs
  have hk : 0 ≤ k ∧ k ≤ 64 := hk
  have hx := sx_of hs
  have et : p.fdiv (dvs p q) = (nrm p q).num := rfl
  have eu : q.fdiv (dvs p q) = (nrm p q).den := rfl
  have dz : dvs p q ≠ 0 := dvs_ne (Int.ne_of_gt hs.q0)
  have dl : CDivX p (dvs p q) := ⟨dz, dvs_log (log_ok ((d57 hs.q).mono (by decide)) (Int.ne_of_gt hs.q0))⟩
  have dl2 : CDivX q (dvs p q) := dl
  have eg := euc_dvs hs
  show SV _ _ d_law_single.body [some ⟨Fr, tFr C, nrm p q⟩, some ⟨Int, tInt, p⟩, some ⟨Int, tInt, q⟩, some ⟨Int, tInt, k⟩, none, none, none, none, none, none] [] _
  generalize dvs p q = g at *
  generalize nrm p q = x at *
  refine sv_cons (s_set (x := g) 4 hN ((ev_call gs.gdv gs.dvr.kp (ea_cons (fv V_law_single_1 rfl) (ea_cons (fv V_law_single_2 rfl) ea_nil)) (by exact gs.dvr.cP hr (p, q) trivial rfl)).eq eg) ?_)
  refine sv_cons (s_set (x := x.num) 5 hN (EV.eq (fe_op (fv V_law_single_1 rfl) (fv V_law_single_4 rfl) (by walk_at "ov")) et) (sv_cons (s_set (x := x.den) 6 hN (EV.eq (fe_op (fv V_law_single_2 rfl) (fv V_law_single_4 rfl) (by walk_at "ov")) eu) ?_)))
  have ok5 : Ok 100000 x := hx.l.o.mono (by decide)
  have low3 : Ok 300 x ∧ Sb 300 x.den ∧ Nat.gcd x.num.natAbs x.den.natAbs = 1 := ⟨hx.l.o, hx.l.d, hx.l.c⟩
  have hT : ∀ (n : Str) (hn : ([("num", V.int x.num), ("den", V.int x.den)] : List (Str × V)).lookup n = none) (I : Hp) (v : V), (tFr C).r I v x → ∃ a dx fs, v = .ref a ∧ I a = some (.ins C dx fs) ∧ fs.lookup n = none := fun n hn I v ⟨a, dx, h1, h2⟩ => ⟨a, dx, _, h1, h2, hn⟩
  refine sv_cons (s_set (x := signF x) 7 hN (ev_meth0 (fv V_law_single_0 rfl) (hT "sign" rfl) ff.kf.c ff.ko.sg (by exact ff.sign.cP hr x trivial rfl)) ?_)
  refine sv_cons (s_if (EW.t (ew_or (et_not (et_val (ev_call gh.gii gh.ii.kp (ea_cons (fv V_law_single_7 rfl) ea_nil) (by exact gh.ii.cP hr _ trivial rfl)))) fun _ => ew_or1 (ft_cmp (fv V_law_single_7 rfl) (fe_op (ev_callTy ff.kf.gI PyProof.Rows.Boot.«int» (ea_cons (fe_cmp (fv V_law_single_1 rfl) ev_int (by walk_at "ov") (by walk_at "mk")) ea_nil) cv_intB) (ev_callTy ff.kf.gI PyProof.Rows.Boot.«int» (ea_cons (fe_cmp (fv V_law_single_1 rfl) ev_int (by walk_at "ov") (by walk_at "mk")) ea_nil) cv_intB) (by walk_at "ov")) ov_neI (by walk_at "mk")))) (fun hk => ?_) fun _ => sv_nil ?_)
  · exfalso
    rw [sx_sign hx] at hk
    simp at hk
  refine sv_cons (s_if (k := !true || !true) (EW.t (ew_or (et_not (et_val (ev_call gh.gif gh.isf.kp (ea_cons (fe_un (fv V_law_single_0 rfl) (uv_negO isIns ff.ko.neg (by exact ff.neg.cP hr x ok5 rfl))) (ea_cons (fe_un (fv V_law_single_1 rfl) (by walk_at "uv")) (ea_cons (fv V_law_single_2 rfl) ea_nil))) (by exact gh.isf.cP hr (_, -p, q) (sx_neg hs hx) rfl)))) fun _ => ew_or1 (et_not (et_val (ev_call gh.gif gh.isf.kp (ea_cons (ev_callB gs.hab PyProof.Rows.Boot.«abs» (ea_cons (fv V_law_single_0 rfl) ea_nil) (cv_absO isIns ff.ko.abs (by exact ff.abs.cP (j := 3) (hr.in1.mono (by decide)) x ok5 rfl))) (ea_cons (ev_callB gs.hab PyProof.Rows.Boot.«abs» (ea_cons (fv V_law_single_1 rfl) ea_nil) cv_abs) (ea_cons (fv V_law_single_2 rfl) ea_nil))) (by exact gh.isf.cP hr (_, absI p, q) (sx_abs hs hx) rfl)))))) (fun hk => absurd hk (by decide)) fun _ => sv_nil ?_)
  refine sv_cons (s_if (ft_cmp (ev_callTy ff.kb PyProof.Rows.Boot.«bool» (ea_cons (fv V_law_single_0 rfl) ea_nil) (cv_boolO isIns ff.ko.bool (by exact ff.bool.cP (j := 1) (hr.in1.in1.mono (by decide)) x trivial rfl))) (fe_cmp (fv V_law_single_1 rfl) ev_int (by walk_at "ov") (by walk_at "mk")) ov_neB (by walk_at "mk")) (fun hk => ?_) fun _ => sv_nil ?_)
  · exfalso
    have z := sx_zero hx
    have e1 : (x.num != 0) = !decide (p = 0) := by
      by_cases h1 : x.num = 0
      · rw [h1, z.mp h1]; rfl
      · have h2 : ¬ p = 0 := fun h => h1 (z.mpr h)
        rw [decide_eq_false h2]
        exact bne_iff_ne.mpr h1
    rw [e1] at hk
    simp at hk
  have sn : Sb 1400 x.num := hx.l.o.n.mono (by decide)
  have sd : Sb 1400 x.den := hx.l.d.mono (by decide)
  refine sv_cons (s_set (x := strF x) 8 hN ((ev_call gs.gwr gs.wr.kp (ea_cons (fv V_law_single_5 rfl) (ea_cons (fv V_law_single_6 rfl) ea_nil)) (by exact gs.wr.cP hr (x.num, x.den) ⟨sn, sd⟩ rfl)).eq wrt_str) ?_)
  have sl : (strF x).length ≤ 1000000 := by
    rw [← wrt_str]
    exact Nat.le_trans (wrt_len sn sd) (by decide)
  have isx : IsF x x.num x.den := ⟨hx.l.o.n.mono (by decide), hx.l.d.mono (by decide), hx.c.p, rfl, hx.c.c, sn.mono (by decide), sd.mono (by decide)⟩
  refine sv_cons (s_if (EW.t (ew_or (ft_cmp (ev_callTy gs.hs PyProof.Rows.Boot.«str» (ea_cons (fv V_law_single_0 rfl) ea_nil) (cv_strO (Nat.lt_trans (Nat.add_lt_add_left (show 2 < 64 by decide) _) hr.units) isIns ff.ko.str (by exact ff.str.cP (j := 1) (hr.in1.in1.mono (by decide)) x (hx.l.o.mono (by decide)) rfl))) (fv V_law_single_8 rfl) ov_neS (by walk_at "mk")) fun _ => ew_or1 (et_not (et_val (ev_call gs.grd gs.rd.kp (ea_cons (fv V_law_single_8 rfl) (ea_cons (fv V_law_single_5 rfl) (ea_cons (fv V_law_single_6 rfl) ea_nil))) (by exact gs.rd.cP hr (strF x, x, x.num, x.den) ⟨sl, read_strF hx.c hx.n hx.d, rfl, hx.l, isx⟩ rfl)))))) (fun hk => ?_) fun _ => sv_nil ?_)
  · exfalso
    simp at hk
  have pz : ∀ k : Int, nrm (x.num ^ k.toNat) (x.den ^ k.toNat) = ⟨x.num ^ k.toNat, x.den ^ k.toNat⟩ := fun k => pow_id hx.c _
  have pwv : ∀ (k : Int) (Mm : Mem), 0 ≤ k ∧ k ≤ 64 → OV (cxOf (L2N.CX P w) P w K mg base N_law_single d_law_single.qual d_law_single.scope (d_law_single.ad K) cdv A outer s H E) (binaryOp .Pow) Mm (tFr C) x tInt k (tFr C) ⟨x.num ^ k.toNat, x.den ^ k.toNat⟩ Mm := fun k Mm hk => by
    rw [← pz k]
    exact ov_ownI isIns ff.ko.pw (by exact ff.pw.cP hr (x, k) ⟨low3, hk⟩ rfl)
  have turn : ∀ (j : Int) (G : Option FV) (Φ : Out → Prop) (Kn : Gm → Mem → Prop), 0 ≤ j ∧ j ≤ 64 → (∀ G, Kn [some ⟨Fr, tFr C, x⟩, some ⟨Int, tInt, p⟩, some ⟨Int, tInt, q⟩, some ⟨Int, tInt, k⟩, some ⟨Int, tInt, g⟩, some ⟨Int, tInt, x.num⟩, some ⟨Int, tInt, x.den⟩, some ⟨Int, tInt, signF x⟩, some ⟨Str, tStr, strF x⟩, G] []) →
      SV (cxOf (L2N.CX P w) P w K mg base N_law_single d_law_single.qual d_law_single.scope (d_law_single.ad K) cdv A outer s H E) (fun cls d _ H' => E cls d H') (match d_law_single.body[9]? with | some (Stmt.For _ _ b _ _) => b | _ => []) [some ⟨Fr, tFr C, x⟩, some ⟨Int, tInt, p⟩, some ⟨Int, tInt, q⟩, some ⟨Int, tInt, k⟩, some ⟨Int, tInt, g⟩, some ⟨Int, tInt, x.num⟩, some ⟨Int, tInt, x.den⟩, some ⟨Int, tInt, signF x⟩, some ⟨Str, tStr, strF x⟩, some ⟨Unit, tHL [⟨Int, tInt, j⟩, ⟨Fr, tFr C, ⟨x.num ^ j.toNat, x.den ^ j.toNat⟩⟩], ()⟩] [] (Turn1 Φ Kn) := fun j G Φ Kn hj h =>
    sv_one (s_if (k := !true) (et_not (et_val (ev_call gs.gpw gs.pw.kp (ea_cons (fv V_law_single_0 rfl) (ea_cons (fv V_law_single_5 rfl) (ea_cons (fv V_law_single_6 rfl) (ea_cons (ev_ixHL (j := 0) (fv V_law_single_9 rfl) ev_int rfl rfl) (ea_cons (ev_ixHL (j := 1) (fv V_law_single_9 rfl) ev_int rfl rfl) ea_nil))))) (by exact gs.pw.cP hr (x, j) ⟨hx.l, hj⟩ rfl)))) (fun z => absurd z (by decide)) fun _ => sv_nil (h _))
  have rowE : ∀ (j : Int) {e1 e2 : Expr} {pos : Pos} {Γ : Gm}, EV (cxOf (L2N.CX P w) P w K mg base N_law_single d_law_single.qual d_law_single.scope (d_law_single.ad K) cdv A outer s H E) e1 Γ [] tInt j [] → EV (cxOf (L2N.CX P w) P w K mg base N_law_single d_law_single.qual d_law_single.scope (d_law_single.ad K) cdv A outer s H E) e2 Γ [] (tFr C) ⟨x.num ^ j.toNat, x.den ^ j.toNat⟩ [] → starEach [e1, e2] (cxOf (L2N.CX P w) P w K mg base N_law_single d_law_single.qual d_law_single.scope (d_law_single.ad K) cdv A outer s H E).env = (false, eval e1 (cxOf (L2N.CX P w) P w K mg base N_law_single d_law_single.qual d_law_single.scope (d_law_single.ad K) cdv A outer s H E).env) :: starEach [e2] (cxOf (L2N.CX P w) P w K mg base N_law_single d_law_single.qual d_law_single.scope (d_law_single.ad K) cdv A outer s H E).env → starEach [e2] (cxOf (L2N.CX P w) P w K mg base N_law_single d_law_single.qual d_law_single.scope (d_law_single.ad K) cdv A outer s H E).env = (false, eval e2 (cxOf (L2N.CX P w) P w K mg base N_law_single d_law_single.qual d_law_single.scope (d_law_single.ad K) cdv A outer s H E).env) :: starEach [] (cxOf (L2N.CX P w) P w K mg base N_law_single d_law_single.qual d_law_single.scope (d_law_single.ad K) cdv A outer s H E).env → EV (cxOf (L2N.CX P w) P w K mg base N_law_single d_law_single.qual d_law_single.scope (d_law_single.ad K) cdv A outer s H E) (.List [e1, e2] pos) Γ [] (tHL [⟨Int, tInt, j⟩, ⟨Fr, tFr C, ⟨x.num ^ j.toNat, x.den ^ j.toNat⟩⟩]) () [] := fun j {_ _ _ _} h1 h2 s1 s2 => EVN.frz (evn_list (ea_cons h1 (ea_cons h2 ea_nil s2) s1) (hz := show (2 : Nat) ≤ 1000 by decide)) frz_het
  refine sv_cons (s_forH (ts := [⟨Unit, tHL [⟨Int, tInt, 0⟩, ⟨Fr, tFr C, ⟨x.num ^ (0 : Int).toNat, x.den ^ (0 : Int).toNat⟩⟩], ()⟩, ⟨Unit, tHL [⟨Int, tInt, 1⟩, ⟨Fr, tFr C, ⟨x.num ^ (1 : Int).toNat, x.den ^ (1 : Int).toNat⟩⟩], ()⟩, ⟨Unit, tHL [⟨Int, tInt, 3⟩, ⟨Fr, tFr C, ⟨x.num ^ (3 : Int).toNat, x.den ^ (3 : Int).toNat⟩⟩], ()⟩, ⟨Unit, tHL [⟨Int, tInt, 64⟩, ⟨Fr, tFr C, ⟨x.num ^ (64 : Int).toNat, x.den ^ (64 : Int).toNat⟩⟩], ()⟩]) 9 (passes_of rfl) rfl hN (EVN.frz (evn_list (ea_cons (rowE 0 ev_int (fe_op (fv V_law_single_0 rfl) ev_int (pwv 0 [] (by decide))) rfl rfl) (ea_cons (rowE 1 ev_int (fe_op (fv V_law_single_0 rfl) ev_int (pwv 1 [] (by decide))) rfl rfl) (ea_cons (rowE 3 ev_int (fe_op (fv V_law_single_0 rfl) ev_int (pwv 3 [] (by decide))) rfl rfl) (ea_cons (rowE 64 ev_int (fe_op (fv V_law_single_0 rfl) ev_int (pwv 64 [] (by decide))) rfl rfl) ea_nil))))) frz_het) ?_)
  refine turn 0 none _ _ (by decide) fun G => turn 1 G _ _ (by decide) fun G => turn 3 G _ _ (by decide) fun G => turn 64 G _ _ (by decide) fun G => ?_
  refine sv_cons (s_if (k := !true) (et_not (et_val (ev_call gs.gpw gs.pw.kp (ea_cons (fv V_law_single_0 rfl) (ea_cons (fv V_law_single_5 rfl) (ea_cons (fv V_law_single_6 rfl) (ea_cons (fv V_law_single_3 rfl) (ea_cons (EV.eq (ev_meth (T := tFr C) (x := x) (fv V_law_single_0 rfl) (hT "raised" rfl) ff.kf.c ff.ko.rs (ea_cons (fv V_law_single_3 rfl) ea_nil) (by exact ff.rs.c0 hr (x, k) low3 rfl (fun o h => by unfold rsPost at h; rw [if_pos hk] at h; exact h))) (pz k)) ea_nil))))) (by exact gs.pw.cP hr (x, k) ⟨hx.l, hk⟩ rfl)))) (fun z => absurd z (by decide)) fun _ => sv_nil ?_)
  have loop : ∀ (xs : List Str) (v8 v9 : Option FV) (Φ : Out → Prop), (∀ z ∈ xs, z.length ≤ 1000000 ∧ readM z = none) → (∀ v8 v9, Φ (.next [some ⟨Fr, tFr C, x⟩, some ⟨Int, tInt, p⟩, some ⟨Int, tInt, q⟩, some ⟨Int, tInt, k⟩, some ⟨Int, tInt, g⟩, some ⟨Int, tInt, x.num⟩, some ⟨Int, tInt, x.den⟩, some ⟨Int, tInt, signF x⟩, v8, v9] [])) →
      LV (cxOf (L2N.CX P w) P w K mg base N_law_single d_law_single.qual d_law_single.scope (d_law_single.ad K) cdv A outer s H E) (fun cls d _ H' => E cls d H') 8 (match d_law_single.body[11]? with | some (Stmt.For _ _ b _ _) => b | _ => []) tStr Φ xs [some ⟨Fr, tFr C, x⟩, some ⟨Int, tInt, p⟩, some ⟨Int, tInt, q⟩, some ⟨Int, tInt, k⟩, some ⟨Int, tInt, g⟩, some ⟨Int, tInt, x.num⟩, some ⟨Int, tInt, x.den⟩, some ⟨Int, tInt, signF x⟩, v8, v9] [] := by
    intro xs
    induction xs with
    | nil => intro v8 v9 Φ _ h; exact h v8 v9
    | cons z zs ih =>
      intro v8 v9 Φ hz h
      exact sv_one (s_if (k := !true) (et_not (et_val (ev_call gs.gtr gs.tr.kp (ea_cons (fv V_law_single_8 rfl) ea_nil) (by exact gs.tr.cP hr z (hz z List.mem_cons_self) rfl)))) (fun z => absurd z (by decide)) fun _ => sv_nil (ih _ _ Φ (fun z hz' => hz z (List.mem_cons_of_mem _ hz')) h))
  have s13 : Sb 1300 x.num := hx.l.o.n.mono (by decide)
  have s13d : Sb 1300 x.den := hx.l.d.mono (by decide)
  refine sv_cons (s_for (T := tStr) (xs := nearM x.num x.den) 8 (passes_of rfl) rfl hN (ev_call gs.gnr gs.nr.kp (ea_cons (fv V_law_single_5 rfl) (ea_cons (fv V_law_single_6 rfl) ea_nil)) (by exact gs.nr.cP hr (x.num, x.den) ⟨s13, s13d⟩ rfl)) (loop (nearM x.num x.den) _ _ _ (fun z hz => ⟨near_len s13 s13d z hz, near_none hx.c z hz⟩) fun v8 v9 => ?_))
  exact sv_one (s_ret (ev_call gh.gif gh.isf.kp (ea_cons (ev_stat (fun _ => ev_glob ff.kf.gC) ff.ko.st (ea_cons (fv V_law_single_0 rfl) ea_nil) (by exact ff.of_.cP hr (.inl x) trivial rfl)) (ea_cons (fv V_law_single_1 rfl) (ea_cons (fv V_law_single_2 rfl) ea_nil))) (by exact gh.isf.cP hr (x, p, q) (sx_isF hs hx) rfl)) rfl)
end Lw
set_option maxHeartbeats 4000000
namespace Lw
open PySem PyProof.Rows L2 FL
local macro_rules | `(tactic| walk_at "mk") => `(tactic| first | exact nomark _ | rfl | (with_unfolding_all rfl))
local macro_rules | `(tactic| walk_at "ov") => `(tactic| first | exact ov_add | exact ov_sub | exact ov_lt | exact ov_le | exact ov_gt | exact ov_ge | exact ov_eqI | exact ov_neI | exact ov_eqB | exact ov_neB | exact ov_eqS | exact ov_neS | exact ov_mul (by assumption) | exact ov_fdiv (by assumption) | exact ov_mod (by assumption))
local macro_rules | `(tactic| walk_at "uv") => `(tactic| exact uv_neg)
local macro_rules | `(tactic| walk_at "ci") => `(tactic| first | exact cv_isiO (tv_own isIns (by assumption)) (by assumption) | exact cv_isiO tv_int (by assumption) | exact cv_isiB (tv_own isIns (by assumption)) (by assumption) | exact cv_isiB tv_int (kit_ty (r := true) (by decide +kernel)) | exact cv_isiB tv_int (kit_ty (r := false) (by decide +kernel)) | exact cv_isiB tv_bl (kit_ty (r := true) (by decide +kernel)) | exact cv_isiB tv_bl (kit_ty (r := false) (by decide +kernel)) | exact cv_isiB tv_str (kit_ty (r := true) (by decide +kernel)) | exact cv_isiB tv_str (kit_ty (r := false) (by decide +kernel)))

variable {P : Program} {w : World} {K : PySem.W.Frag} {mg : Str → Option Value} {base : Heap} {C CD CC CT CS : Addr}
def z9 : Str := rep "9" 60
def m60 : Int := 10 ^ (60 : Int).toNat - 1
theorem rd_cl {x : Str} {f : Fr} (h : strF f = x) (hp : 0 < f.den) (hc : Nat.gcd f.num.natAbs f.den.natAbs = 1) (h1 : f.num.natAbs < 10 ^ 60) (h2 : f.den.natAbs < 10 ^ 60) (hl : x.length ≤ 1000000) {t u : Int} (hf : f = ⟨t, u⟩) :
    x.length ≤ 1000000 ∧ readM x = some f ∧ strF f = x ∧ Low f ∧ IsF f t u := by
  have s1 : Sb 300 f.num := Nat.lt_trans h1 (by decide)
  have s2 : Sb 300 f.den := Nat.lt_trans h2 (by decide)
  subst hf
  exact ⟨hl, by rw [← h]; exact read_strF ⟨hp, hc⟩ h1 h2, h, ⟨⟨s1, s2.mono (by decide), hp⟩, s2, hc⟩, ⟨s1.mono (by decide), s2.mono (by decide), hp, rfl, hc, s1.mono (by decide), s2.mono (by decide)⟩⟩
def z9m : Str := ("-" : Str) ++ z9
def z9d : Str := ("1/" : Str) ++ z9
def z59 : Str := rep "0" 59
def zlg : Str := ((("-" : Str) ++ z9) ++ ("/1" : Str)) ++ z59
def t59 : Int := 10 ^ (59 : Int).toNat
theorem r1 : z9.length ≤ 1000000 ∧ readM z9 = some ⟨m60, 1⟩ ∧ strF ⟨m60, 1⟩ = z9 ∧ Low ⟨m60, 1⟩ ∧ IsF ⟨m60, 1⟩ m60 1 := rd_cl (by decide +kernel) (by decide +kernel) (by decide +kernel) (by decide +kernel) (by decide +kernel) (by decide +kernel) rfl
theorem r2 : z9m.length ≤ 1000000 ∧ readM z9m = some ⟨-m60, 1⟩ ∧ strF ⟨-m60, 1⟩ = z9m ∧ Low ⟨-m60, 1⟩ ∧ IsF ⟨-m60, 1⟩ (-m60) 1 := rd_cl (by decide +kernel) (by decide +kernel) (by decide +kernel) (by decide +kernel) (by decide +kernel) (by decide +kernel) rfl
theorem r3 : z9d.length ≤ 1000000 ∧ readM z9d = some ⟨1, m60⟩ ∧ strF ⟨1, m60⟩ = z9d ∧ Low ⟨1, m60⟩ ∧ IsF ⟨1, m60⟩ 1 m60 := rd_cl (by decide +kernel) (by decide +kernel) (by decide +kernel) (by decide +kernel) (by decide +kernel) (by decide +kernel) rfl
theorem r4 : zlg.length ≤ 1000000 ∧ readM zlg = some ⟨-m60, t59⟩ ∧ strF ⟨-m60, t59⟩ = zlg ∧ Low ⟨-m60, t59⟩ ∧ IsF ⟨-m60, t59⟩ (-m60) t59 := rd_cl (by decide +kernel) (by decide +kernel) (by decide +kernel) (by decide +kernel) (by decide +kernel) (by decide +kernel) rfl
theorem z9_len : z9.length ≤ 100 := by decide +kernel
theorem z59_len : z59.length ≤ 100 := by decide +kernel
abbrev N_law_long_texts : List Str := ["nines", "most", "long"]
theorem S_law_long_texts : FnScope N_law_long_texts [] d_law_long_texts.scope := ⟨by rfl, by rfl, by rfl, by decide, by rfl, by decide, by decide⟩
theorem V_law_long_texts_0 : VarOk N_law_long_texts d_law_long_texts.scope 0 "nines" := ⟨by rfl, by first | exact Or.inl rfl | exact Or.inr (Or.inl rfl) | exact Or.inr (Or.inr rfl), by decide, by decide⟩
theorem V_law_long_texts_1 : VarOk N_law_long_texts d_law_long_texts.scope 1 "most" := ⟨by rfl, by first | exact Or.inl rfl | exact Or.inr (Or.inl rfl) | exact Or.inr (Or.inr rfl), by decide, by decide⟩
theorem V_law_long_texts_2 : VarOk N_law_long_texts d_law_long_texts.scope 2 "long" := ⟨by rfl, by first | exact Or.inl rfl | exact Or.inr (Or.inl rfl) | exact Or.inr (Or.inr rfl), by decide, by decide⟩
theorem B_law_long_texts {K : PySem.W.Frag} : ∀ fd, FunD K d_law_long_texts.name d_law_long_texts.qual d_law_long_texts.params d_law_long_texts.body d_law_long_texts.scope (d_law_long_texts.dvs K) (d_law_long_texts.kws K) (d_law_long_texts.ad K) fd → Binds K fd [] [] := fun fd F => FunD.bindsN (show FunD K d_law_long_texts.name d_law_long_texts.qual d_law_long_texts.params d_law_long_texts.body d_law_long_texts.scope [] (d_law_long_texts.kws K) (d_law_long_texts.ad K) fd from F) fun kV doc pm an cdv ct us h => match us, h with
  | [], _ => rfl
theorem fo_long (F : Fu K d_law_long_texts) (grd : mg "_law_reads" = some (.ref (d_law_reads.ad K))) (rd : Fo P w K mg base 5 d_law_reads ["text", "t", "u"] spReads) :
    Fo P w K mg base 6 d_law_long_texts [] (spT (ι := Unit) (fun _ => True) (fun _ => [])) := by
  refine Fo.of F S_law_long_texts (fun _ => rfl) B_law_long_texts ?_
  rintro _ _ cdv A outer s H E hr
  have hN := S_law_long_texts.nd
  have p6 : CPow 10 60 := by unfold CPow; decide
  have p59 : CPow 10 59 := by unfold CPow; decide
  have e9 : ∀ {Γ : Gm}, OV (cxOf (L2N.CX P w) P w K mg base N_law_long_texts d_law_long_texts.qual d_law_long_texts.scope (d_law_long_texts.ad K) cdv A outer s H E) (binaryOp .Mult) [] tStr ("9" : Str) tInt 60 tStr z9 [] := fun {_} => ov_mulS (by decide) (by decide) (by decide +kernel) (by decide +kernel)
  have e59 : ∀ {Γ : Gm}, OV (cxOf (L2N.CX P w) P w K mg base N_law_long_texts d_law_long_texts.qual d_law_long_texts.scope (d_law_long_texts.ad K) cdv A outer s H E) (binaryOp .Mult) [] tStr ("0" : Str) tInt 59 tStr z59 [] := fun {_} => ov_mulS (by decide) (by decide) (by decide +kernel) (by decide +kernel)
  have k1 := r1
  have k2 := r2
  have k3 := r3
  have k4 := r4
  have l1 := z9_len
  have l2 := z59_len
  have k5 : ("-" : Str) ++ z9 = z9m := rfl
  have k6 : ("1/" : Str) ++ z9 = z9d := rfl
  have k7 : ((("-" : Str) ++ z9) ++ ("/1" : Str)) ++ z59 = zlg := rfl
  have a1 : (10 : Int) ^ (60 : Int).toNat - 1 = m60 := rfl
  have a2 : (10 : Int) ^ (59 : Int).toNat = t59 := rfl
  have e9 := @e9 []
  have e59 := @e59 []
  generalize z9 = y9 at *
  generalize z59 = y59 at *
  generalize m60 = mm at *
  generalize t59 = tt at *
  refine sv_cons (s_set (x := y9) 0 hN (fe_op ev_str ev_int e9) (sv_cons (s_set (x := mm) 1 hN (EV.eq (fe_op (fe_op ev_int ev_int (ov_pow p6)) ev_int ov_sub) a1) ?_)))
  have d1 : ("-" : Str).length ≤ 10 := by decide +kernel
  have d2 : ("/1" : Str).length ≤ 10 := by decide +kernel
  refine sv_cons (s_set (x := zlg) 2 hN (EV.eq (fe_op (fe_op (fe_op ev_str (fv V_law_long_texts_0 rfl) (ov_addS (addS_ok d1 l1))) ev_str (ov_addS (addS_ok (app_le d1 l1) d2))) (fe_op ev_str ev_int e59) (ov_addS (addS_ok (app_le (app_le d1 l1) d2) l2))) k7) ?_)
  refine sv_cons (s_if (k := !true || !true) (EW.t (ew_or (et_not (et_val (ev_call grd rd.kp (ea_cons (fv V_law_long_texts_0 rfl) (ea_cons (fv V_law_long_texts_1 rfl) (ea_cons ev_int ea_nil))) (by exact rd.cP hr (y9, ⟨mm, 1⟩, mm, 1) k1 rfl)))) fun _ => ew_or1 (et_not (et_val (ev_call grd rd.kp (ea_cons (EV.eq (fe_op ev_str (fv V_law_long_texts_0 rfl) (ov_addS (addS_ok (a := 10) (by decide +kernel) l1))) k5) (ea_cons (fe_un (fv V_law_long_texts_1 rfl) (by walk_at "uv")) (ea_cons ev_int ea_nil))) (by exact rd.cP hr (z9m, ⟨-mm, 1⟩, -mm, 1) k2 rfl)))))) (fun hk => absurd hk (by decide)) fun _ => sv_nil ?_)
  refine sv_one (s_ret (x := true && true) (ev_and (ev_call grd rd.kp (ea_cons (EV.eq (fe_op ev_str (fv V_law_long_texts_0 rfl) (ov_addS (addS_ok (a := 10) (by decide +kernel) l1))) k6) (ea_cons ev_int (ea_cons (fv V_law_long_texts_1 rfl) ea_nil))) (by exact rd.cP hr (z9d, ⟨1, mm⟩, 1, mm) k3 rfl)) fun _ => ev_one (ev_call grd rd.kp (ea_cons (fv V_law_long_texts_2 rfl) (ea_cons (fe_un (fv V_law_long_texts_1 rfl) (by walk_at "uv")) (ea_cons (EV.eq (fe_op ev_int ev_int (ov_pow p59)) a2) ea_nil))) (by exact rd.cP hr (zlg, ⟨-mm, tt⟩, -mm, tt) k4 rfl))) ?_)
  rfl
end Lw
set_option maxHeartbeats 4000000
namespace Lw
open PySem
theorem rep_one {x : Fr} {p q : Int} (r : Rep x p q) (hc : Nat.gcd p.natAbs q.natAbs = 1) : p = x.num ∧ q = x.den := by
  obtain ⟨g, g0, hp, hq⟩ := r.ex
  have h : Nat.gcd (g.natAbs * x.num.natAbs) (g.natAbs * x.den.natAbs) = 1 := by rw [← Int.natAbs_mul, ← Int.natAbs_mul, ← hp, ← hq]; exact hc
  rw [Nat.gcd_mul_left] at h
  have h1 := Nat.eq_one_of_mul_eq_one_right h
  have : g = 1 := by omega
  subst this
  exact ⟨by rw [hp, Int.one_mul], by rw [hq, Int.one_mul]⟩
theorem nrm_same {n d n' d' : Int} (h0 : d ≠ 0) (h0' : d' ≠ 0) (h : n * d' = n' * d) : nrm n d = nrm n' d' := by
  have e1 := nrm_eq (n := n) (d := d)
  have e2 := nrm_eq (n := n') (d := d')
  have p1 := nrm_pos (n := n) h0
  have p2 := nrm_pos (n := n') h0'
  have c1 := nrm_cop (n := n) h0
  have c2 := nrm_cop (n := n') h0'
  generalize nrm n d = x at *
  generalize nrm n' d' = y at *
  have e : d * d' * (x.num * y.den - y.num * x.den) = 0 := by grind
  have e3 : x.num * y.den = y.num * x.den := by
    rcases Int.mul_eq_zero.mp e with z | z
    · rcases Int.mul_eq_zero.mp z with z | z
      · exact absurd z h0
      · exact absurd z h0'
    · omega
  obtain ⟨a, b⟩ := rep_one (rep_of e3 p1 c1 p2) c2
  cases x; cases y
  simp only at a b
  rw [a, b]
theorem up_sg {a b c : Int} (h : PtOk a b c) : ∃ p q, upr a b = [p, q] ∧ Sg p q ∧ a * q = p * b := by
  unfold upr
  have h0 := h.b0
  by_cases hb : b < 0
  · rw [if_pos hb]
    exact ⟨-a, -b, rfl, ⟨by omega, by rw [Int.natAbs_neg]; exact h.a, by rw [Int.natAbs_neg]; exact h.b⟩, by rw [Int.neg_mul, Int.mul_neg]⟩
  · rw [if_neg hb]
    exact ⟨a, b, rfl, ⟨by omega, h.a, h.b⟩, rfl⟩
theorem fr_same {a b c d p q : Int} (h0 : b ≠ 0) (hd : 0 < d) (hq : 0 < q) (h : a * q = p * b) : nrm (a * d) (b * d) = nrm p q :=
  nrm_same (fun z => (Int.mul_eq_zero.mp z).elim h0 (fun w => by omega)) (Int.ne_of_gt hq) (by grind)
theorem sg_pq {p q : Int} (h : Sg p q) : Pq (nrm p q) p q := by
  have s := sx_of h
  exact ⟨s.r, Nat.lt_trans s.n (by decide), Nat.lt_trans s.d (by decide), s.c.p, s.c.c, (d57 h.p).mono (by decide), (d57 h.q).mono (by decide)⟩
theorem n60 {n : Int} (h : n.natAbs < 10 ^ 60) : Sb 200 n := Nat.lt_trans h (by decide)
theorem int_pq {n : Int} (h : n.natAbs < 10 ^ 60) : Pq ⟨n, 1⟩ n 1 :=
  ⟨⟨1, by decide, by rw [Int.one_mul], rfl⟩, (n60 h).mono (by decide), Nat.one_lt_two_pow (by decide), (show (0 : Int) < 1 by decide), by show Nat.gcd n.natAbs 1 = 1; exact Nat.gcd_one_right _, (n60 h).mono (by decide), Nat.one_lt_two_pow (by decide)⟩
theorem pq_isF {x : Fr} {p q : Int} (h : Pq x p q) : IsF x p q := by
  obtain ⟨g, g0, hp, hq⟩ := h.r.ex
  exact ⟨h.n.mono (by decide), h.d.mono (by decide), h.p0, by rw [hp, hq]; grind, h.c, h.p.mono (by decide), h.q.mono (by decide)⟩
theorem pq_over {x y : Fr} {p q r s : Int} (hx : Pq x p q) (hy : Pq y r s) (h0 : r ≠ 0) : IsF (overF x y) (p * s) (q * r) := by
  have y0 : y.num ≠ 0 := fun z => h0 ((pq_zero hy).mpr z)
  obtain ⟨g, g0, hp, hq⟩ := hx.r.ex
  obtain ⟨h, h1, hr, hs⟩ := hy.r.ex
  refine isF_nrm (fun z => (Int.mul_eq_zero.mp z).elim (Int.ne_of_gt hx.p0) y0) (by rw [hp, hq, hr, hs]; grind) ((hx.n.mul hy.d).mono (by decide)) ((hx.d.mul hy.n).mono (by decide)) ((hx.p.mul hy.q).mono (by decide)) ((hx.q.mul hy.p).mono (by decide))
theorem eq_ok {a b c p q n : Int} (h : PtOk a b c) (hs : Sg p q) (he : a * q = p * b) (hn : n.natAbs < 10 ^ 60) : EqOk (nrm p q) (nrm (a * c + 1) (b * c)) n p q := by
  have bc : b * c ≠ 0 := fun z => (Int.mul_eq_zero.mp z).elim h.b0 (fun w => by have := h.c1; omega)
  have s := sx_of hs
  have e1 : nrm (a * c) (b * c) = nrm p q := fr_same (c := 0) h.b0 (by have := h.c1; omega) hs.q0 he
  refine ⟨?_, ?_, hs.q0, (d57 hs.q).mono (by decide), (n60 hn).mono (by decide)⟩
  · rw [← e1]
    have e2 := nrm_eq (n := a * c) (d := b * c)
    have e3 := nrm_eq (n := a * c + 1) (d := b * c)
    have p1 := nrm_pos (n := a * c) bc
    rintro ⟨z1, z2⟩
    rw [← z1, ← z2] at e3
    have : (nrm (a * c) (b * c)).den = 0 := by grind
    omega
  · obtain ⟨g, g0, hp, hq⟩ := s.r.ex
    have c1 := s.c
    generalize nrm p q = x at *
    constructor
    · intro hh
      have e : g * (x.num - n * x.den) = 0 := by grind
      have e2 : x.num = n * x.den := by
        rcases Int.mul_eq_zero.mp e with z | z
        · omega
        · omega
      have g1 := c1.c
      rw [e2, Int.natAbs_mul, Nat.gcd_eq_right (Nat.dvd_mul_left _ _)] at g1
      have := c1.p
      have d1 : x.den = 1 := by omega
      exact ⟨by rw [e2, d1, Int.mul_one], d1⟩
    · rintro ⟨z1, z2⟩
      rw [hp, hq, z1, z2]
      grind
end Lw
set_option maxHeartbeats 4000000
namespace FL
open PySem PyProof.Rows L2
section
variable {X : Cx} {W : WX} {Γ : Gm} {M : Mem} {c : FCell} {sts : List Stmt} {Φ : Out → Prop}
theorem sv_drop (h : SV X W sts Γ M Φ) : SV X W sts Γ (c :: M) Φ := fun σ I H D g s o k =>
  have go := (Go.refl s o).forget
  h σ I H D g s go.own fun out ho => (k out ho).after o go
end
end FL
namespace Lw
open PySem PyProof.Rows L2 FL
local macro_rules | `(tactic| walk_at "mk") => `(tactic| first | exact nomark _ | rfl | (with_unfolding_all rfl))
local macro_rules | `(tactic| walk_at "ov") => `(tactic| first | exact ov_add | exact ov_sub | exact ov_lt | exact ov_le | exact ov_gt | exact ov_ge | exact ov_eqI | exact ov_neI | exact ov_eqB | exact ov_neB | exact ov_eqS | exact ov_neS | exact ov_mul (by assumption) | exact ov_fdiv (by assumption) | exact ov_mod (by assumption))
local macro_rules | `(tactic| walk_at "uv") => `(tactic| exact uv_neg)
local macro_rules | `(tactic| walk_at "ci") => `(tactic| first | exact cv_isiO (tv_own isIns (by assumption)) (by assumption) | exact cv_isiO tv_int (by assumption) | exact cv_isiB (tv_own isIns (by assumption)) (by assumption) | exact cv_isiB tv_int (kit_ty (r := true) (by decide +kernel)) | exact cv_isiB tv_int (kit_ty (r := false) (by decide +kernel)) | exact cv_isiB tv_bl (kit_ty (r := true) (by decide +kernel)) | exact cv_isiB tv_bl (kit_ty (r := false) (by decide +kernel)) | exact cv_isiB tv_str (kit_ty (r := true) (by decide +kernel)) | exact cv_isiB tv_str (kit_ty (r := false) (by decide +kernel)))

variable {P : Program} {w : World} {K : PySem.W.Frag} {mg : Str → Option Value} {base : Heap} {C CD CC CT CS : Addr}
abbrev spEqu (C : Addr) : Sp := spT (ι := Fr × Fr × Int × Int × Int) (fun i => EqOk i.1 i.2.1 i.2.2.1 i.2.2.2.1 i.2.2.2.2) (fun i => [⟨Fr, tFr C, i.1⟩, ⟨Fr, tFr C, i.1⟩, ⟨Fr, tFr C, i.2.1⟩, ⟨Int, tInt, i.2.2.1⟩, ⟨Int, tInt, i.2.2.2.1⟩, ⟨Int, tInt, i.2.2.2.2⟩])
abbrev spSing (C : Addr) : Sp := spT (ι := Int × Int × Int) (fun i => Sg i.1 i.2.1 ∧ 0 ≤ i.2.2 ∧ i.2.2 ≤ 64) (fun i => [⟨Fr, tFr C, nrm i.1 i.2.1⟩, ⟨Int, tInt, i.1⟩, ⟨Int, tInt, i.2.1⟩, ⟨Int, tInt, i.2.2⟩])
abbrev spCref (C : Addr) : Sp := spT (ι := Fr × Int) (fun i => (Ok 300 i.1 ∧ Sb 300 i.1.den ∧ Nat.gcd i.1.num.natAbs i.1.den.natAbs = 1) ∧ ¬ (0 ≤ i.2 ∧ i.2 ≤ 64)) (fun i => [⟨Fr, tFr C, i.1⟩, ⟨Int, tInt, i.2⟩])
abbrev spZer (C : Addr) : Sp := spT (ι := Fr × Int) (fun i => Ok 1400 i.1 ∧ Sb 1400 i.2) (fun i => [⟨Fr, tFr C, i.1⟩, ⟨Int, tInt, i.2⟩])
structure GR (P : Program) (w : World) (K : PySem.W.Frag) (mg : Str → Option Value) (base : Heap) (C : Addr) (tm : Tok) : Prop where
  gop : mg "_law_open" = some (.ref (d_law_open.ad K))
  op : Fo P w K mg base 1 d_law_open ["script"] (spOpen K)
  gtn : mg "_law_turn" = some (.ref (d_law_turn.ad K))
  tn : Fo P w K mg base 1 d_law_turn ["pool"] spTurn
  gdr : mg "_law_draw" = some (.ref (d_law_draw.ad K))
  dr : Fo P w K mg base 1 d_law_draw ["pool", "many"] spDraw
  gpt : mg "_law_parts" = some (.ref (d_law_parts.ad K))
  pt : Fo P w K mg base 2 d_law_parts ["pool", "great"] spParts
  gsc : mg "_law_second" = some (.ref (d_law_second.ad K))
  sc : Fo P w K mg base 3 d_law_second ["pool", "great", "first"] spSecond
  gup : mg "_law_upright" = some (.ref (d_law_upright.ad K))
  up : Fo P w K mg base 1 d_law_upright ["parts"] spUpr
  gpr : mg "_law_pair" = some (.ref (d_law_pair.ad K))
  pr : Fo P w K mg base 5 d_law_pair ["x", "y", "p", "q", "r", "s"] (spPair C)
  geq : mg "_law_equalities" = some (.ref (d_law_equalities.ad K))
  eq : Fo P w K mg base 5 d_law_equalities ["one", "same", "apart", "n", "p", "q"] (spEqu C)
  gsg : mg "_law_single" = some (.ref (d_law_single.ad K))
  sg : Fo P w K mg base 6 d_law_single ["one", "p", "q", "power"] (spSing C)
  gcr : mg "_law_count_refused" = some (.ref (d_law_count_refused.ad K))
  cr : Fo P w K mg base 4 d_law_count_refused ["x", "k"] (spCref C)
  gzs : mg "_law_zeros" = some (.ref (d_law_zeros.ad K))
  zs : Fo P w K mg base 7 d_law_zeros ["one", "n"] (spZer C)
  glt : mg "_law_long_texts" = some (.ref (d_law_long_texts.ad K))
  lt : Fo P w K mg base 6 d_law_long_texts [] (spT (ι := Unit) (fun _ => True) (fun _ => []))
  rdC : PySem.W.readsIn K C (.type "type") = true
  md : PySem.W.findCls K (.ref C) (.type "type") "MOST_DIGITS" = some (.val (.int 60 tm))
def rwV (C : Addr) (x y : Fr ⊕ Int) (p q r s : Int) : FV := ⟨Unit, tHL [nmV C x, nmV C y, ⟨List Int, tLs tInt, [p, q]⟩, ⟨List Int, tLs tInt, [r, s]⟩], ()⟩
abbrev N_law_run : List Str := ["script", "pool", "great", "power", "beyond", "first", "second", "third", "n", "one", "other", "same", "apart", "a", "b", "rows", "row", "k", "total"]
theorem S_law_run : FnScope N_law_run ["script"] d_law_run.scope := ⟨by rfl, by rfl, by rfl, by decide, by rfl, by decide, by decide⟩
theorem V_law_run_0 : VarOk N_law_run d_law_run.scope 0 "script" := ⟨by rfl, by first | exact Or.inl rfl | exact Or.inr (Or.inl rfl) | exact Or.inr (Or.inr rfl), by decide, by decide⟩
theorem V_law_run_1 : VarOk N_law_run d_law_run.scope 1 "pool" := ⟨by rfl, by first | exact Or.inl rfl | exact Or.inr (Or.inl rfl) | exact Or.inr (Or.inr rfl), by decide, by decide⟩
theorem V_law_run_2 : VarOk N_law_run d_law_run.scope 2 "great" := ⟨by rfl, by first | exact Or.inl rfl | exact Or.inr (Or.inl rfl) | exact Or.inr (Or.inr rfl), by decide, by decide⟩
theorem V_law_run_3 : VarOk N_law_run d_law_run.scope 3 "power" := ⟨by rfl, by first | exact Or.inl rfl | exact Or.inr (Or.inl rfl) | exact Or.inr (Or.inr rfl), by decide, by decide⟩
theorem V_law_run_4 : VarOk N_law_run d_law_run.scope 4 "beyond" := ⟨by rfl, by first | exact Or.inl rfl | exact Or.inr (Or.inl rfl) | exact Or.inr (Or.inr rfl), by decide, by decide⟩
theorem V_law_run_5 : VarOk N_law_run d_law_run.scope 5 "first" := ⟨by rfl, by first | exact Or.inl rfl | exact Or.inr (Or.inl rfl) | exact Or.inr (Or.inr rfl), by decide, by decide⟩
theorem V_law_run_6 : VarOk N_law_run d_law_run.scope 6 "second" := ⟨by rfl, by first | exact Or.inl rfl | exact Or.inr (Or.inl rfl) | exact Or.inr (Or.inr rfl), by decide, by decide⟩
theorem V_law_run_7 : VarOk N_law_run d_law_run.scope 7 "third" := ⟨by rfl, by first | exact Or.inl rfl | exact Or.inr (Or.inl rfl) | exact Or.inr (Or.inr rfl), by decide, by decide⟩
theorem V_law_run_8 : VarOk N_law_run d_law_run.scope 8 "n" := ⟨by rfl, by first | exact Or.inl rfl | exact Or.inr (Or.inl rfl) | exact Or.inr (Or.inr rfl), by decide, by decide⟩
theorem V_law_run_9 : VarOk N_law_run d_law_run.scope 9 "one" := ⟨by rfl, by first | exact Or.inl rfl | exact Or.inr (Or.inl rfl) | exact Or.inr (Or.inr rfl), by decide, by decide⟩
theorem V_law_run_10 : VarOk N_law_run d_law_run.scope 10 "other" := ⟨by rfl, by first | exact Or.inl rfl | exact Or.inr (Or.inl rfl) | exact Or.inr (Or.inr rfl), by decide, by decide⟩
theorem V_law_run_11 : VarOk N_law_run d_law_run.scope 11 "same" := ⟨by rfl, by first | exact Or.inl rfl | exact Or.inr (Or.inl rfl) | exact Or.inr (Or.inr rfl), by decide, by decide⟩
theorem V_law_run_12 : VarOk N_law_run d_law_run.scope 12 "apart" := ⟨by rfl, by first | exact Or.inl rfl | exact Or.inr (Or.inl rfl) | exact Or.inr (Or.inr rfl), by decide, by decide⟩
theorem V_law_run_13 : VarOk N_law_run d_law_run.scope 13 "a" := ⟨by rfl, by first | exact Or.inl rfl | exact Or.inr (Or.inl rfl) | exact Or.inr (Or.inr rfl), by decide, by decide⟩
theorem V_law_run_14 : VarOk N_law_run d_law_run.scope 14 "b" := ⟨by rfl, by first | exact Or.inl rfl | exact Or.inr (Or.inl rfl) | exact Or.inr (Or.inr rfl), by decide, by decide⟩
theorem V_law_run_15 : VarOk N_law_run d_law_run.scope 15 "rows" := ⟨by rfl, by first | exact Or.inl rfl | exact Or.inr (Or.inl rfl) | exact Or.inr (Or.inr rfl), by decide, by decide⟩
theorem V_law_run_16 : VarOk N_law_run d_law_run.scope 16 "row" := ⟨by rfl, by first | exact Or.inl rfl | exact Or.inr (Or.inl rfl) | exact Or.inr (Or.inr rfl), by decide, by decide⟩
theorem V_law_run_17 : VarOk N_law_run d_law_run.scope 17 "k" := ⟨by rfl, by first | exact Or.inl rfl | exact Or.inr (Or.inl rfl) | exact Or.inr (Or.inr rfl), by decide, by decide⟩
theorem V_law_run_18 : VarOk N_law_run d_law_run.scope 18 "total" := ⟨by rfl, by first | exact Or.inl rfl | exact Or.inr (Or.inl rfl) | exact Or.inr (Or.inr rfl), by decide, by decide⟩
theorem B_law_run {K : PySem.W.Frag} : ∀ fd, FunD K d_law_run.name d_law_run.qual d_law_run.params d_law_run.body d_law_run.scope (d_law_run.dvs K) (d_law_run.kws K) (d_law_run.ad K) fd → Binds K fd ["script"] [] := fun fd F => FunD.bindsN (show FunD K d_law_run.name d_law_run.qual d_law_run.params d_law_run.body d_law_run.scope [] (d_law_run.kws K) (d_law_run.ad K) fd from F) fun kV doc pm an cdv ct us h => match us, h with
  | [u0], _ => rfl
section
variable {outer : List Env} {cdv : Value} {A : Around} {sh : Shared} {H : Hp} {E : XK}
theorem run_end {tm : Tok} {v0 v1 v2 v5 v6 v7 v15 v16 : Option FV} {one other apart : Fr} {n k p q r s by_ : Int} (ff : FF P w K mg base C CD CC CT) (gh : GH P w K mg base C) (gr : GR P w K mg base C tm) (hr : Room 7 (A.deeper (envOfC d_law_run.qual d_law_run.scope sh.heap.objs.size (d_law_run.ad K) cdv)))
    (h1 : Sg p q) (h2 : Sg r s) (e1 : one = nrm p q) (e2 : other = nrm r s) (hn : n.natAbs < 10 ^ 60) (he : EqOk one apart n p q) (hk : 0 ≤ k ∧ k ≤ 64) (hb : 0 ≤ by_) :
    SV (cxOf (L2N.CX P w) P w K mg base N_law_run d_law_run.qual d_law_run.scope (d_law_run.ad K) cdv A outer sh H E) (fun cls d _ H' => E cls d H') (d_law_run.body.drop 25) [v0, v1, v2, some ⟨Int, tInt, k⟩, some ⟨Int, tInt, by_⟩, v5, v6, v7, some ⟨Int, tInt, n⟩, some ⟨Fr, tFr C, one⟩, some ⟨Fr, tFr C, other⟩, some ⟨Fr, tFr C, one⟩, some ⟨Fr, tFr C, apart⟩, some ⟨List Int, tLs tInt, [p, q]⟩, some ⟨List Int, tLs tInt, [r, s]⟩, v15, v16, none, none] [] (retN fun o => o = .ret ⟨Bool, tBl, true⟩ []) := by
  have hN := S_law_run.nd
  have x1 := sx_of h1
  have x2 := sx_of h2
  have p1 := sg_pq h1
  have p2 := sg_pq h2
  have p3 := int_pq hn
  rw [← e1] at x1 p1
  rw [← e2] at x2 p2
  have m1 : CMulW p s := p1.p.cm p2.q
  have m2 : CMulW q r := p1.q.cm p2.p
  have m3 : CMulW q n := p1.q.cm p3.p
  have m4 : CMulW r q := p2.p.cm p1.q
  have m5 : CMulW q s := p1.q.cm p2.q
  have oT : ∀ (I : Hp) (v : V), (tFr C).r I v one → ∃ a dx fs, v = .ref a ∧ I a = some (.ins C dx fs) ∧ fs.lookup ("over" : Str) = none := fun I v ⟨a, dx, z1, z2⟩ => ⟨a, dx, _, z1, z2, rfl⟩
  refine sv_cons (s_if (k := !true) (et_not (et_val (ev_call gr.geq gr.eq.kp (ea_cons (fv V_law_run_9 rfl) (ea_cons (fv V_law_run_11 rfl) (ea_cons (fv V_law_run_12 rfl) (ea_cons (fv V_law_run_8 rfl) (ea_cons (ev_ixLs (fv V_law_run_13 rfl) ev_int rfl) (ea_cons (ev_ixLs (fv V_law_run_13 rfl) ev_int rfl) ea_nil)))))) (by exact gr.eq.cP hr (one, apart, n, p, q) he rfl)))) (fun z => absurd z (by decide)) fun _ => sv_nil ?_)
  refine sv_cons (s_if (k := !true) (et_not (et_val (ev_call gr.gsg gr.sg.kp (ea_cons (fv V_law_run_9 rfl) (ea_cons (ev_ixLs (fv V_law_run_13 rfl) ev_int rfl) (ea_cons (ev_ixLs (fv V_law_run_13 rfl) ev_int rfl) (ea_cons (fv V_law_run_3 rfl) ea_nil)))) (by exact gr.sg.cP hr (p, q, k) ⟨h1, hk⟩ (by rw [e1]))))) (fun z => absurd z (by decide)) fun _ => sv_nil ?_)
  have tail : SV (cxOf (L2N.CX P w) P w K mg base N_law_run d_law_run.qual d_law_run.scope (d_law_run.ad K) cdv A outer sh H E) (fun cls d _ H' => E cls d H') (d_law_run.body.drop 28) [v0, v1, v2, some ⟨Int, tInt, k⟩, some ⟨Int, tInt, by_⟩, v5, v6, v7, some ⟨Int, tInt, n⟩, some ⟨Fr, tFr C, one⟩, some ⟨Fr, tFr C, other⟩, some ⟨Fr, tFr C, one⟩, some ⟨Fr, tFr C, apart⟩, some ⟨List Int, tLs tInt, [p, q]⟩, some ⟨List Int, tLs tInt, [r, s]⟩, v15, v16, none, none] [] (retN fun o => o = .ret ⟨Bool, tBl, true⟩ []) := by
    refine sv_cons (s_if (EW.t (ew_and (l := !true) (ft_cmp (fv V_law_run_8 rfl) ev_int (by walk_at "ov") (by walk_at "mk")) fun hz => ew_and1 (et_not (et_val (ev_call gh.gif gh.isf.kp (ea_cons (ev_meth (T := tFr C) (x := one) (fv V_law_run_9 rfl) oT ff.kf.c ff.ko.ov (ea_cons (fv V_law_run_8 rfl) ea_nil) (by exact ff.over.c0 hr (one, .inr n) ⟨p1.ok (by decide), p3.ok (by decide)⟩ rfl (dv_ret (show ¬ n = 0 by simpa using hz)))) (ea_cons (ev_ixLs (fv V_law_run_13 rfl) ev_int rfl) (ea_cons (fe_op (ev_ixLs (fv V_law_run_13 rfl) ev_int rfl) (fv V_law_run_8 rfl) (by walk_at "ov")) ea_nil))) (by exact gh.isf.cP hr (overF one ⟨n, 1⟩, p, q * n) (by have z := pq_over p1 p3 (by simpa using hz); rw [Int.mul_one] at z; exact z) rfl)))))) (fun z => ?_) fun _ => sv_nil ?_)
    · exfalso; simp at z
    have turn : ∀ (j : Int) (Φ : Out → Prop) (Kn : Gm → Mem → Prop), ¬ (0 ≤ j ∧ j ≤ 64) → Kn [v0, v1, v2, some ⟨Int, tInt, k⟩, some ⟨Int, tInt, by_⟩, v5, v6, v7, some ⟨Int, tInt, n⟩, some ⟨Fr, tFr C, one⟩, some ⟨Fr, tFr C, other⟩, some ⟨Fr, tFr C, one⟩, some ⟨Fr, tFr C, apart⟩, some ⟨List Int, tLs tInt, [p, q]⟩, some ⟨List Int, tLs tInt, [r, s]⟩, v15, v16, some ⟨Int, tInt, j⟩, none] [] →
        SV (cxOf (L2N.CX P w) P w K mg base N_law_run d_law_run.qual d_law_run.scope (d_law_run.ad K) cdv A outer sh H E) (fun cls d _ H' => E cls d H') (match d_law_run.body[29]? with | some (Stmt.For _ _ b _ _) => b | _ => []) [v0, v1, v2, some ⟨Int, tInt, k⟩, some ⟨Int, tInt, by_⟩, v5, v6, v7, some ⟨Int, tInt, n⟩, some ⟨Fr, tFr C, one⟩, some ⟨Fr, tFr C, other⟩, some ⟨Fr, tFr C, one⟩, some ⟨Fr, tFr C, apart⟩, some ⟨List Int, tLs tInt, [p, q]⟩, some ⟨List Int, tLs tInt, [r, s]⟩, v15, v16, some ⟨Int, tInt, j⟩, none] [] (Turn1 Φ Kn) := fun j Φ Kn hj h =>
      sv_one (s_if (k := !true) (et_not (et_val (ev_call gr.gcr gr.cr.kp (ea_cons (fv V_law_run_9 rfl) (ea_cons (fv V_law_run_17 rfl) ea_nil)) (by exact gr.cr.cP hr (one, j) ⟨⟨x1.l.o, x1.l.d, x1.l.c⟩, hj⟩ rfl)))) (fun z => absurd z (by decide)) fun _ => sv_nil h)
    refine sv_cons (s_for (xs := [-1, 65, -1 - by_, 65 + by_]) 17 (passes_of rfl) rfl hN ((EVN.frz (evn_list (ea_cons (fe_un ev_int (by walk_at "uv")) (ea_cons ev_int (ea_cons (fe_op (fe_un ev_int (by walk_at "uv")) (fv V_law_run_4 rfl) (by walk_at "ov")) (ea_cons (fe_op ev_int (fv V_law_run_4 rfl) (by walk_at "ov")) ea_nil))))) frz_het).as fun I v h => hl_ls (T := tInt) (xs := [-1, 65, -1 - by_, 65 + by_]) h) ?_)
    refine turn (-1) _ _ (by decide) (turn 65 _ _ (by decide) (turn (-1 - by_) _ _ (by omega) (turn (65 + by_) _ _ (by omega) ?_)))
    refine sv_cons (s_if (k := !true || (!true || !decide ((60 : Int) = 60))) (EW.t (ew_or (et_not (et_val (ev_call gr.gzs gr.zs.kp (ea_cons (fv V_law_run_9 rfl) (ea_cons (fv V_law_run_8 rfl) ea_nil)) (by exact gr.zs.cP hr (one, n) ⟨p1.ok (by decide), p3.p.mono (by decide)⟩ rfl)))) fun _ => ew_or (et_not (et_val (ev_call0 gr.glt gr.lt.kp (by exact gr.lt.cP hr () trivial rfl)))) fun _ => ew_or1 (ft_cmp (ev_clsI (ev_glob ff.kf.gC) gr.rdC gr.md) ev_int ov_neI (by walk_at "mk")))) (fun z => absurd z (by decide)) fun _ => sv_nil ?_)
    refine sv_cons (s_set 18 hN (fv V_law_run_9 rfl) (sv_cons (s_augO 18 hN rfl isIns isIns ff.ko.ib ff.ko.add (fv V_law_run_10 rfl) (by exact ff.add.cP hr (one, .inl other) ⟨p1.ok (by decide), p2.ok (by decide)⟩ rfl) ?_)))
    refine sv_cons (s_if (k := !true) (et_not (et_val (ev_call gh.gif gh.isf.kp (ea_cons (fv V_law_run_18 rfl) (ea_cons (fe_op (fe_op (ev_ixLs (fv V_law_run_13 rfl) ev_int rfl) (ev_ixLs (fv V_law_run_14 rfl) ev_int rfl) (by walk_at "ov")) (fe_op (ev_ixLs (fv V_law_run_14 rfl) ev_int rfl) (ev_ixLs (fv V_law_run_13 rfl) ev_int rfl) (by walk_at "ov")) (by walk_at "ov")) (ea_cons (fe_op (ev_ixLs (fv V_law_run_13 rfl) ev_int rfl) (ev_ixLs (fv V_law_run_14 rfl) ev_int rfl) (by walk_at "ov")) ea_nil))) (by exact gh.isf.cP hr (addF one other, p * s + r * q, q * s) (pq_add p1 p2) rfl)))) (fun z => absurd z (by decide)) fun _ => sv_nil ?_)
    refine sv_one (s_ret (x := true && true) (ev_and (ev_call gh.gif gh.isf.kp (ea_cons (fv V_law_run_9 rfl) (ea_cons (ev_ixLs (fv V_law_run_13 rfl) ev_int rfl) (ea_cons (ev_ixLs (fv V_law_run_13 rfl) ev_int rfl) ea_nil))) (by exact gh.isf.cP hr (one, p, q) (pq_isF p1) rfl)) fun _ => ev_one (ev_call gh.gif gh.isf.kp (ea_cons (fv V_law_run_10 rfl) (ea_cons (ev_ixLs (fv V_law_run_14 rfl) ev_int rfl) (ea_cons (ev_ixLs (fv V_law_run_14 rfl) ev_int rfl) ea_nil))) (by exact gh.isf.cP hr (other, r, s) (pq_isF p2) rfl))) ?_)
    rfl
  refine sv_cons (s_if (ft_cmp (ev_ixLs (fv V_law_run_14 rfl) ev_int rfl) ev_int (by walk_at "ov") (by walk_at "mk")) (fun hz => ?_) fun _ => sv_nil tail)
  have hz : r ≠ 0 := by simpa using hz
  refine sv_one (s_if (k := !true) (et_not (et_val (ev_call gh.gif gh.isf.kp (ea_cons (ev_meth (T := tFr C) (x := one) (fv V_law_run_9 rfl) oT ff.kf.c ff.ko.ov (ea_cons (fv V_law_run_10 rfl) ea_nil) (by exact ff.over.c0 hr (one, .inl other) ⟨p1.ok (by decide), p2.ok (by decide)⟩ rfl (dv_ret (fun z => hz ((pq_zero p2).mpr z))))) (ea_cons (fe_op (ev_ixLs (fv V_law_run_13 rfl) ev_int rfl) (ev_ixLs (fv V_law_run_14 rfl) ev_int rfl) (by walk_at "ov")) (ea_cons (fe_op (ev_ixLs (fv V_law_run_13 rfl) ev_int rfl) (ev_ixLs (fv V_law_run_14 rfl) ev_int rfl) (by walk_at "ov")) ea_nil))) (by exact gh.isf.cP hr (overF one other, p * s, q * r) (pq_over p1 p2 hz) rfl)))) (fun z => absurd z (by decide)) fun _ => sv_nil tail)
theorem run_mid {tm : Tok} {v0 v1 v2 : Option FV} {n k by_ a0 b0 c0 a1 b1 c1 a2 b2 c2 : Int} (ff : FF P w K mg base C CD CC CT) (gh : GH P w K mg base C) (gr : GR P w K mg base C tm) (hr : Room 7 (A.deeper (envOfC d_law_run.qual d_law_run.scope sh.heap.objs.size (d_law_run.ad K) cdv)))
    (h1 : PtOk a0 b0 c0) (h2 : PtOk a1 b1 c1) (hn : n.natAbs < 10 ^ 60) (hk : 0 ≤ k ∧ k ≤ 64) (hb : 0 ≤ by_) :
    SV (cxOf (L2N.CX P w) P w K mg base N_law_run d_law_run.qual d_law_run.scope (d_law_run.ad K) cdv A outer sh H E) (fun cls d _ H' => E cls d H') (d_law_run.body.drop 11) [v0, v1, v2, some ⟨Int, tInt, k⟩, some ⟨Int, tInt, by_⟩, some ⟨List Int, tLs tInt, [a0, b0, c0]⟩, some ⟨List Int, tLs tInt, [a1, b1, c1]⟩, some ⟨List Int, tLs tInt, [a2, b2, c2]⟩, some ⟨Int, tInt, n⟩, none, none, none, none, none, none, none, none, none, none] [] (retN fun o => o = .ret ⟨Bool, tBl, true⟩ []) := by
  have hN := S_law_run.nd
  obtain ⟨p, q, u1, g1, e1⟩ := up_sg h1
  obtain ⟨r, s, u2, g2, e2⟩ := up_sg h2
  have z1 : 0 < c0 := by have := h1.c1; omega
  have z2 : 0 < c1 := by have := h2.c1; omega
  have sc0 : Sb 20 c0 := by have := h1.c2; exact sb_lt (Int.le_of_lt z1) (by omega)
  have sc1 : Sb 20 c1 := by have := h2.c2; exact sb_lt (Int.le_of_lt z2) (by omega)
  have sa0 : Sb 200 a0 := d57 h1.a
  have sb0 : Sb 200 b0 := d57 h1.b
  have sa1 : Sb 200 a1 := d57 h2.a
  have sb1 : Sb 200 b1 := d57 h2.b
  have m1 : CMulW a0 c0 := sa0.cm sc0
  have m2 : CMulW b0 c0 := sb0.cm sc0
  have m3 : CMulW b1 c1 := sb1.cm sc1
  have m4 : CMulW a1 c1 := sa1.cm sc1
  have m5 : CMulW a0 c1 := sa0.cm sc1
  have m6 : CMulW b0 c1 := sb0.cm sc1
  have n0 : ∀ {b c : Int}, b ≠ 0 → 0 < c → b * c ≠ 0 := fun hb hc z => (Int.mul_eq_zero.mp z).elim hb (fun w => by omega)
  have d1 : b0 * c0 ≠ 0 := n0 h1.b0 z1
  have d2 : b1 * c1 ≠ 0 := n0 h2.b0 z2
  have d3 : b0 * c1 ≠ 0 := n0 h1.b0 z2
  have l1 : ∀ n : Int, Nat.gcd n.natAbs (b0 * c0).natAbs < 2 ^ 3000 := fun n => log_ok ((sb0.mul sc0).mono (by decide)) d1
  have l2 : ∀ n : Int, Nat.gcd n.natAbs (b1 * c1).natAbs < 2 ^ 3000 := fun n => log_ok ((sb1.mul sc1).mono (by decide)) d2
  have l3 : ∀ n : Int, Nat.gcd n.natAbs (b0 * c1).natAbs < 2 ^ 3000 := fun n => log_ok ((sb0.mul sc1).mono (by decide)) d3
  have f1 : nrm (a0 * c0) (b0 * c0) = nrm p q := fr_same (c := 0) h1.b0 z1 g1.q0 e1
  have f2 : nrm (a1 * c1) (b1 * c1) = nrm r s := fr_same (c := 0) h2.b0 z2 g2.q0 e2
  have f3 : nrm (a0 * c1) (b0 * c1) = nrm p q := fr_same (c := 0) h1.b0 z2 g1.q0 e1
  have he := eq_ok (c := c0) h1 g1 e1 hn
  have p1 := sg_pq g1
  have p2 := sg_pq g2
  have p3 := int_pq hn
  refine sv_cons (s_set (x := nrm p q) 9 hN (EV.eq (ev_frac2 ff.fi hr (ea_cons (fe_op (ev_ixLs (fv V_law_run_5 rfl) ev_int rfl) (ev_ixLs (fv V_law_run_5 rfl) ev_int rfl) (by walk_at "ov")) (ea_cons (fe_op (ev_ixLs (fv V_law_run_5 rfl) ev_int rfl) (ev_ixLs (fv V_law_run_5 rfl) ev_int rfl) (by walk_at "ov")) ea_nil)) d1 (l1 _)) f1) ?_)
  refine sv_cons (s_set (x := nrm r s) 10 hN (EV.eq (ev_fracK ff.fi hr (fe_op (ev_ixLs (fv V_law_run_6 rfl) ev_int rfl) (ev_ixLs (fv V_law_run_6 rfl) ev_int rfl) (by walk_at "ov")) (fe_op (ev_ixLs (fv V_law_run_6 rfl) ev_int rfl) (ev_ixLs (fv V_law_run_6 rfl) ev_int rfl) (by walk_at "ov")) d2 (l2 _)) f2) ?_)
  refine sv_cons (s_set (x := nrm p q) 11 hN (EV.eq (ev_frac2 ff.fi hr (ea_cons (fe_op (ev_ixLs (fv V_law_run_5 rfl) ev_int rfl) (ev_ixLs (fv V_law_run_6 rfl) ev_int rfl) (by walk_at "ov")) (ea_cons (fe_op (ev_ixLs (fv V_law_run_5 rfl) ev_int rfl) (ev_ixLs (fv V_law_run_6 rfl) ev_int rfl) (by walk_at "ov")) ea_nil)) d3 (l3 _)) f3) ?_)
  refine sv_cons (s_set (x := nrm (a0 * c0 + 1) (b0 * c0)) 12 hN (ev_frac2 ff.fi hr (ea_cons (fe_op (fe_op (ev_ixLs (fv V_law_run_5 rfl) ev_int rfl) (ev_ixLs (fv V_law_run_5 rfl) ev_int rfl) (by walk_at "ov")) ev_int (by walk_at "ov")) (ea_cons (fe_op (ev_ixLs (fv V_law_run_5 rfl) ev_int rfl) (ev_ixLs (fv V_law_run_5 rfl) ev_int rfl) (by walk_at "ov")) ea_nil)) d1 (l1 _)) ?_)
  have upc : ∀ (a b c : Int) (M : Mem), CVN (cxOf (L2N.CX P w) P w K mg base N_law_run d_law_run.qual d_law_run.scope (d_law_run.ad K) cdv A outer sh H E) (.ref (d_law_upright.ad K)) [⟨List Int, tLs tInt, [a, b, c]⟩] M (cLst tInt) (upr a b) M := fun a b c M => gr.up.cN hr (a, b, c) trivial rfl (Mo := []) (fun o h => h) (fun _ h => h) [] M
  refine sv_cons (s_set (x := [p, q]) 13 hN (EV.eq (EVN.frz (evn_call gr.gup gr.up.kp (ea_cons (fv V_law_run_5 rfl) ea_nil) (upc a0 b0 c0 [])) frz_ls) u1) ?_)
  refine sv_cons (s_set (x := [r, s]) 14 hN (EV.eq (EVN.frz (evn_call gr.gup gr.up.kp (ea_cons (fv V_law_run_6 rfl) ea_nil) (upc a1 b1 c1 [])) frz_ls) u2) ?_)
  generalize hx : nrm p q = x at *
  generalize hy : nrm r s = y at *
  generalize nrm (a0 * c0 + 1) (b0 * c0) = z at *
  refine sv_cons (s_if (k := !true || !true) (EW.t (ew_or (et_not (et_val (ev_call gh.gif gh.isf.kp (ea_cons (fv V_law_run_9 rfl) (ea_cons (ev_ixLs (fv V_law_run_13 rfl) ev_int rfl) (ea_cons (ev_ixLs (fv V_law_run_13 rfl) ev_int rfl) ea_nil))) (by exact gh.isf.cP hr (x, p, q) (pq_isF p1) rfl)))) fun _ => ew_or1 (et_not (et_val (ev_call gh.gif gh.isf.kp (ea_cons (fv V_law_run_10 rfl) (ea_cons (ev_ixLs (fv V_law_run_14 rfl) ev_int rfl) (ea_cons (ev_ixLs (fv V_law_run_14 rfl) ev_int rfl) ea_nil))) (by exact gh.isf.cP hr (y, r, s) (pq_isF p2) rfl)))))) (fun z => absurd z (by decide)) fun _ => sv_nil ?_)
  refine sv_cons (s_if (k := !true || !true) (EW.t (ew_or (et_not (et_val (ev_call gh.gif gh.isf.kp (ea_cons (ev_frac0 ff.fi hr) (ea_cons ev_int (ea_cons ev_int ea_nil))) (by exact gh.isf.cP hr (⟨0, 1⟩, 0, 1) (pq_isF (int_pq (n := 0) (by decide))) rfl)))) fun _ => ew_or1 (et_not (et_val (ev_call gh.gif gh.isf.kp (ea_cons (ev_frac1 ff.fi hr (ea_cons (fv V_law_run_8 rfl) ea_nil)) (ea_cons (fv V_law_run_8 rfl) (ea_cons ev_int ea_nil))) (by exact gh.isf.cP hr (⟨n, 1⟩, n, 1) (pq_isF p3) rfl)))))) (fun z => absurd z (by decide)) fun _ => sv_nil ?_)
  refine sv_cons (s_if (k := !true) (et_not (et_val (ev_call gh.gif gh.isf.kp (ea_cons (ev_stat (fun _ => ev_glob ff.kf.gC) ff.ko.st (ea_cons (fv V_law_run_8 rfl) ea_nil) (by exact ff.of_.cP hr (.inr n) trivial rfl)) (ea_cons (fv V_law_run_8 rfl) (ea_cons ev_int ea_nil))) (by exact gh.isf.cP hr (⟨n, 1⟩, n, 1) (pq_isF p3) rfl)))) (fun z => absurd z (by decide)) fun _ => sv_nil ?_)
  have rowE : ∀ (u v : Fr ⊕ Int) (a b c d : Int) {x1 x2 x3 x4 : Expr} {pos : Pos} {Γ : Gm} {M : Mem}, EV (cxOf (L2N.CX P w) P w K mg base N_law_run d_law_run.qual d_law_run.scope (d_law_run.ad K) cdv A outer sh H E) x1 Γ M (nmV C u).T (nmV C u).x M → EV (cxOf (L2N.CX P w) P w K mg base N_law_run d_law_run.qual d_law_run.scope (d_law_run.ad K) cdv A outer sh H E) x2 Γ M (nmV C v).T (nmV C v).x M → EV (cxOf (L2N.CX P w) P w K mg base N_law_run d_law_run.qual d_law_run.scope (d_law_run.ad K) cdv A outer sh H E) x3 Γ M (tLs tInt) [a, b] M → EV (cxOf (L2N.CX P w) P w K mg base N_law_run d_law_run.qual d_law_run.scope (d_law_run.ad K) cdv A outer sh H E) x4 Γ M (tLs tInt) [c, d] M → starEach [x1, x2, x3, x4] (cxOf (L2N.CX P w) P w K mg base N_law_run d_law_run.qual d_law_run.scope (d_law_run.ad K) cdv A outer sh H E).env = (false, eval x1 (cxOf (L2N.CX P w) P w K mg base N_law_run d_law_run.qual d_law_run.scope (d_law_run.ad K) cdv A outer sh H E).env) :: starEach [x2, x3, x4] (cxOf (L2N.CX P w) P w K mg base N_law_run d_law_run.qual d_law_run.scope (d_law_run.ad K) cdv A outer sh H E).env → starEach [x2, x3, x4] (cxOf (L2N.CX P w) P w K mg base N_law_run d_law_run.qual d_law_run.scope (d_law_run.ad K) cdv A outer sh H E).env = (false, eval x2 (cxOf (L2N.CX P w) P w K mg base N_law_run d_law_run.qual d_law_run.scope (d_law_run.ad K) cdv A outer sh H E).env) :: starEach [x3, x4] (cxOf (L2N.CX P w) P w K mg base N_law_run d_law_run.qual d_law_run.scope (d_law_run.ad K) cdv A outer sh H E).env → starEach [x3, x4] (cxOf (L2N.CX P w) P w K mg base N_law_run d_law_run.qual d_law_run.scope (d_law_run.ad K) cdv A outer sh H E).env = (false, eval x3 (cxOf (L2N.CX P w) P w K mg base N_law_run d_law_run.qual d_law_run.scope (d_law_run.ad K) cdv A outer sh H E).env) :: starEach [x4] (cxOf (L2N.CX P w) P w K mg base N_law_run d_law_run.qual d_law_run.scope (d_law_run.ad K) cdv A outer sh H E).env → starEach [x4] (cxOf (L2N.CX P w) P w K mg base N_law_run d_law_run.qual d_law_run.scope (d_law_run.ad K) cdv A outer sh H E).env = (false, eval x4 (cxOf (L2N.CX P w) P w K mg base N_law_run d_law_run.qual d_law_run.scope (d_law_run.ad K) cdv A outer sh H E).env) :: starEach [] (cxOf (L2N.CX P w) P w K mg base N_law_run d_law_run.qual d_law_run.scope (d_law_run.ad K) cdv A outer sh H E).env → EV (cxOf (L2N.CX P w) P w K mg base N_law_run d_law_run.qual d_law_run.scope (d_law_run.ad K) cdv A outer sh H E) (.List [x1, x2, x3, x4] pos) Γ M (tHL [nmV C u, nmV C v, ⟨List Int, tLs tInt, [a, b]⟩, ⟨List Int, tLs tInt, [c, d]⟩]) () M :=
    fun u v a b c d {_ _ _ _ _ _ _} y1 y2 y3 y4 s1 s2 s3 s4 => EVN.frz (evn_list (ea_cons y1 (ea_cons y2 (ea_cons y3 (ea_cons y4 ea_nil s4) s3) s2) s1) (hz := show (4 : Nat) ≤ 1000 by decide)) frz_het
  have litE : ∀ {Γ : Gm} {M : Mem} {pos : Pos} {e1 e2 : Expr}, EV (cxOf (L2N.CX P w) P w K mg base N_law_run d_law_run.qual d_law_run.scope (d_law_run.ad K) cdv A outer sh H E) e1 Γ M tInt n M → EV (cxOf (L2N.CX P w) P w K mg base N_law_run d_law_run.qual d_law_run.scope (d_law_run.ad K) cdv A outer sh H E) e2 Γ M tInt 1 M → starEach [e1, e2] (cxOf (L2N.CX P w) P w K mg base N_law_run d_law_run.qual d_law_run.scope (d_law_run.ad K) cdv A outer sh H E).env = (false, eval e1 (cxOf (L2N.CX P w) P w K mg base N_law_run d_law_run.qual d_law_run.scope (d_law_run.ad K) cdv A outer sh H E).env) :: starEach [e2] (cxOf (L2N.CX P w) P w K mg base N_law_run d_law_run.qual d_law_run.scope (d_law_run.ad K) cdv A outer sh H E).env → starEach [e2] (cxOf (L2N.CX P w) P w K mg base N_law_run d_law_run.qual d_law_run.scope (d_law_run.ad K) cdv A outer sh H E).env = (false, eval e2 (cxOf (L2N.CX P w) P w K mg base N_law_run d_law_run.qual d_law_run.scope (d_law_run.ad K) cdv A outer sh H E).env) :: starEach [] (cxOf (L2N.CX P w) P w K mg base N_law_run d_law_run.qual d_law_run.scope (d_law_run.ad K) cdv A outer sh H E).env → EV (cxOf (L2N.CX P w) P w K mg base N_law_run d_law_run.qual d_law_run.scope (d_law_run.ad K) cdv A outer sh H E) (.List [e1, e2] pos) Γ M (tLs tInt) [n, 1] M := fun {_ _ _ _ _} y1 y2 s1 s2 => (EVN.frz (evn_list (ea_cons y1 (ea_cons y2 ea_nil s2) s1) (hz := show (2 : Nat) ≤ 1000 by decide)) frz_het).as fun I v h => hl_ls (T := tInt) (xs := [n, 1]) h
  refine sv_cons (s_setN 15 hN (evn_list (ea_cons (rowE (.inl x) (.inl y) p q r s (fv V_law_run_9 rfl) (fv V_law_run_10 rfl) (fv V_law_run_13 rfl) (fv V_law_run_14 rfl) rfl rfl rfl rfl) (ea_cons (rowE (.inl y) (.inl x) r s p q (fv V_law_run_10 rfl) (fv V_law_run_9 rfl) (fv V_law_run_14 rfl) (fv V_law_run_13 rfl) rfl rfl rfl rfl) ea_nil))) fun rw => ?_)
  refine sv_cons (s_appendH (A := []) (B := []) (T := tHL [nmV C (.inl x), nmV C (.inl x), ⟨List Int, tLs tInt, [p, q]⟩, ⟨List Int, tLs tInt, [p, q]⟩]) (fv V_law_run_15 rfl) (rowE (.inl x) (.inl x) p q p q (fv V_law_run_9 rfl) (fv V_law_run_11 rfl) (fv V_law_run_13 rfl) (fv V_law_run_13 rfl) rfl rfl rfl rfl) (by show (2 : Nat) < 1000; decide) ?_ List.mem_cons_self)
  refine sv_cons (s_appendH (A := []) (B := []) (T := tHL [nmV C (.inl x), nmV C (.inr n), ⟨List Int, tLs tInt, [p, q]⟩, ⟨List Int, tLs tInt, [n, 1]⟩]) (fv V_law_run_15 rfl) (rowE (.inl x) (.inr n) p q n 1 (fv V_law_run_9 rfl) (fv V_law_run_8 rfl) (fv V_law_run_13 rfl) (litE (fv V_law_run_8 rfl) ev_int rfl rfl) rfl rfl rfl rfl) (by show (3 : Nat) < 1000; decide) ?_ List.mem_cons_self)
  refine sv_cons (s_appendH (A := []) (B := []) (T := tHL [nmV C (.inr n), nmV C (.inl x), ⟨List Int, tLs tInt, [n, 1]⟩, ⟨List Int, tLs tInt, [p, q]⟩]) (fv V_law_run_15 rfl) (rowE (.inr n) (.inl x) n 1 p q (fv V_law_run_8 rfl) (fv V_law_run_9 rfl) (litE (fv V_law_run_8 rfl) ev_int rfl rfl) (fv V_law_run_13 rfl) rfl rfl rfl rfl) (by show (4 : Nat) < 1000; decide) ?_ List.mem_cons_self)
  refine sv_frz (A := []) (B := []) 15 (T := tHL [rwV C (.inl x) (.inl y) p q r s, rwV C (.inl y) (.inl x) r s p q, rwV C (.inl x) (.inl x) p q p q, rwV C (.inl x) (.inr n) p q n 1, rwV C (.inr n) (.inl x) n 1 p q]) frz_het ?_
  have pairs : ∀ (u v : Fr ⊕ Int) (a b c d : Int) (v15 : Option FV) (Φ : Out → Prop) (Kn : Gm → Mem → Prop), lr u v → Pq (toF u) a b → Pq (toF v) c d → Kn [v0, v1, v2, some ⟨Int, tInt, k⟩, some ⟨Int, tInt, by_⟩, some ⟨List Int, tLs tInt, [a0, b0, c0]⟩, some ⟨List Int, tLs tInt, [a1, b1, c1]⟩, some ⟨List Int, tLs tInt, [a2, b2, c2]⟩, some ⟨Int, tInt, n⟩, some ⟨Fr, tFr C, x⟩, some ⟨Fr, tFr C, y⟩, some ⟨Fr, tFr C, x⟩, some ⟨Fr, tFr C, z⟩, some ⟨List Int, tLs tInt, [p, q]⟩, some ⟨List Int, tLs tInt, [r, s]⟩, v15, some (rwV C u v a b c d), none, none] [] →
      SV (cxOf (L2N.CX P w) P w K mg base N_law_run d_law_run.qual d_law_run.scope (d_law_run.ad K) cdv A outer sh H E) (fun cls d _ H' => E cls d H') (match d_law_run.body[24]? with | some (Stmt.For _ _ b _ _) => b | _ => []) [v0, v1, v2, some ⟨Int, tInt, k⟩, some ⟨Int, tInt, by_⟩, some ⟨List Int, tLs tInt, [a0, b0, c0]⟩, some ⟨List Int, tLs tInt, [a1, b1, c1]⟩, some ⟨List Int, tLs tInt, [a2, b2, c2]⟩, some ⟨Int, tInt, n⟩, some ⟨Fr, tFr C, x⟩, some ⟨Fr, tFr C, y⟩, some ⟨Fr, tFr C, x⟩, some ⟨Fr, tFr C, z⟩, some ⟨List Int, tLs tInt, [p, q]⟩, some ⟨List Int, tLs tInt, [r, s]⟩, v15, some (rwV C u v a b c d), none, none] [] (Turn1 Φ Kn) := fun u v a b c d v15 Φ Kn hl hu hv h =>
    sv_one (s_if (k := !true) (et_not (et_val (ev_call gr.gpr gr.pr.kp (ea_cons (x := (nmV C u).x) (ev_ixHL (j := 0) (fv V_law_run_16 rfl) ev_int rfl rfl) (ea_cons (x := (nmV C v).x) (ev_ixHL (j := 1) (fv V_law_run_16 rfl) ev_int rfl rfl) (ea_cons (x := a) (ev_ixLs (ev_ixHL (j := 2) (fv V_law_run_16 rfl) ev_int rfl rfl) ev_int rfl) (ea_cons (x := b) (ev_ixLs (ev_ixHL (j := 2) (fv V_law_run_16 rfl) ev_int rfl rfl) ev_int rfl) (ea_cons (x := c) (ev_ixLs (ev_ixHL (j := 3) (fv V_law_run_16 rfl) ev_int rfl rfl) ev_int rfl) (ea_cons (x := d) (ev_ixLs (ev_ixHL (j := 3) (fv V_law_run_16 rfl) ev_int rfl rfl) ev_int rfl) ea_nil)))))) (by exact gr.pr.cP hr (u, v, a, b, c, d) ⟨hl, hu, hv⟩ rfl)))) (fun z => absurd z (by decide)) fun _ => sv_nil h)
  have lll : ∀ (u v : Fr), lr (.inl u) (.inl v) := fun u v i j z => by cases z.1
  refine sv_cons (s_forH (ts := [rwV C (.inl x) (.inl y) p q r s, rwV C (.inl y) (.inl x) r s p q, rwV C (.inl x) (.inl x) p q p q, rwV C (.inl x) (.inr n) p q n 1, rwV C (.inr n) (.inl x) n 1 p q]) 16 (passes_of rfl) rfl hN (fv V_law_run_15 rfl) ?_)
  refine pairs (.inl x) (.inl y) p q r s _ _ _ (lll x y) p1 p2 ?_
  refine pairs (.inl y) (.inl x) r s p q _ _ _ (lll y x) p2 p1 ?_
  refine pairs (.inl x) (.inl x) p q p q _ _ _ (lll x x) p1 p1 ?_
  refine pairs (.inl x) (.inr n) p q n 1 _ _ _ (fun i j z => by cases z.1) p1 p3 ?_
  refine pairs (.inr n) (.inl x) n 1 p q _ _ _ (fun i j z => by cases z.2) p3 p1 ?_
  exact run_end ff gh gr hr g1 g2 hx.symm hy.symm hn he hk hb
end
end Lw
set_option maxHeartbeats 4000000
namespace Lw
open PySem PyProof.Rows L2 FL
local macro_rules | `(tactic| walk_at "mk") => `(tactic| first | exact nomark _ | rfl | (with_unfolding_all rfl))
local macro_rules | `(tactic| walk_at "ov") => `(tactic| first | exact ov_add | exact ov_sub | exact ov_lt | exact ov_le | exact ov_gt | exact ov_ge | exact ov_eqI | exact ov_neI | exact ov_eqB | exact ov_neB | exact ov_eqS | exact ov_neS | exact ov_mul (by assumption) | exact ov_fdiv (by assumption) | exact ov_mod (by assumption))
local macro_rules | `(tactic| walk_at "uv") => `(tactic| exact uv_neg)
local macro_rules | `(tactic| walk_at "ci") => `(tactic| first | exact cv_isiO (tv_own isIns (by assumption)) (by assumption) | exact cv_isiO tv_int (by assumption) | exact cv_isiB (tv_own isIns (by assumption)) (by assumption) | exact cv_isiB tv_int (kit_ty (r := true) (by decide +kernel)) | exact cv_isiB tv_int (kit_ty (r := false) (by decide +kernel)) | exact cv_isiB tv_bl (kit_ty (r := true) (by decide +kernel)) | exact cv_isiB tv_bl (kit_ty (r := false) (by decide +kernel)) | exact cv_isiB tv_str (kit_ty (r := true) (by decide +kernel)) | exact cv_isiB tv_str (kit_ty (r := false) (by decide +kernel)))

variable {P : Program} {w : World} {K : PySem.W.Frag} {mg : Str → Option Value} {base : Heap} {C CD CC CT CS : Addr}
theorem d60 {a c : Int} (h : a.natAbs < 10 ^ 57) (h1 : 1 ≤ c) (h2 : c ≤ 1000) : (a * c).natAbs < 10 ^ 60 := by
  rw [Int.natAbs_mul]
  have : c.natAbs ≤ 1000 := by omega
  calc a.natAbs * c.natAbs ≤ a.natAbs * 1000 := Nat.mul_le_mul_left _ this
    _ < 10 ^ 57 * 1000 := Nat.mul_lt_mul_of_pos_right h (by decide)
    _ = 10 ^ 60 := by decide
theorem fo_run {tm : Tok} (F : Fu K d_law_run) (ff : FF P w K mg base C CD CC CT) (gh : GH P w K mg base C) (gr : GR P w K mg base C tm) :
    Fo P w K mg base 8 d_law_run ["script"] (spT (ι := List Int) (fun xs => xs.length ≤ 1000000) (fun xs => [⟨List Int, tScr K, xs⟩])) := by
  refine Fo.of F S_law_run (fun _ => rfl) B_law_run ?_
  intro xs hx cdv A outer sh H E hr
  have hN := S_law_run.nd
  refine sv_cons (s_setE (Ψ := fun t M' => ∃ q p, PlOk 0 0 p ∧ t = ⟨Addr, tAdr, q⟩ ∧ M' = [fPl q p]) 1 hN (ev_callE gr.gop gr.op.kp (ea_cons (fv V_law_run_0 rfl) ea_nil) (by exact gr.op.cE hr xs hx rfl [] [] (by rintro o ⟨q, p, h1, rfl⟩; exact ⟨_, _, rfl, q, p, h1, rfl, rfl⟩))) ?_)
  rintro _ _ ⟨q, p0, ok0, rfl, rfl⟩
  refine sv_cons (s_exprE (Ψ := fun _ M' => ∃ p', PlOk (0 + 1) 0 p' ∧ M' = [fPl q p']) (ev_callE gr.gtn gr.tn.kp (ea_cons (fv V_law_run_1 rfl) ea_nil) (by exact gr.tn.cE hr (q, p0, 0, 0) ⟨show 0 ≤ 1000 by decide, ok0⟩ rfl [] [] (by rintro o ⟨p', h1, rfl⟩; exact ⟨_, _, rfl, p', h1, rfl⟩))) ?_)
  rintro _ _ ⟨p1, ok1, rfl⟩
  have ok1 : PlOk 1 0 p1 := ok1
  clear ok0
  -- draws
  have drw : ∀ (p : Pl) (many : Int) (n : Nat), 0 < many → many ≤ 1000000 → n ≤ 1000000 → PlOk 1 n p → CV (cxOf (L2N.CX P w) P w K mg base N_law_run d_law_run.qual d_law_run.scope (d_law_run.ad K) cdv A outer sh H E) (.ref (d_law_draw.ad K)) [⟨Addr, tAdr, q⟩, ⟨Int, tInt, many⟩] [fPl q p] tInt (drawM p many).1 [fPl q (drawM p many).2] := fun p many n h1 h2 h3 ok => gr.dr.cM hr (q, p, many, 1, n) ⟨h1, h2, h3, ok⟩ rfl (fun o h => h) [] []
  refine sv_cons (s_set 2 hN (fe_cmp (ev_call gr.gdr gr.dr.kp (ea_cons (fv V_law_run_1 rfl) (ea_cons ev_int ea_nil)) (drw p1 8 0 (by decide) (by decide) (by decide) ok1)) ev_int (by walk_at "ov") (by walk_at "mk")) ?_)
  have e2 := draw_ok (many := 8) (by decide) ok1
  generalize drawM p1 8 = r at *
  obtain ⟨x1, p2⟩ := r
  have ok2 : PlOk 1 1 p2 := e2.2.2
  generalize hg : decide (x1 = 5) = great at *
  refine sv_cons (s_set 3 hN (ev_call gr.gdr gr.dr.kp (ea_cons (fv V_law_run_1 rfl) (ea_cons ev_int ea_nil)) (drw p2 7 1 (by decide) (by decide) (by decide) ok2)) ?_)
  have e3 := draw_ok (many := 7) (by decide) ok2
  generalize drawM p2 7 = r at *
  obtain ⟨x2, p3⟩ := r
  have ok3 : PlOk 1 2 p3 := e3.2.2
  have a1 : 0 ≤ x2 := e3.1
  have a2 : x2 < 7 := e3.2.1
  have rest : ∀ (k : Int) (n : Nat) (p : Pl), 0 ≤ k ∧ k ≤ 64 → n ≤ 10 → PlOk 1 n p → SV (cxOf (L2N.CX P w) P w K mg base N_law_run d_law_run.qual d_law_run.scope (d_law_run.ad K) cdv A outer sh H E) (fun cls d _ H' => E cls d H') (d_law_run.body.drop 5) [some ⟨List Int, tScr K, xs⟩, some ⟨Addr, tAdr, q⟩, some ⟨Bool, tBl, great⟩, some ⟨Int, tInt, k⟩, none, none, none, none, none, none, none, none, none, none, none, none, none, none, none] [fPl q p] (retN fun o => o = .ret ⟨Bool, tBl, true⟩ []) := by
    intro k n p hk hn ok
    refine sv_cons (s_set 4 hN (ev_call gr.gdr gr.dr.kp (ea_cons (fv V_law_run_1 rfl) (ea_cons ev_int ea_nil)) (drw p 1000 n (by decide) (by decide) (by omega) ok)) ?_)
    have e4 := draw_ok (many := 1000) (by decide) ok
    generalize drawM p 1000 = r at *
    obtain ⟨by_, p4⟩ := r
    have ok4 : PlOk 1 (n + 1) p4 := e4.2.2
    have hb : 0 ≤ by_ := e4.1
    clear e4
    refine sv_cons (s_setE (Ψ := fun t' M' => ∃ r a b c p', PtOk a b c ∧ PlOk 2 100 p' ∧ t' = ⟨Addr, tAdr, r⟩ ∧ M' = [ptC r a b c, fPl q p']) 5 hN (ev_callE gr.gpt gr.pt.kp (ea_cons (fv V_law_run_1 rfl) (ea_cons (fv V_law_run_2 rfl) ea_nil)) (by exact gr.pt.cE hr (q, p4, great, 1, n + 1) ⟨show 1 ≤ 900 by decide, ok4⟩ rfl [] [] (by rintro o ⟨r, a, b, c, p', h1, h2, rfl⟩; exact ⟨_, _, rfl, r, a, b, c, p', h1, h2, rfl, rfl⟩))) ?_)
    rintro _ _ ⟨r1, a0, b0, c0, p5, f1, ok5, rfl, rfl⟩
    refine sv_frz (A := []) (B := [fPl q p5]) 5 (T := tLs tInt) frz_ls ?_
    refine sv_cons (s_setE (Ψ := fun t' M' => ∃ r a b c p', PtOk a b c ∧ PlOk 3 101 p' ∧ t' = ⟨Addr, tAdr, r⟩ ∧ M' = [ptC r a b c, fPl q p']) 6 hN (ev_callE gr.gsc gr.sc.kp (ea_cons (fv V_law_run_1 rfl) (ea_cons (fv V_law_run_2 rfl) (ea_cons (fv V_law_run_5 rfl) ea_nil))) (by exact gr.sc.cE hr (q, p5, great, 2, 100, a0, b0, c0) ⟨⟨show 2 ≤ 900 by decide, ok5⟩, f1⟩ rfl [] [] (by rintro o ⟨r, a, b, c, p', h1, h2, rfl⟩; exact ⟨_, _, rfl, r, a, b, c, p', h1, h2, rfl, rfl⟩))) ?_)
    rintro _ _ ⟨r2, a1, b1, c1, p6, f2, ok6, rfl, rfl⟩
    refine sv_frz (A := []) (B := [fPl q p6]) 6 (T := tLs tInt) frz_ls ?_
    refine sv_cons (s_setE (Ψ := fun t' M' => ∃ r a b c p', PtOk a b c ∧ PlOk 4 100 p' ∧ t' = ⟨Addr, tAdr, r⟩ ∧ M' = [ptC r a b c, fPl q p']) 7 hN (ev_callE gr.gpt gr.pt.kp (ea_cons (fv V_law_run_1 rfl) (ea_cons (fv V_law_run_2 rfl) ea_nil)) (by exact gr.pt.cE hr (q, p6, great, 3, 101) ⟨show 3 ≤ 900 by decide, ok6⟩ rfl [] [] (by rintro o ⟨r, a, b, c, p', h1, h2, rfl⟩; exact ⟨_, _, rfl, r, a, b, c, p', h1, h2, rfl, rfl⟩))) ?_)
    rintro _ _ ⟨r3, a2, b2, c2, p7, f3, ok7, rfl, rfl⟩
    refine sv_frz (A := []) (B := [fPl q p7]) 7 (T := tLs tInt) frz_ls ?_
    refine sv_drop ?_
    have fin : ∀ n : Int, n.natAbs < 10 ^ 60 → SV (cxOf (L2N.CX P w) P w K mg base N_law_run d_law_run.qual d_law_run.scope (d_law_run.ad K) cdv A outer sh H E) (fun cls d _ H' => E cls d H') (d_law_run.body.drop 11) [some ⟨List Int, tScr K, xs⟩, some ⟨Addr, tAdr, q⟩, some ⟨Bool, tBl, great⟩, some ⟨Int, tInt, k⟩, some ⟨Int, tInt, by_⟩, some ⟨List Int, tLs tInt, [a0, b0, c0]⟩, some ⟨List Int, tLs tInt, [a1, b1, c1]⟩, some ⟨List Int, tLs tInt, [a2, b2, c2]⟩, some ⟨Int, tInt, n⟩, none, none, none, none, none, none, none, none, none, none] [] (retN fun o => o = .ret ⟨Bool, tBl, true⟩ []) := fun n hn => run_mid ff gh gr hr f1 f2 hn hk hb
    refine sv_cons (s_set 8 hN (ev_ixLs (fv V_law_run_7 rfl) ev_int rfl) ?_)
    have m1 : CMulW a2 c2 := (d57 f3.a).cm (sb_lt (b := 20) (by have := f3.c1; omega) (by have := f3.c2; omega))
    refine sv_cons (s_if (et_val (fv V_law_run_2 rfl)) (fun _ => sv_one (s_set 8 hN (fe_op (ev_ixLs (fv V_law_run_7 rfl) ev_int rfl) (ev_ixLs (fv V_law_run_7 rfl) ev_int rfl) (by walk_at "ov")) (fin _ (d60 f3.a f3.c1 f3.c2)))) fun _ => sv_nil (fin _ (Nat.lt_of_lt_of_le f3.a (by decide))))
  refine sv_cons (s_if (ft_cmp (ev_call gr.gdr gr.dr.kp (ea_cons (fv V_law_run_1 rfl) (ea_cons ev_int ea_nil)) (drw p3 8 2 (by decide) (by decide) (by decide) ok3)) ev_int (by walk_at "ov") (by walk_at "mk")) (fun _ => ?_) fun _ => ?_)
  · have e5 := draw_ok (many := 8) (by decide) ok3
    generalize drawM p3 8 = r at *
    obtain ⟨x3, p4⟩ := r
    have ok4 : PlOk 1 3 p4 := e5.2.2
    refine sv_one (s_set 3 hN (ev_call gr.gdr gr.dr.kp (ea_cons (fv V_law_run_1 rfl) (ea_cons ev_int ea_nil)) (drw p4 65 3 (by decide) (by decide) (by decide) ok4)) ?_)
    have e6 := draw_ok (many := 65) (by decide) ok4
    exact rest _ 4 _ ⟨e6.1, by have := e6.2.1; omega⟩ (by decide) e6.2.2
  · have e5 := draw_ok (many := 8) (by decide) ok3
    exact sv_nil (rest x2 3 _ ⟨a1, by omega⟩ (by decide) e5.2.2)
abbrev N_law : List Str := ["script"]
theorem S_law : FnScope N_law ["script"] d_law.scope := ⟨by rfl, by rfl, by rfl, by decide, by rfl, by decide, by decide⟩
theorem V_law_0 : VarOk N_law d_law.scope 0 "script" := ⟨by rfl, by first | exact Or.inl rfl | exact Or.inr (Or.inl rfl) | exact Or.inr (Or.inr rfl), by decide, by decide⟩
theorem B_law {K : PySem.W.Frag} : ∀ fd, FunD K d_law.name d_law.qual d_law.params d_law.body d_law.scope (d_law.dvs K) (d_law.kws K) (d_law.ad K) fd → Binds K fd ["script"] [] := fun fd F => FunD.bindsN (show FunD K d_law.name d_law.qual d_law.params d_law.body d_law.scope [] (d_law.kws K) (d_law.ad K) fd from F) fun kV doc pm an cdv ct us h => match us, h with
  | [u0], _ => rfl
theorem ok_law {fd : FuncData} (F : FunD K d_law.name d_law.qual d_law.params d_law.body d_law.scope (d_law.dvs K) (d_law.kws K) (d_law.ad K) fd) (gr : mg "_law_run" = some (.ref (d_law_run.ad K))) (r : Fo P w K mg base 8 d_law_run ["script"] (spT (ι := List Int) (fun xs => xs.length ≤ 1000000) (fun xs => [⟨List Int, tScr K, xs⟩]))) :
    FnOk P w K mg base (L2N.CX P w) 9 (d_law.ad K) fd ["script"] (spT (ι := List Int) (fun xs => xs.length ≤ 1000000) (fun xs => [⟨List Int, tScr K, xs⟩])) := by
  refine fn_sv F S_law (fun _ => rfl) ?_
  intro xs hx cdv A outer sh H E hr
  have hN := S_law.nd
  refine sv_one (s_try rfl rfl hN takesOf fun pn xe W' tk' _ => sv_one (s_ret (x := true) (ev_call gr r.kp (ea_cons (fv V_law_0 rfl) ea_nil) (by exact r.cP hr xs hx rfl)) ?_))
  rfl
theorem law_at {K : PySem.W.Frag} {H : Hp} {a : Addr} {ns : List Int} (hl : ns.length ≤ 63) (ho : L2.Only H) (hS : SqL K H a (ns.map V.int)) : (spT (ι := List Int) (fun xs => xs.length ≤ 1000000) (fun xs => [⟨List Int, tScr K, xs⟩]) : Sp) [.ref a] H (fun v _ => v = .bl true) fun _ _ _ => False := by
  refine ⟨ns, H, Nat.le_trans hl (by decide), Same.refl _, Own.nil fun b o e => ?_, ⟨⟨a, rfl, hS⟩, trivial⟩, ?_⟩
  · rcases ho b with h | ⟨o', xs, h⟩
    · rw [h] at e; cases e
    · rw [h] at e; cases e; exact trivial
  · rintro o rfl
    exact fun v I' H' g r => r
end Lw
set_option maxHeartbeats 0
namespace Lw
open PySem PySem.Spec PyProof.Rows L2 He FL
def fn0 : List DE := [d_BadText_init, d_BadCount_init, d_is_natural, d_floor_quotient, d_Frac_init, d_Frac_of, d_Frac_read, d_Frac_str, d_Frac_repr, d_Frac_over, d_Frac_sign, d_Frac_raised, d_Frac_add, d_Frac_radd, d_Frac_sub, d_Frac_rsub, d_Frac_mul, d_Frac_rmul, d_Frac_floordiv, d_Frac_rfloordiv]
def fn1 : List DE := [d_Frac_mod, d_Frac_rmod, d_Frac_pow, d_Frac_neg, d_Frac_abs, d_Frac_bool, d_Frac_eq, d_Frac_equals, d_Frac_lt, d_Frac_le, d_Frac_gt, d_Frac_ge, d_law_open, d_law_turn, d_law_draw, d_law_is_integer, d_law_is_truth, d_law_divisor, d_law_is_frac, d_law_parts]
def fn2 : List DE := [d_law_second, d_law_upright, d_law_pair, d_law_divided, d_law_zero_refused, d_law_count_refused, d_law_text_refused, d_law_power, d_law_written, d_law_near_texts, d_law_reads, d_law_equalities, d_law_single, d_law_long_texts, d_law_zeros, d_law_run, d_law]
def fn : List DE := fn0 ++ fn1 ++ fn2
def fa0 : List (PySem.W.Frag → Bool) := [(fun K => clsB K (ga K "Frac")), (fun K => eqO (PySem.W.nsIn K mainGlobals "gcd") (some (some (.builtin "math.gcd")))), (fun K => (Fa.exc "DivisionByZero").ok K), (fun K => (Fa.glo "Frac").ok K), (fun K => eqO (PySem.W.findIn K (.ref (ga K "Frac")) "num") (some none)), (fun K => eqO (PySem.W.findIn K (.ref (ga K "Frac")) "den") (some none)), (fun K => clsIB K (ga K "Frac")), (fun K => PySem.W.keepIn K (.ref (ga K "Frac"))), (fun K => (Fa.free "isinstance").ok K), (fun K => (Fa.free "int").ok K), (fun K => decide (PySem.W.kitOne K (.ref (ga K "Frac")) (.ref (ga K "Frac")) = some true)), (fun K => decide (PySem.W.kitOne K (.type "int") (.ref (ga K "Frac")) = some false)), (fun K => decide (PySem.W.kitOne K (.ref (ga K "Frac")) (.type "int") = some false)), (fun K => (Fa.glo "DivisionByZero").ok K), (fun K => opB .Add K (ga K "Frac")), (fun K => opB .Sub K (ga K "Frac")), (fun K => opB .Mult K (ga K "Frac")), (fun K => opB .FloorDiv K (ga K "Frac")), (fun K => opB .Mod K (ga K "Frac")), (fun K => opB .Pow K (ga K "Frac"))]
def fa1 : List (PySem.W.Frag → Bool) := [(fun K => opRB .Add K (ga K "Frac")), (fun K => opRB .Sub K (ga K "Frac")), (fun K => opRB .Mult K (ga K "Frac")), (fun K => opRB .FloorDiv K (ga K "Frac")), (fun K => opRB .Mod K (ga K "Frac")), (fun K => cmB .Eq K (ga K "Frac")), (fun K => neB K (ga K "Frac")), (fun K => cmB .Lt K (ga K "Frac")), (fun K => cmB .LtE K (ga K "Frac")), (fun K => cmB .Gt K (ga K "Frac")), (fun K => cmB .GtE K (ga K "Frac")), (fun K => cmRB .Lt K (ga K "Frac")), (fun K => cmRB .LtE K (ga K "Frac")), (fun K => cmRB .Gt K (ga K "Frac")), (fun K => cmRB .GtE K (ga K "Frac")), (fun K => methB K (ga K "Frac") "__neg__"), (fun K => methB K (ga K "Frac") "__abs__"), (fun K => methB K (ga K "Frac") "__bool__"), (fun K => methB K (ga K "Frac") "__str__"), (fun K => inB K (ga K "Frac"))]
def fa2 : List (PySem.W.Frag → Bool) := [(fun K => statB K (ga K "Frac") "of"), (fun K => statB K (ga K "Frac") "read"), (fun K => methB K (ga K "Frac") "raised"), (fun K => methB K (ga K "Frac") "over"), (fun K => methB K (ga K "Frac") "sign"), (fun K => methB K (ga K "Frac") "equals"), (fun K => methB K (ga K "BadCount") "__init__"), (fun K => methB K (ga K "BadText") "__init__"), (fun K => eqO (PySem.W.findIn K (.ref (ga K "BadCount")) "count") (some none)), (fun K => eqO (PySem.W.findIn K (.ref (ga K "BadText")) "text") (some none)), (fun K => (Fa.glo "BadCount").ok K), (fun K => oexB K (ga K "BadCount")), (fun K => (Fa.glo "BadText").ok K), (fun K => oexB K (ga K "BadText")), (fun K => (Fa.glo "floor_quotient").ok K), (fun K => (Fa.glo "StayError").ok K), (fun K => (Fa.free "str").ok K), (fun K => decide (PySem.W.exmOne K (.ref (ga K "DivisionByZero")) (.ref (ga K "DivisionByZero")) = some true)), (fun K => decide (PySem.W.exmOne K (.ref (ga K "BadCount")) (.ref (ga K "BadCount")) = some true)), (fun K => decide (PySem.W.exmOne K (.ref (ga K "BadText")) (.ref (ga K "BadText")) = some true))]
def fa3 : List (PySem.W.Frag → Bool) := [(fun K => excB K (ga K "DivisionByZero")), (fun K => excB K (ga K "BadCount")), (fun K => excB K (ga K "BadText")), (fun K => xfB K (ga K "BadCount")), (fun K => xfB K (ga K "BadText")), (fun K => decide (PySem.W.kitOne K (.ref (ga K "DivisionByZero")) (.ref (ga K "StayError")) = some true)), (fun K => decide (PySem.W.kitOne K (.ref (ga K "BadCount")) (.ref (ga K "StayError")) = some true)), (fun K => decide (PySem.W.kitOne K (.ref (ga K "BadText")) (.ref (ga K "StayError")) = some true)), (fun K => decide (PySem.W.kitOne K (.ref (ga K "DivisionByZero")) (.ref (ga K "BadCount")) = some false)), (fun K => decide (PySem.W.kitOne K (.ref (ga K "DivisionByZero")) (.ref (ga K "BadText")) = some false)), (fun K => mkB K (ga K "Frac")), (fun K => (Fa.str "DIGITS" "0123456789").ok K), (fun K => (Fa.int "MOST_EXPONENT" 64).ok K), (fun K => PySem.W.readsIn K (ga K "Frac") (.type "type")), (fun K => mdB K (ga K "Frac") "MOST_DIGITS" 60), (fun K => (Fa.glo "law").ok K), (fun K => (Fa.free "abs").ok K), (fun K => (Fa.free "range").ok K), (fun K => (Fa.free "len").ok K), (fun K => (Fa.free "all").ok K)]
def fa4 : List (PySem.W.Frag → Bool) := [(fun K => (Fa.free "max").ok K), (fun K => (Fa.free "list").ok K), (fun K => (Fa.free "bool").ok K), (fun K => (Fa.glo "is_natural").ok K), (fun K => (Fa.glo "_law_is_integer").ok K), (fun K => (Fa.glo "_law_is_frac").ok K), (fun K => (Fa.glo "_law_divisor").ok K), (fun K => (Fa.glo "_law_is_truth").ok K), (fun K => (Fa.glo "_law_turn").ok K), (fun K => (Fa.glo "_law_draw").ok K), (fun K => (Fa.glo "_law_written").ok K), (fun K => (Fa.glo "_law_reads").ok K), (fun K => (Fa.glo "_law_power").ok K), (fun K => (Fa.glo "_law_near_texts").ok K), (fun K => (Fa.glo "_law_text_refused").ok K), (fun K => (Fa.glo "_law_open").ok K), (fun K => (Fa.glo "_law_parts").ok K), (fun K => (Fa.glo "_law_second").ok K), (fun K => (Fa.glo "_law_upright").ok K), (fun K => (Fa.glo "_law_pair").ok K)]
def fa5 : List (PySem.W.Frag → Bool) := [(fun K => (Fa.glo "_law_equalities").ok K), (fun K => (Fa.glo "_law_single").ok K), (fun K => (Fa.glo "_law_count_refused").ok K), (fun K => (Fa.glo "_law_zeros").ok K), (fun K => (Fa.glo "_law_zero_refused").ok K), (fun K => (Fa.glo "_law_divided").ok K), (fun K => (Fa.glo "_law_long_texts").ok K), (fun K => (Fa.glo "_law_run").ok K)]
def fa : List (PySem.W.Frag → Bool) := fa0 ++ fa1 ++ fa2 ++ fa3 ++ fa4 ++ fa5
def nm0 : List Str := ["StayError", "DivisionByZero", "BadText", "BadCount", "DIGITS", "MOST_EXPONENT", "is_natural", "floor_quotient", "Frac", "_law_open", "_law_turn", "_law_draw", "_law_is_integer", "_law_is_truth", "_law_divisor", "_law_is_frac", "_law_parts", "_law_second", "_law_upright", "_law_pair", "_law_divided", "_law_zero_refused", "_law_count_refused", "_law_text_refused", "_law_power", "_law_written", "_law_near_texts", "_law_reads", "_law_equalities", "_law_single"]
def nm1 : List Str := ["_law_long_texts", "_law_zeros", "_law_run"]
abbrev names : List Str := nm0 ++ nm1
abbrev R : PySem.W.OpenRow := PySem.W.OpenLaw.row PySem.Challenge.rw_stayorsway_k00_fractions
abbrev hk : PySem.W.Hook := hookQ 6 fa fn
def ob (s : PySem.W.SharedT) : AlD := obsQG 6 fa fn (HandSHeadRun.getT s)
theorem ob_eq (s : PySem.W.SharedT) : ob s = hk.obs s.abs := obsQG_eq (HandSHeadRun.getT_eq s)
theorem run (w : World) : HandSHeadRun.RunEqI R (PySem.W.view R.prog [0, 37]) hk ob 20000 names w := by
  unfold HandSHeadRun.RunEqI
  kernel_rfl
end Lw
set_option maxHeartbeats 0
namespace Lw
open PySem PySem.Spec PyProof.Rows L2 He FL
theorem facts {P : Program} {w : World} {K : PySem.W.Frag} {h : Heap} {mg : Str → Option Value} {f : Addr} (X : K.In h) (G : h.Ns mainGlobals mg) (hfa : mg ("law" : Str) = some (.ref f)) (c : SaysQ fa fn K) :
    ∃ fd : FuncData, (∀ (s : Shared) (v : Value), BindsTo s fd ⟨[v], []⟩ [("script", v)]) ∧ ∀ base : Heap, K.In base → base.Ns mainGlobals mg → FnOk P w K mg base (L2N.CX P w) 9 f fd ["script"] (spT (ι := List Int) (fun xs => xs.length ≤ 1000000) (fun xs => [⟨List Int, tScr K, xs⟩])) := by
  have cl : Cls K (ga K "Frac") := clsB_ok (c.fact 0)
  have ge : mg "gcd" = some (.builtin "math.gcd") := PySem.W.mg_of X G (eqO_ok (c.fact 1))
  obtain ⟨xD, kD, eD, tD⟩ := He.exc_ok (x := "DivisionByZero") (c.fact 2)
  have kf : KFr K mg (ga K "Frac") (ga K "DivisionByZero") := ⟨(He.glo_ok X G (x := "Frac") (c.fact 3)), cl, eqO_ok (c.fact 4), eqO_ok (c.fact 5), clsIB_ok (c.fact 6), (c.fact 7), (He.free_ok X G (x := "isinstance") (c.fact 8)), (He.free_ok X G (x := "int") (c.fact 9)),
    (of_decide_eq_true (c.fact 10)), (of_decide_eq_true (c.fact 11)), (of_decide_eq_true (c.fact 12)), ge, (He.glo_ok X G (x := "DivisionByZero") (c.fact 13)), kD, xD, eD, tD⟩
  have ko : KOp K (ga K "Frac") := ⟨opB_ok (c.fact 14), opB_ok (c.fact 15), opB_ok (c.fact 16), opB_ok (c.fact 17), opB_ok (c.fact 18), opB_ok (c.fact 19),
    opRB_ok (c.fact 20), opRB_ok (c.fact 21), opRB_ok (c.fact 22), opRB_ok (c.fact 23), opRB_ok (c.fact 24),
    cmB_ok (c.fact 25), neB_ok (c.fact 26), cmB_ok (c.fact 27), cmB_ok (c.fact 28), cmB_ok (c.fact 29), cmB_ok (c.fact 30),
    cmRB_ok (c.fact 31), cmRB_ok (c.fact 32), cmRB_ok (c.fact 33), cmRB_ok (c.fact 34),
    spB_ok (c.fact 35), spB_ok (c.fact 36), spB_ok (c.fact 37), spB_ok (c.fact 38), inB_ok (c.fact 39),
    statB_ok (c.fact 40), statB_ok (c.fact 41), methB_ok (c.fact 42), methB_ok (c.fact 43), methB_ok (c.fact 44), methB_ok (c.fact 45)⟩
  have iC := methB_ok (c.fact 46)
  have iT := methB_ok (c.fact 47)
  have tyf : ∀ {g : Addr}, PySem.W.isFn K (.ref g) = true → PySem.W.typeIn K (.ref g) = some (.type "function") := fun {g} e => eq_of_beq e
  have nC := eqO_ok (c.fact 48)
  have nT := eqO_ok (c.fact 49)
  have keC : KEx K mg "BadCount" "count" (ga K "BadCount") (d_BadCount_init.ad K) := ⟨(He.glo_ok X G (x := "BadCount") (c.fact 50)), oexB_ok (c.fact 51), iC.at_, tyf iC.fn, nC⟩
  have keT : KEx K mg "BadText" "text" (ga K "BadText") (d_BadText_init.ad K) := ⟨(He.glo_ok X G (x := "BadText") (c.fact 52)), oexB_ok (c.fact 53), iT.at_, tyf iT.fn, nT⟩
  have gl : GlF mg K := ⟨(He.glo_ok X G (x := "floor_quotient") (c.fact 54))⟩
  have kx : KX K mg (ga K "StayError") (ga K "DivisionByZero") (ga K "BadCount") (ga K "BadText") := ⟨(He.glo_ok X G (x := "StayError") (c.fact 55)), (He.glo_ok X G (x := "BadCount") (c.fact 50)), (He.glo_ok X G (x := "BadText") (c.fact 52)), (He.free_ok X G (x := "str") (c.fact 56)),
    (of_decide_eq_true (c.fact 57)), (of_decide_eq_true (c.fact 58)), (of_decide_eq_true (c.fact 59)),
    excB_ok (c.fact 60), excB_ok (c.fact 61), excB_ok (c.fact 62), xfB_ok (c.fact 63), xfB_ok (c.fact 64), nC, nT,
    (of_decide_eq_true (c.fact 65)), (of_decide_eq_true (c.fact 66)), (of_decide_eq_true (c.fact 67)), (of_decide_eq_true (c.fact 68)), (of_decide_eq_true (c.fact 69))⟩
  have mk := mkB_ok (c.fact 70)
  obtain ⟨tD2, hdg⟩ := He.str_ok X G (x := "DIGITS") (z := "0123456789") (c.fact 71)
  obtain ⟨tM, hme⟩ := He.int_ok X G (x := "MOST_EXPONENT") (i := 64) (c.fact 72)
  have rdC := (c.fact 73)
  obtain ⟨tm, md⟩ := mdB_ok (c.fact 74)
  obtain ⟨fd, F⟩ := (c.def_ 56)
  have e := hfa.symm.trans (He.glo_ok X G (x := "law") (c.fact 75))
  cases e
  refine ⟨fd, fun s v => FunD.bindsA (ps := ["script"]) (show FunD K d_law.name d_law.qual d_law.params d_law.body d_law.scope [] (d_law.kws K) (d_law.ad K) fd from F) (fun _ _ _ _ _ _ us hl => match us, hl with | [_], _ => rfl) s [v] rfl, fun base _ _ => ?_⟩
  have fi : FI P w K mg base (ga K "Frac") (ga K "DivisionByZero") := by
    obtain ⟨fdi, Fi⟩ := (c.def_ 4)
    exact ⟨mk, ⟨fdi, Fi, ok_ini Fi kf⟩, (He.glo_ok X G (x := "Frac") (c.fact 3))⟩
  have hs := (He.free_ok X G (x := "str") (c.fact 56))
  have hin := (He.free_ok X G (x := "int") (c.fact 9))
  have hab := (He.free_ok X G (x := "abs") (c.fact 76))
  have hrg := (He.free_ok X G (x := "range") (c.fact 77))
  have hln := (He.free_ok X G (x := "len") (c.fact 78))
  have hal := (He.free_ok X G (x := "all") (c.fact 79))
  have hmx := (He.free_ok X G (x := "max") (c.fact 80))
  have hls := (He.free_ok X G (x := "list") (c.fact 81))
  have kb := (He.free_ok X G (x := "bool") (c.fact 82))
  have fq := fo_fq (P := P) (w := w) (base := base) (c.def_ 3) kf
  have of_ := fo_of (P := P) (w := w) (base := base) (c.def_ 5) kf fi
  have add := fo_add (c.def_ 12) kf fi
  have sub := fo_sub (c.def_ 14) kf fi
  have mul := fo_mul (c.def_ 16) kf fi
  have eq := fo_eq (P := P) (w := w) (base := base) (c.def_ 26) kf
  have str := fo_str (P := P) (w := w) (base := base) (c.def_ 7) kf hs
  have bc := fo_BadCount (P := P) (w := w) (base := base) (c.def_ 1) keC
  have bt := fo_BadText (P := P) (w := w) (base := base) (c.def_ 0) keT
  have na := fo_is_natural (P := P) (w := w) (base := base) (c.def_ 2) hln hal hdg
  have rs := fo_raised (c.def_ 11) kf fi keC bc hme hrg
  have ff : FF P w K mg base (ga K "Frac") (ga K "DivisionByZero") (ga K "BadCount") (ga K "BadText") := ⟨kf, fi, ko, kb, of_, add, sub, mul, fo_radd (c.def_ 13) kf fi, fo_rsub (c.def_ 15) kf fi, fo_rmul (c.def_ 17) kf fi, fo_floordiv (c.def_ 18) kf ko gl fq of_, fo_rfloordiv (c.def_ 19) kf fi gl fq, fo_mod (c.def_ 20) kf ko gl fq of_ sub mul, fo_rmod (c.def_ 21) kf fi ko gl fq sub mul, fo_over (c.def_ 9) kf fi ko of_, fo_lt (c.def_ 28) kf, fo_le (c.def_ 29) kf, fo_gt (c.def_ 30) kf, fo_ge (c.def_ 31) kf, fo_neg (c.def_ 23) kf fi, fo_abs (c.def_ 24) kf fi hab, fo_bool (c.def_ 25) kf kb, eq, fo_equals (c.def_ 27) kf ko of_ eq, fo_sign (c.def_ 10) kf, str, rs, fo_pow (c.def_ 22) kf ko rs, fo_read (c.def_ 6) kf fi ko keT bt (He.glo_ok X G (x := "is_natural") (c.fact 83)) na str hal hs rdC md⟩
  have ii := fo_isint (P := P) (w := w) (base := base) (c.def_ 35) kf kb
  have hi := fh_isint (P := P) (w := w) (base := base) (c.def_ 35) kf kb
  have dvr := fo_divisor (P := P) (w := w) (base := base) (c.def_ 37) kf hab hrg
  have gh : GH P w K mg base (ga K "Frac") := ⟨(He.glo_ok X G (x := "_law_is_integer") (c.fact 84)), ii, (He.glo_ok X G (x := "_law_is_frac") (c.fact 85)), fo_isfrac (c.def_ 38) kf (He.glo_ok X G (x := "_law_is_integer") (c.fact 84)) ii (He.glo_ok X G (x := "_law_divisor") (c.fact 86)) dvr, (He.glo_ok X G (x := "_law_is_truth") (c.fact 87)), fo_truth (c.def_ 36) kf kb⟩
  have dr := fo_draw (P := P) (w := w) (base := base) (c.def_ 34) hin
  have tn := fo_turn (P := P) (w := w) (base := base) (c.def_ 33) hin hln
  have pt := fo_parts (c.def_ 39) (He.glo_ok X G (x := "_law_turn") (c.fact 88)) tn (He.glo_ok X G (x := "_law_draw") (c.fact 89)) dr hmx hrg
  have wr := fo_written (P := P) (w := w) (base := base) (c.def_ 48) hs
  have rd := fo_reads (c.def_ 50) ff gh hs
  have gs : GS P w K mg base (ga K "Frac") := ⟨hs, hab, (He.glo_ok X G (x := "_law_divisor") (c.fact 86)), dvr, (He.glo_ok X G (x := "_law_written") (c.fact 90)), wr, (He.glo_ok X G (x := "_law_reads") (c.fact 91)), rd, (He.glo_ok X G (x := "_law_power") (c.fact 92)), fo_power (c.def_ 47) ff gh hrg, (He.glo_ok X G (x := "_law_near_texts") (c.fact 93)), fo_near (c.def_ 49) hs (He.glo_ok X G (x := "_law_written") (c.fact 90)) wr, (He.glo_ok X G (x := "_law_text_refused") (c.fact 94)), fo_tref (c.def_ 46) ff kx⟩
  have gr : GR P w K mg base (ga K "Frac") tm := ⟨(He.glo_ok X G (x := "_law_open") (c.fact 95)), fo_open (c.def_ 32) hin hls hab, (He.glo_ok X G (x := "_law_turn") (c.fact 88)), tn, (He.glo_ok X G (x := "_law_draw") (c.fact 89)), dr, (He.glo_ok X G (x := "_law_parts") (c.fact 96)), pt, (He.glo_ok X G (x := "_law_second") (c.fact 97)), fo_second (c.def_ 40) (He.glo_ok X G (x := "_law_parts") (c.fact 96)) pt (He.glo_ok X G (x := "_law_draw") (c.fact 89)) dr, (He.glo_ok X G (x := "_law_upright") (c.fact 98)), fo_upright (c.def_ 41), (He.glo_ok X G (x := "_law_pair") (c.fact 99)), fo_pair (c.def_ 42) ff gh, (He.glo_ok X G (x := "_law_equalities") (c.fact 100)), fo_equalities (c.def_ 51) ff gh, (He.glo_ok X G (x := "_law_single") (c.fact 101)), fo_single (c.def_ 52) ff gh gs,
    (He.glo_ok X G (x := "_law_count_refused") (c.fact 102)), fo_cref (c.def_ 45) ff kx gh hi, (He.glo_ok X G (x := "_law_zeros") (c.fact 103)), fo_zeros (c.def_ 54) ff (He.glo_ok X G (x := "_law_zero_refused") (c.fact 104)) (fo_zref (c.def_ 44) ff kx (He.glo_ok X G (x := "_law_divided") (c.fact 105)) (fo_divided (c.def_ 43) ff)) hrg, (He.glo_ok X G (x := "_law_long_texts") (c.fact 106)), fo_long (c.def_ 53) (He.glo_ok X G (x := "_law_reads") (c.fact 91)) rd, rdC, md⟩
  exact ok_law F (He.glo_ok X G (x := "_law_run") (c.fact 107)) (fo_run (c.def_ 55) ff gh gr)
end Lw
open PySem PySem.W PySem.Calls PyProof.Rows
set_option maxRecDepth 100000 in
set_option maxHeartbeats 0 in
theorem PySem.Challenge.cw_stayorsway_k00_fractions_holds : PySem.Challenge.rw_stayorsway_k00_fractions.Holds := by
  w_on; o_law
  refine HandSHeadRun.head_imp (r := OpenLaw.row PySem.Challenge.rw_stayorsway_k00_fractions) (q := view (OpenLaw.row PySem.Challenge.rw_stayorsway_k00_fractions).prog [0, 37]) (H := Lw.hk) (ob := Lw.ob) (M := 20000) (loose := Lw.names) (d := HandSHeadRun.topDef (OpenLaw.row PySem.Challenge.rw_stayorsway_k00_fractions).prog 37) (kwd := []) Lw.ob_eq
    Lw.run (by kernel_rfl) (by kernel_rfl) (by kernel_rfl) (by rfl) (by first | assumption | decide +kernel) (by decide +kernel) ⟨rfl, rfl, rfl, rfl, rfl, by decide +kernel⟩ ?hw ?hc
  case hw => w_witness2
  case hc =>
    refine FL.walk_ofQ (law := PySem.Challenge.rw_stayorsway_k00_fractions) (most := 63) (lev := 9) (arg := "script") (CX := fun w => L2N.CX (PySem.Challenge.rw_stayorsway_k00_fractions).prog w) rfl (by decide) (by kernel_rfl) ⟨rfl, by decide, by decide⟩ ?F ?hCX
    case F =>
      intro w mg fa h Y G hmg0
      obtain ⟨K, KX, c⟩ := Y
      have hmg : mg ("law" : PySem.Str) = some (.ref fa) := by
        have e : (HandSHeadRun.topDef (OpenLaw.row PySem.Challenge.rw_stayorsway_k00_fractions).prog 37).name = ("law" : PySem.Str) := by kernel_rfl
        rw [← e]
        exact hmg0
      obtain ⟨fd, hb, hF⟩ := Lw.facts (P := (PySem.Challenge.rw_stayorsway_k00_fractions).prog) (w := w) KX G hmg c
      exact ⟨K, fd, _, KX, hb, fun H a ns hl _ hO hS => Lw.law_at hl hO hS, hF⟩
    case hCX =>
      intro w H s e s' h
      obtain ⟨_, _, _, _, _, _, _, _, _, _, _, _, z⟩ := h
      exact z.elim
