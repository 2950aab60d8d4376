import PyProof.Rows.All
import HandS.Deep
import HandS.EndBits
import HandS.Flt
import HandS.ForMost
import HandS.IsInst
import HandS.Iter
import HandS.NoneIn
import HandS.SortInts
import HandS.Text
import HandS.TupAny
import HandS.TupLe
import HandS.TupSets
import HandS.Wide
import HandS.Zip
import KE.DataMinMax
import KE.GoesEnumKw
import KE.KSortTupG
import KE.SortData
import PySem.Challenge.RW_lostedits_k45_guards
set_option Elab.async false
set_option linter.all false
set_option maxRecDepth 100000
set_option maxHeartbeats 4000000
set_option Elab.async false
set_option linter.all false
set_option maxRecDepth 100000
set_option maxHeartbeats 4000000
namespace PL
open PySem PySem.Spec PyProof.Rows L2
/-! ### promises of defs that run while no repr is under way -/
structure RoomG (k : Nat) (A : Around) : Prop extends L2.Room k A where
  gd : A.guards = some []
theorem RoomG.mono {j k : Nat} {A : Around} (r : RoomG k A) (h : j ≤ k) : RoomG j A := ⟨r.toRoom.mono h, r.gd⟩
theorem RoomG.deeper {k : Nat} {A : Around} (r : RoomG (k + 1) A) (env : Env) : RoomG k (A.deeper env) := ⟨r.toRoom.deeper env, r.gd⟩
structure FnG (P : Program) (w : World) (K : PySem.W.Frag) (mg : Str → Option Value) (base : Heap) (CX : CXT) (k : Nat) (f : Addr) (fd : FuncData) (ps : List Str) (sp : Sp) : Prop where
  len : ∀ vs H Q E, sp vs H Q E → vs.length = ps.length
  run : ∀ (A : Around) (outer : List Env) (s : Shared) (H : Hp) (args : Args) (us : List Value) (vs : List V) (Q : VK) (E : XK), RoomG k A → Env0 P w K mg base A outer s H → BindsTo s fd args (ps.zip us) → Vals vs us → sp vs H Q E →
    codeAny (model P w) A (.call (.ref f) args) (CR CX outer P w H s Q E) s
section
variable {P : Program} {w : World} {K : PySem.W.Frag} {mg : Str → Option Value} {base : Heap}
theorem FnG.mono {CX : CXT} {j k : Nat} {f : Addr} {fd : FuncData} {ps : List Str} {sp : Sp} (F : FnG P w K mg base CX j f fd ps sp) (h : j ≤ k) : FnG P w K mg base CX k f fd ps sp :=
  ⟨F.len, fun A outer s H args us vs Q E hr => F.run A outer s H args us vs Q E (hr.mono h)⟩
theorem FnG.imp {CX : CXT} {k : Nat} {f : Addr} {fd : FuncData} {ps : List Str} {sp sp' : Sp} (F : FnG P w K mg base CX k f fd ps sp) (h : ∀ vs H Q E, sp' vs H Q E → sp vs H Q E) : FnG P w K mg base CX k f fd ps sp' :=
  ⟨fun vs H Q E q => F.len vs H Q E (h _ _ _ _ q), fun A outer s H args us vs Q E hr he hb hv hs => F.run A outer s H args us vs Q E hr he hb hv (h _ _ _ _ hs)⟩
/-- a def's body keeps its promise -/
theorem fnG_of {x qual : Str} {st : Stmt} {f : Addr} {fd : FuncData} {N ps : List Str} {k : Nat} {sp : Sp} (F : Fun K x qual st f fd) (S : FnScope N ps (defScope st)) (len : ∀ vs H Q E, sp vs H Q E → vs.length = ps.length)
    (hbody : ∀ (cdv : Value) (A : Around) (outer : List Env) (s : Shared) (H : Hp) (vs : List V) (Q : VK) (E : XK), RoomG k (A.deeper (envOfC qual (defScope st) s.heap.objs.size f cdv)) → sp vs H Q E →
      ∃ t, PSs (cxOf CX0 P w K mg base N qual (defScope st) f cdv A outer s H E).nox (defBody st) t ∧ t { nx := fun _ H' => Q .non H', rt := Q } (start N vs) H) : FnG P w K mg base CX0 (k + 1) f fd ps sp := by
  obtain ⟨oc, od, kV, doc, pm, an, cdv, ct, osl, rfl, lk, hcd⟩ := F.ex
  refine ⟨len, fun A outer s H args us vs Q E hr e0 hb r hsp => ?_⟩
  have keep : ∀ b o, base.get? b = some o → s.heap.get? b = some o := fun b o e => (e0.bs b o e).1
  refine codeAny_call_function hr.depth (e0.mod.kin.keeps keep _ _ lk) rfl S.co S.gen rfl (PySem.W.codeRec_of (e0.mod.kin.keeps keep) hcd) (hb _ _ _ _ ?_)
  refine wpAny_newFunctionEnv_cells S.kind (fun y hy => ?_) fun env he s1 x => ?_
  · rcases S.par y.1 (List.of_mem_zip (show (y.1, y.2) ∈ _ from hy)).1 with q | q
    · exact .inl q
    · exact .inr ⟨q, PySem.W.cellsFrom_some _ _ _ (.inl q)⟩
  · subst he
    obtain ⟨t, ht, hq⟩ := hbody cdv A outer s H vs Q E (hr.deeper _) hsp
    have I : Inv (cxOf CX0 P w K mg base N qual (defScope st) f cdv A outer s H E) [] (start N vs) H s1 := inv_start S hr.hd e0 (len _ _ _ _ hsp) r x
    refine ⟨(e0.mod.nolimit.keeps keep).keeps x.toInCall.keep, codeAny_func (wpAny_mono (ht.nox.run [] s1 (start N vs) H _ I hq) (fun fl s' hs => ?_) fun e s' hs => hs)⟩
    cases fl with
    | ret u =>
      obtain ⟨v, σ', H', J, rv, q⟩ := hs
      exact ⟨v, H', J.os, J.bare, J.base, J.hok, rv, q⟩
    | next =>
      obtain ⟨σ', H', J, q⟩ := hs
      exact ⟨.non, H', J.os, J.bare, J.base, J.hok, rfl, q⟩
    | brk => exact hs.elim fun _ h => h.elim fun _ h => h.2.elim
    | cont => exact hs.elim fun _ h => h.elim fun _ h => h.2.elim
end
section
variable {X : Cx} {CX : CXT} {k : Nat} {f : Addr} {fd : FuncData} {ps ks : List Str} {sp : Sp} {E : XK} {x : Str} {p pos : Pos} {e : Expr} {es : List Expr} {t tk : TA} {kws : List Keyword}
/-- the callee runs, its arguments bound -/
theorem runG {pins : List (Addr × Obj)} {σ : L2.St} {H : Hp} {s : Shared} {Q : VK} {as us : List Value} {kw : List (Str × Value)} {vs : List V} (F : FnG X.prog X.w X.K X.mg X.base CX k f fd ps sp) (hr : RoomG k X.A) (hx : Passes CX X E)
    (I : Inv X pins σ H s) (hb : us.length = ps.length → BindsTo s fd ⟨as, kw⟩ (ps.zip us)) (r : Vals vs us) (h : sp vs H Q E) : wpAny (model X.prog X.w) X.A (call (.ref f) as kw) (EP X pins σ Q) X.xe s := by
  refine wpAny_call (codeAny_mono (F.run X.A X.stack s H ⟨as, kw⟩ us vs Q E hr I.env0 (hb (by rw [← r.length]; exact F.len _ _ _ _ h)) r h) fun r s' hq => ?_)
  match r, hq with
  | .error e, hq => exact hx pins σ H s e s' I hq
  | .ok (.ret u), hq => exact I.after hq
  | .ok .next, hq => exact False.elim hq
  | .ok .brk, hq => exact False.elim hq
  | .ok .cont, hq => exact False.elim hq
theorem peG_call (F : FnG X.prog X.w X.K X.mg X.base CX k f fd ps sp) (hr : RoomG k X.A) (hg : Gl X x) (hm : X.mg x = some (.ref f)) (hk : PySem.W.keepIn X.K (.ref f) = true) (hb : Binds X.K fd ps []) (hx : Passes CX X E)
    (ha : PA X (e :: es) t) (hdb : (x == ("__debug__" : Str)) = false) (he : starEach (e :: es) X.env = (false, eval e X.env) :: starEach es X.env) (hpl : (backTo pos (starEach es X.env)).any (·.1) = false) :
    PE X (.Call (.Name x p) (e :: es) [] pos) (tCall sp [] E t) := by
  refine ⟨fun pins s σ H Q I h => wpAny_Call_Name_kw (ld_glob I hg hm ?_ hdb)⟩
  refine PySem.W.callWith_K (h₀ := X.base) I.ok.mod.kin hk (thn (ha.run pos pins s σ H _ I h) fun us s1 ⟨vs, H1, I1, r, q⟩ => ⟨I1.kIn, ?_⟩) he hpl
  have q : sp (vs ++ []) H1 Q E := q
  rw [List.append_nil] at q
  exact runG F hr hx I1 (fun hl => by have := hb s1 us I1.kIn (by rw [List.append_nil]; exact hl); rwa [List.append_nil] at this) r q
theorem peG_call0 (F : FnG X.prog X.w X.K X.mg X.base CX k f fd ps sp) (hr : RoomG k X.A) (hg : Gl X x) (hm : X.mg x = some (.ref f)) (hk : PySem.W.keepIn X.K (.ref f) = true) (hb : Binds X.K fd ps []) (hx : Passes CX X E)
    (hdb : (x == ("__debug__" : Str)) = false) : PE X (.Call (.Name x p) [] [] pos) (tCall sp [] E tNil) := by
  refine ⟨fun pins s σ H Q I h => wpAny_Call_Name_kw (ld_glob I hg hm ?_ hdb)⟩
  exact PySem.W.callWith_K0 I.kIn hk (runG (us := []) F hr hx I (fun hl => hb s [] I.kIn hl) .nil h)
variable {g : List Value → List Value → List Value} {gV : List V → List V → List V}
theorem peG_callK (F : FnG X.prog X.w X.K X.mg X.base CX k f fd ps sp) (hr : RoomG k X.A) (hg : Gl X x) (hm : X.mg x = some (.ref f)) (hk : PySem.W.keepIn X.K (.ref f) = true) (hb : KBinds X.K fd ps ks g gV) (hx : Passes CX X E)
    (ha : PA X (e :: es) t) (hkw : PK X kws tk) (hall : (backToKw pos (keywordEach kws X.env)).all (·.1.isSome) = true) (hks : (backToKw pos (keywordEach kws X.env)).filterMap (·.1) = ks)
    (hdb : (x == ("__debug__" : Str)) = false) (he : starEach (e :: es) X.env = (false, eval e X.env) :: starEach es X.env)
    (hpl : ((backTo pos (starEach (e :: es) X.env)).any (·.1) || (backToKw pos (keywordEach kws X.env)).any (·.1.isNone)) = false) :
    PE X (.Call (.Name x p) (e :: es) kws pos) (tCallK sp gV E t tk) := by
  refine ⟨fun pins s σ H Q I h => wpAny_Call_Name_kw (ld_glob I hg hm ?_ hdb)⟩
  refine PySem.W.callWith_KW (h₀ := X.base) I.ok.mod.kin hk hall (thn (ha.run pos pins s σ H _ I h) fun us s1 ⟨vs, H1, I1, r, q⟩ => thn (hkw.run pos pins s1 σ H1 _ I1 q) fun ws s2 ⟨zs, H2, I2, rz, q2⟩ => ⟨I2.kIn, ?_⟩) hpl he
  rw [hks]
  exact runG F hr hx I2 (hb.to s2 us ws I2.kIn) (hb.rel r rz) q2
theorem peG_callK0 (F : FnG X.prog X.w X.K X.mg X.base CX k f fd ps sp) (hr : RoomG k X.A) (hg : Gl X x) (hm : X.mg x = some (.ref f)) (hk : PySem.W.keepIn X.K (.ref f) = true) (hb : KBinds X.K fd ps ks g gV) (hx : Passes CX X E)
    (hkw : PK X kws tk) (hall : (backToKw pos (keywordEach kws X.env)).all (·.1.isSome) = true) (hks : (backToKw pos (keywordEach kws X.env)).filterMap (·.1) = ks)
    (hdb : (x == ("__debug__" : Str)) = false) (hpl : ((backTo pos (starEach [] X.env)).any (·.1) || (backToKw pos (keywordEach kws X.env)).any (·.1.isNone)) = false) :
    PE X (.Call (.Name x p) [] kws pos) (tCallK sp gV E tNil tk) := by
  refine ⟨fun pins s σ H Q I h => wpAny_Call_Name_kw (ld_glob I hg hm ?_ hdb)⟩
  refine PySem.W.callWith_KW0 (h₀ := X.base) I.ok.mod.kin hk hall (thn (hkw.run pos pins s σ H _ I h) fun ws s2 ⟨zs, H2, I2, rz, q2⟩ => ⟨I2.kIn, ?_⟩) hpl
  rw [hks]
  exact runG F hr hx I2 (hb.to s2 [] ws I2.kIn) (hb.rel .nil rz) q2
end
end PL

set_option Elab.async false
set_option linter.all false
set_option maxRecDepth 100000
set_option maxHeartbeats 4000000
namespace PL
open PySem PySem.Spec PyProof.Rows L2

/-! ### data, cells, results -/
inductive D where
  | non
  | bl (b : Bool)
  | int (i : Int)
  | str (x : Str)
  | tup (ds : List D)
  | lst (ds : List D)
  | dK (ks : List Key) (vs : List D)
  | dT (ks : List (List Key)) (vs : List D)
  | ref (n : Nat)
inductive Cell where
  | lst (ds : List D)
  | dK (ks : List Key) (vs : List D)
  | dT (ks : List (List Key)) (vs : List D)
  | ins (c : Str) (ns : List Str) (vs : List D)
abbrev Store := List Cell
inductive R (α : Type) where
  | ok (a : α) (S : Store)
  | exc (c : Str) (d : D) (S : Store)
  | bad
def R.bind {α β : Type} : R α → (α → Store → R β) → R β
  | .ok a S, k => k a S
  | .exc c d S, _ => .exc c d S
  | .bad, _ => .bad
def R.of {α : Type} (o : Option α) (S : Store) : R α := match o with
  | some a => .ok a S
  | none => .bad
def R.calm {α : Type} : R α → R α
  | .ok a S => .ok a S
  | _ => .bad
inductive Sl where
  | no
  | val (d : D)
  | uq (ds : List D)
  | uK (ks : List Key) (vs : List D)
  | uT (ks : List (List Key)) (vs : List D)
abbrev Sls := List Sl
abbrev M := Sls → Store → R D
abbrev MA := Sls → Store → R (List D)
abbrev MB := Sls → Store → R Bool
inductive Fl where
  | nx (σ : Sls) (S : Store)
  | bk (σ : Sls) (S : Store)
  | ct (σ : Sls) (S : Store)
  | ret (d : D) (S : Store)
  | exc (c : Str) (d : D) (σ : Sls) (S : Store)
  | bad
abbrev MS := Sls → Store → Fl
abbrev Fn := List D → Store → R D
def Fl.next : Fl → MS → Fl
  | .nx σ S, k => k σ S
  | r, _ => r

/-! ### what stands for data in the heap -/
section
variable (K : PySem.W.Frag) (F : Hp) (ρ : List Addr)
mutual
def Rep : D → V → Prop
  | .non, v => v = .non
  | .bl b, v => v = .bl b
  | .int i, v => v = .int i
  | .str x, v => v = .str x
  | .tup ds, v => ∃ a vs, v = .ref a ∧ SqT K F a vs ∧ Reps ds vs ∧ ds.length ≤ sizeLine
  | .lst ds, v => ∃ a vs, v = .ref a ∧ SqL K F a vs ∧ Reps ds vs ∧ ds.length ≤ sizeLine
  | .dK ks ds, v => ∃ a vs, v = .ref a ∧ F a = some (.dK (ks.zip vs)) ∧ Reps ds vs ∧ ks.length = ds.length
  | .dT ks ds, v => ∃ a vs, v = .ref a ∧ F a = some (.dT (ks.zip vs)) ∧ Reps ds vs ∧ ks.length = ds.length
  | .ref n, v => ∃ a, v = .ref a ∧ ρ[n]? = some a
def Reps : List D → List V → Prop
  | [], vs => vs = []
  | d :: ds, vs => ∃ v r, vs = v :: r ∧ Rep d v ∧ Reps ds r
end
end
theorem SqT.mono {K : PySem.W.Frag} {F F' : Hp} {a : Addr} {xs : List V} (e : ∀ a o, F a = some o → F' a = some o) (h : SqT K F a xs) : SqT K F' a xs := by
  rcases h with (h | ⟨o, h⟩) | h
  · exact .inl (.inl (e _ _ h))
  · exact .inl (.inr ⟨o, e _ _ h⟩)
  · exact .inr h
theorem SqL.mono {K : PySem.W.Frag} {F F' : Hp} {a : Addr} {xs : List V} (e : ∀ a o, F a = some o → F' a = some o) (h : SqL K F a xs) : SqL K F' a xs := by
  rcases h with (h | ⟨o, h⟩) | h
  · exact .inl (.inl (e _ _ h))
  · exact .inl (.inr ⟨o, e _ _ h⟩)
  · exact .inr h
section
variable {K : PySem.W.Frag} {F F' : Hp} {ρ ρ' : List Addr}
theorem pre_get {r : List Addr} {n : Nat} {a : Addr} (h : ρ[n]? = some a) : (ρ ++ r)[n]? = some a := by
  rw [List.getElem?_append_left (List.getElem?_eq_some_iff.mp h).1]
  exact h
mutual
theorem Rep.mono (e : ∀ a o, F a = some o → F' a = some o) (p : ∃ r, ρ' = ρ ++ r) : ∀ (d : D) (v : V), Rep K F ρ d v → Rep K F' ρ' d v
  | .non, v, h => h
  | .bl b, v, h => h
  | .int i, v, h => h
  | .str x, v, h => h
  | .tup ds, v, h => by
    unfold Rep at h ⊢
    obtain ⟨a, vs, h1, h2, h3, h4⟩ := h
    exact ⟨a, vs, h1, SqT.mono e h2, Reps.mono e p ds vs h3, h4⟩
  | .lst ds, v, h => by
    unfold Rep at h ⊢
    obtain ⟨a, vs, h1, h2, h3, h4⟩ := h
    exact ⟨a, vs, h1, SqL.mono e h2, Reps.mono e p ds vs h3, h4⟩
  | .dK ks ds, v, h => by
    unfold Rep at h ⊢
    obtain ⟨a, vs, h1, h2, h3, h4⟩ := h
    exact ⟨a, vs, h1, e _ _ h2, Reps.mono e p ds vs h3, h4⟩
  | .dT ks ds, v, h => by
    unfold Rep at h ⊢
    obtain ⟨a, vs, h1, h2, h3, h4⟩ := h
    exact ⟨a, vs, h1, e _ _ h2, Reps.mono e p ds vs h3, h4⟩
  | .ref n, v, h => by
    unfold Rep at h ⊢
    obtain ⟨a, h1, h2⟩ := h
    obtain ⟨r, rfl⟩ := p
    exact ⟨a, h1, pre_get h2⟩
theorem Reps.mono (e : ∀ a o, F a = some o → F' a = some o) (p : ∃ r, ρ' = ρ ++ r) : ∀ (ds : List D) (vs : List V), Reps K F ρ ds vs → Reps K F' ρ' ds vs
  | [], vs, h => h
  | d :: ds, vs, h => by
    unfold Reps at h ⊢
    obtain ⟨v, r, h1, h2, h3⟩ := h
    exact ⟨v, r, h1, Rep.mono e p d v h2, Reps.mono e p ds r h3⟩
end
theorem Reps.length : ∀ {ds : List D} {vs : List V}, Reps K F ρ ds vs → vs.length = ds.length
  | [], vs, h => by
    unfold Reps at h
    rw [h]
    rfl
  | d :: ds, vs, h => by
    unfold Reps at h
    obtain ⟨v, r, rfl, _, h3⟩ := h
    rw [List.length_cons, List.length_cons, Reps.length h3]
theorem Reps.nil : Reps K F ρ [] [] := by
  unfold Reps
  rfl
theorem Reps.cons {d : D} {ds : List D} {v : V} {vs : List V} (h : Rep K F ρ d v) (h2 : Reps K F ρ ds vs) : Reps K F ρ (d :: ds) (v :: vs) := by
  unfold Reps
  exact ⟨v, vs, rfl, h, h2⟩
theorem Reps.append : ∀ {ds es : List D} {vs us : List V}, Reps K F ρ ds vs → Reps K F ρ es us → Reps K F ρ (ds ++ es) (vs ++ us)
  | [], es, vs, us, h, h2 => by
    unfold Reps at h
    rw [h]
    exact h2
  | d :: ds, es, vs, us, h, h2 => by
    unfold Reps at h
    obtain ⟨v, r, rfl, h1, h3⟩ := h
    exact Reps.cons h1 (Reps.append h3 h2)
theorem Reps.one {d : D} {v : V} (h : Rep K F ρ d v) : Reps K F ρ [d] [v] := .cons h .nil
theorem Reps.get : ∀ {ds : List D} {vs : List V} {i : Nat} {d : D}, Reps K F ρ ds vs → ds[i]? = some d → ∃ v, vs[i]? = some v ∧ Rep K F ρ d v
  | [], vs, i, d, h, e => by simp at e
  | d' :: ds, vs, 0, d, h, e => by
    unfold Reps at h
    obtain ⟨v, r, rfl, h1, h3⟩ := h
    have e' : d' = d := by simpa using e
    subst e'
    exact ⟨v, rfl, h1⟩
  | d' :: ds, vs, i + 1, d, h, e => by
    unfold Reps at h
    obtain ⟨v, r, rfl, h1, h3⟩ := h
    obtain ⟨u, hu, ru⟩ := Reps.get (i := i) h3 (by simpa using e)
    exact ⟨u, by simpa using hu, ru⟩
theorem Reps.take : ∀ {ds : List D} {vs : List V} (n : Nat), Reps K F ρ ds vs → Reps K F ρ (ds.take n) (vs.take n)
  | ds, vs, 0, h => by
    rw [List.take_zero, List.take_zero]
    exact .nil
  | [], vs, n + 1, h => by
    unfold Reps at h
    rw [h]
    exact .nil
  | d :: ds, vs, n + 1, h => by
    unfold Reps at h
    obtain ⟨v, r, rfl, h1, h3⟩ := h
    exact .cons h1 (Reps.take n h3)
theorem Reps.drop : ∀ {ds : List D} {vs : List V} (n : Nat), Reps K F ρ ds vs → Reps K F ρ (ds.drop n) (vs.drop n)
  | ds, vs, 0, h => h
  | [], vs, n + 1, h => by
    unfold Reps at h
    rw [h]
    exact .nil
  | d :: ds, vs, n + 1, h => by
    unfold Reps at h
    obtain ⟨v, r, rfl, h1, h3⟩ := h
    exact Reps.drop n h3
theorem Reps.set {d : D} {v : V} (hd : Rep K F ρ d v) : ∀ {ds : List D} {vs : List V} (n : Nat), Reps K F ρ ds vs → Reps K F ρ (ds.set n d) (vs.set n v)
  | [], vs, n, h => by
    unfold Reps at h
    rw [h]
    exact .nil
  | d' :: ds, vs, 0, h => by
    unfold Reps at h
    obtain ⟨v', r, rfl, h1, h3⟩ := h
    exact .cons hd h3
  | d' :: ds, vs, n + 1, h => by
    unfold Reps at h
    obtain ⟨v', r, rfl, h1, h3⟩ := h
    exact .cons h1 (Reps.set hd n h3)
theorem rep_int {i : Int} {v : V} (h : Rep K F ρ (.int i) v) : v = .int i := by
  unfold Rep at h
  exact h
theorem rep_bl {i : Bool} {v : V} (h : Rep K F ρ (.bl i) v) : v = .bl i := by
  unfold Rep at h
  exact h
theorem rep_str {i : Str} {v : V} (h : Rep K F ρ (.str i) v) : v = .str i := by
  unfold Rep at h
  exact h
theorem rep_non {v : V} (h : Rep K F ρ .non v) : v = .non := by
  unfold Rep at h
  exact h
theorem rep_tup {ds : List D} {v : V} (h : Rep K F ρ (.tup ds) v) : ∃ a vs, v = .ref a ∧ SqT K F a vs ∧ Reps K F ρ ds vs ∧ ds.length ≤ sizeLine := by
  unfold Rep at h
  exact h
theorem rep_lst {ds : List D} {v : V} (h : Rep K F ρ (.lst ds) v) : ∃ a vs, v = .ref a ∧ SqL K F a vs ∧ Reps K F ρ ds vs ∧ ds.length ≤ sizeLine := by
  unfold Rep at h
  exact h
theorem rep_dK {ks : List Key} {ds : List D} {v : V} (h : Rep K F ρ (.dK ks ds) v) : ∃ a vs, v = .ref a ∧ F a = some (.dK (ks.zip vs)) ∧ Reps K F ρ ds vs ∧ ks.length = ds.length := by
  unfold Rep at h
  exact h
theorem rep_dT {ks : List (List Key)} {ds : List D} {v : V} (h : Rep K F ρ (.dT ks ds) v) : ∃ a vs, v = .ref a ∧ F a = some (.dT (ks.zip vs)) ∧ Reps K F ρ ds vs ∧ ks.length = ds.length := by
  unfold Rep at h
  exact h
theorem rep_ref {n : Nat} {v : V} (h : Rep K F ρ (.ref n) v) : ∃ a, v = .ref a ∧ ρ[n]? = some a := by
  unfold Rep at h
  exact h
theorem Rep.i (i : Int) : Rep K F ρ (.int i) (.int i) := by
  unfold Rep
  rfl
theorem Rep.b (i : Bool) : Rep K F ρ (.bl i) (.bl i) := by
  unfold Rep
  rfl
theorem Rep.s (i : Str) : Rep K F ρ (.str i) (.str i) := by
  unfold Rep
  rfl
theorem Rep.n : Rep K F ρ .non .non := by
  unfold Rep
  rfl
theorem Rep.t {ds : List D} {a : Addr} {vs : List V} (h1 : SqT K F a vs) (h2 : Reps K F ρ ds vs) (h3 : ds.length ≤ sizeLine) : Rep K F ρ (.tup ds) (.ref a) := by
  unfold Rep
  exact ⟨a, vs, rfl, h1, h2, h3⟩
theorem Rep.l {ds : List D} {a : Addr} {vs : List V} (h1 : SqL K F a vs) (h2 : Reps K F ρ ds vs) (h3 : ds.length ≤ sizeLine) : Rep K F ρ (.lst ds) (.ref a) := by
  unfold Rep
  exact ⟨a, vs, rfl, h1, h2, h3⟩
theorem Rep.k {ks : List Key} {ds : List D} {a : Addr} {vs : List V} (h1 : F a = some (.dK (ks.zip vs))) (h2 : Reps K F ρ ds vs) (h3 : ks.length = ds.length) : Rep K F ρ (.dK ks ds) (.ref a) := by
  unfold Rep
  exact ⟨a, vs, rfl, h1, h2, h3⟩
theorem Rep.kt {ks : List (List Key)} {ds : List D} {a : Addr} {vs : List V} (h1 : F a = some (.dT (ks.zip vs))) (h2 : Reps K F ρ ds vs) (h3 : ks.length = ds.length) : Rep K F ρ (.dT ks ds) (.ref a) := by
  unfold Rep
  exact ⟨a, vs, rfl, h1, h2, h3⟩
theorem Rep.r {n : Nat} {a : Addr} (h : ρ[n]? = some a) : Rep K F ρ (.ref n) (.ref a) := by
  unfold Rep
  exact ⟨a, rfl, h⟩
end

/-! ### the store, what a step may change, the slots -/
def CellOk (K : PySem.W.Frag) (mg : Str → Option Value) (F H : Hp) (ρ : List Addr) (a : Addr) : Cell → Prop
  | .lst ds => ∃ vs, H a = some (.lst vs) ∧ Reps K F ρ ds vs ∧ ds.length ≤ sizeLine
  | .dK ks ds => ∃ vs, H a = some (.dK (ks.zip vs)) ∧ Reps K F ρ ds vs ∧ ks.length = ds.length
  | .dT ks ds => ∃ vs, H a = some (.dT (ks.zip vs)) ∧ Reps K F ρ ds vs ∧ ks.length = ds.length
  | .ins c ns ds => ∃ C dx vs, mg c = some (.ref C) ∧ H a = some (.ins C dx (ns.zip vs)) ∧ Reps K F ρ ds vs ∧ ns.length = ds.length
structure Ext (ρ : List Addr) (F H : Hp) (ρ' : List Addr) (F' H' : Hp) : Prop where
  fle : ∀ a o, F a = some o → F' a = some o
  fnew : ∀ a o, F' a = some o → F a = some o ∨ H a = none
  rpre : ∃ r, ρ' = ρ ++ r ∧ ∀ a ∈ r, H a = none
  keep : ∀ a o, H a = some o → a ∉ ρ → H' a = some o
  live : ∀ a, H' a = none → H a = none
structure W0 (K : PySem.W.Frag) (mg : Str → Option Value) (F H : Hp) (ρ : List Addr) (S : Store) : Prop where
  fh : ∀ a o, F a = some o → H a = some o
  len : ρ.length = S.length
  nd : ρ.Nodup
  off : ∀ a ∈ ρ, F a = none
  cell : ∀ (n : Nat) a c, ρ[n]? = some a → S[n]? = some c → CellOk K mg F H ρ a c
theorem Ext.refl (ρ : List Addr) (F H : Hp) : Ext ρ F H ρ F H :=
  ⟨fun _ _ h => h, fun _ _ h => .inl h, ⟨[], by simp, by simp⟩, fun _ _ h _ => h, fun _ h => h⟩
theorem Ext.trans {ρ ρ1 ρ2 : List Addr} {F H F1 H1 F2 H2 : Hp} (x : Ext ρ F H ρ1 F1 H1) (y : Ext ρ1 F1 H1 ρ2 F2 H2) : Ext ρ F H ρ2 F2 H2 := by
  refine ⟨fun a o h => y.fle _ _ (x.fle _ _ h), fun a o h => ?_, ?_, fun a o h hn => ?_, fun a h => x.live a (y.live a h)⟩
  · rcases y.fnew a o h with h | h
    · exact x.fnew a o h
    · exact .inr (x.live a h)
  · obtain ⟨r, e, hr⟩ := x.rpre
    obtain ⟨r2, e2, hr2⟩ := y.rpre
    refine ⟨r ++ r2, by rw [e2, e, List.append_assoc], fun a ha => ?_⟩
    rcases List.mem_append.mp ha with ha | ha
    · exact hr a ha
    · exact x.live a (hr2 a ha)
  · refine y.keep a o (x.keep a o h hn) ?_
    obtain ⟨r, e, hr⟩ := x.rpre
    rw [e]
    intro hm
    rcases List.mem_append.mp hm with hm | hm
    · exact hn hm
    · rw [hr a hm] at h
      cases h
theorem Ext.rep {K : PySem.W.Frag} {ρ ρ' : List Addr} {F H F' H' : Hp} (x : Ext ρ F H ρ' F' H') {d : D} {v : V} (h : Rep K F ρ d v) : Rep K F' ρ' d v :=
  Rep.mono x.fle (let ⟨r, e, _⟩ := x.rpre; ⟨r, e⟩) d v h
theorem Ext.reps {K : PySem.W.Frag} {ρ ρ' : List Addr} {F H F' H' : Hp} (x : Ext ρ F H ρ' F' H') {d : List D} {v : List V} (h : Reps K F ρ d v) : Reps K F' ρ' d v :=
  Reps.mono x.fle (let ⟨r, e, _⟩ := x.rpre; ⟨r, e⟩) d v h
theorem CellOk.mono {K : PySem.W.Frag} {mg : Str → Option Value} {F F' H H' : Hp} {ρ ρ' : List Addr} {a : Addr} {c : Cell} (e : ∀ a o, F a = some o → F' a = some o) (p : ∃ r, ρ' = ρ ++ r) (k : H' a = H a) (h : CellOk K mg F H ρ a c) : CellOk K mg F' H' ρ' a c := by
  cases c with
  | lst ds =>
    obtain ⟨vs, h1, h2, h3⟩ := h
    exact ⟨vs, by rw [k]; exact h1, Reps.mono e p _ _ h2, h3⟩
  | dK ks ds =>
    obtain ⟨vs, h1, h2, h3⟩ := h
    exact ⟨vs, by rw [k]; exact h1, Reps.mono e p _ _ h2, h3⟩
  | dT ks ds =>
    obtain ⟨vs, h1, h2, h3⟩ := h
    exact ⟨vs, by rw [k]; exact h1, Reps.mono e p _ _ h2, h3⟩
  | ins c ns ds =>
    obtain ⟨C, dx, vs, h0, h1, h2, h3⟩ := h
    exact ⟨C, dx, vs, h0, by rw [k]; exact h1, Reps.mono e p _ _ h2, h3⟩
theorem CellOk.there {K : PySem.W.Frag} {mg : Str → Option Value} {F H : Hp} {ρ : List Addr} {a : Addr} {c : Cell} (h : CellOk K mg F H ρ a c) : H a ≠ none := by
  cases c with
  | lst ds =>
    obtain ⟨vs, h1, h2, h3⟩ := h
    rw [h1]
    exact fun z => nomatch z
  | dK ks ds =>
    obtain ⟨vs, h1, h2, h3⟩ := h
    rw [h1]
    exact fun z => nomatch z
  | dT ks ds =>
    obtain ⟨vs, h1, h2, h3⟩ := h
    rw [h1]
    exact fun z => nomatch z
  | ins c ns ds =>
    obtain ⟨C, dx, vs, h0, h1, h2, h3⟩ := h
    rw [h1]
    exact fun z => nomatch z
theorem W0.there {K : PySem.W.Frag} {mg : Str → Option Value} {F H : Hp} {ρ : List Addr} {S : Store} (w : W0 K mg F H ρ S) {a : Addr} (h : a ∈ ρ) : H a ≠ none := by
  obtain ⟨n, hn, e⟩ := List.mem_iff_getElem.mp h
  have h1 : ρ[n]? = some a := by rw [List.getElem?_eq_getElem hn, e]
  have h2 : n < S.length := by rw [← w.len]; exact hn
  exact (w.cell n a S[n] h1 (List.getElem?_eq_getElem h2)).there
/-- a new frozen object -/
theorem ext_new {ρ : List Addr} {F H : Hp} {p : Addr} {o : HO} (hp : H p = none) (hf : F p = none) : Ext ρ F H ρ (upd F p o) (upd H p o) :=
  ⟨fun a o' h => by rw [upd_ne (ne_of_none h hf)]; exact h,
   fun a o' h => by
    by_cases e : a = p
    · subst e
      exact .inr hp
    · rw [upd_ne e] at h
      exact .inl h,
   ⟨[], by simp, by simp⟩, fun a o' h _ => by rw [upd_ne (ne_of_none h hp)]; exact h,
   fun a h => by
    by_cases e : a = p
    · subst e
      exact hp
    · rw [upd_ne e] at h
      exact h⟩
theorem W0.fnone {K : PySem.W.Frag} {mg : Str → Option Value} {F H : Hp} {ρ : List Addr} {S : Store} (w : W0 K mg F H ρ S) {p : Addr} (hp : H p = none) : F p = none := by
  cases e : F p with
  | none => rfl
  | some o =>
    rw [w.fh p o e] at hp
    cases hp
theorem w0_new {K : PySem.W.Frag} {mg : Str → Option Value} {F H : Hp} {ρ : List Addr} {S : Store} {p : Addr} {o : HO} (w : W0 K mg F H ρ S) (hp : H p = none) : W0 K mg (upd F p o) (upd H p o) ρ S := by
  have hf := w.fnone hp
  have nm : ∀ a ∈ ρ, a ≠ p := fun a ha e => by
    subst e
    exact w.there ha hp
  refine ⟨fun a o' h => ?_, w.len, w.nd, fun a ha => ?_, fun n a c h1 h2 => ?_⟩
  · by_cases e : a = p
    · subst e
      rw [upd_same] at h ⊢
      exact h
    · rw [upd_ne e] at h ⊢
      exact w.fh _ _ h
  · rw [upd_ne (nm a ha)]
    exact w.off a ha
  · refine CellOk.mono (ext_new (ρ := ρ) (H := H) hp hf).fle ⟨[], by simp⟩ ?_ (w.cell n a c h1 h2)
    exact upd_ne (nm a (List.mem_of_getElem? h1))

def SlOk (K : PySem.W.Frag) (F H : Hp) (ρ : List Addr) : Sl → Option V → Prop
  | .no, _ => True
  | .val d, x => ∃ v, x = some v ∧ Rep K F ρ d v
  | .uq ds, x => ∃ a vs, x = some (.ref a) ∧ H a = some (.lst vs) ∧ F a = none ∧ a ∉ ρ ∧ Reps K F ρ ds vs ∧ ds.length ≤ sizeLine
  | .uK ks ds, x => ∃ a vs, x = some (.ref a) ∧ H a = some (.dK (ks.zip vs)) ∧ F a = none ∧ a ∉ ρ ∧ Reps K F ρ ds vs ∧ ks.length = ds.length
  | .uT ks ds, x => ∃ a vs, x = some (.ref a) ∧ H a = some (.dT (ks.zip vs)) ∧ F a = none ∧ a ∉ ρ ∧ Reps K F ρ ds vs ∧ ks.length = ds.length
def Sl.owns : Sl → Bool
  | .uq _ => true
  | .uK _ _ => true
  | .uT _ _ => true
  | _ => false
def Own (σd : Sls) (σ : L2.St) (i : Nat) (a : Addr) : Prop := (∃ s, σd[i]? = some s ∧ s.owns = true) ∧ σ[i]? = some (some (.ref a))
/-- the entry of a def -/
structure En where
  H : Hp
  F : Hp
  ρ : List Addr
structure RS (K : PySem.W.Frag) (mg : Str → Option Value) (n : En) (F H : Hp) (ρ : List Addr) (σd : Sls) (S : Store) (σ : L2.St) : Prop where
  w : W0 K mg F H ρ S
  len : σ.length = σd.length
  sl : ∀ (i : Nat) s, σd[i]? = some s → ∃ x, σ[i]? = some x ∧ SlOk K F H ρ s x
  one : ∀ i j a, i ≠ j → Own σd σ i a → Own σd σ j a → False
  new : ∀ i a, Own σd σ i a → n.H a = none
  en : Ext n.ρ n.F n.H ρ F H
theorem SlOk.next {K : PySem.W.Frag} {ρ ρ' : List Addr} {F H F' H' : Hp} (x : Ext ρ F H ρ' F' H') {s : Sl} {o : Option V} (h : SlOk K F H ρ s o) : SlOk K F' H' ρ' s o := by
  have go : ∀ {a : Addr} {u : HO}, H a = some u → F a = none → a ∉ ρ → H' a = some u ∧ F' a = none ∧ a ∉ ρ' := fun {a u} h1 h2 h3 => by
    refine ⟨x.keep a u h1 h3, ?_, ?_⟩
    · cases e : F' a with
      | none => rfl
      | some o' =>
        rcases x.fnew a o' e with z | z
        · rw [h2] at z
          cases z
        · rw [h1] at z
          cases z
    · obtain ⟨r, e, hr⟩ := x.rpre
      rw [e]
      intro hm
      rcases List.mem_append.mp hm with hm | hm
      · exact h3 hm
      · rw [hr a hm] at h1
        cases h1
  cases s with
  | no => trivial
  | val d =>
    obtain ⟨v, e, h⟩ := h
    exact ⟨v, e, x.rep h⟩
  | uq ds =>
    obtain ⟨a, vs, e, h1, h2, h3, h4, h5⟩ := h
    obtain ⟨g1, g2, g3⟩ := go h1 h2 h3
    exact ⟨a, vs, e, g1, g2, g3, x.reps h4, h5⟩
  | uK ks ds =>
    obtain ⟨a, vs, e, h1, h2, h3, h4, h5⟩ := h
    obtain ⟨g1, g2, g3⟩ := go h1 h2 h3
    exact ⟨a, vs, e, g1, g2, g3, x.reps h4, h5⟩
  | uT ks ds =>
    obtain ⟨a, vs, e, h1, h2, h3, h4, h5⟩ := h
    obtain ⟨g1, g2, g3⟩ := go h1 h2 h3
    exact ⟨a, vs, e, g1, g2, g3, x.reps h4, h5⟩
section
variable {K : PySem.W.Frag} {mg : Str → Option Value} {n : En} {F H F' H' : Hp} {ρ ρ' : List Addr} {σd : Sls} {S S' : Store} {σ : L2.St}
theorem RS.next (r : RS K mg n F H ρ σd S σ) (x : Ext ρ F H ρ' F' H') (w : W0 K mg F' H' ρ' S') : RS K mg n F' H' ρ' σd S' σ :=
  ⟨w, r.len, fun i s e => let ⟨y, e1, e2⟩ := r.sl i s e; ⟨y, e1, e2.next x⟩, r.one, r.new, r.en.trans x⟩
theorem own_set {i j : Nat} {a : Addr} {d : D} {x : Option V} (h : Own (σd.set i (.val d)) (σ.set i x) j a) : Own σd σ j a := by
  obtain ⟨⟨s, e, hs⟩, e2⟩ := h
  by_cases hij : i = j
  · subst hij
    by_cases hl : i < σd.length
    · rw [List.getElem?_set_self hl] at e
      cases e
      cases hs
    · rw [List.getElem?_eq_none (by rw [List.length_set]; omega)] at e
      cases e
  · rw [List.getElem?_set_ne hij] at e e2
    exact ⟨⟨s, e, hs⟩, e2⟩
theorem RS.set {i : Nat} {d : D} {v : V} (r : RS K mg n F H ρ σd S σ) (h : Rep K F ρ d v) : RS K mg n F H ρ (σd.set i (.val d)) S (σ.set i (some v)) := by
  refine ⟨r.w, by rw [List.length_set, List.length_set]; exact r.len, fun j s e => ?_, fun p q a hpq h1 h2 => r.one p q a hpq (own_set h1) (own_set h2), fun p a h1 => r.new p a (own_set h1), r.en⟩
  by_cases hij : i = j
  · subst hij
    have hl : i < σd.length := by
      have := (List.getElem?_eq_some_iff.mp e).1
      rwa [List.length_set] at this
    rw [List.getElem?_set_self hl] at e
    cases e
    exact ⟨some v, by rw [List.getElem?_set_self (by rw [r.len]; exact hl)], v, rfl, h⟩
  · rw [List.getElem?_set_ne hij] at e ⊢
    exact r.sl j s e
theorem RS.val {i : Nat} {d : D} (r : RS K mg n F H ρ σd S σ) (h : σd[i]? = some (.val d)) : ∃ v, σ[i]? = some (some v) ∧ Rep K F ρ d v := by
  obtain ⟨x, e, v, rfl, h2⟩ := r.sl i _ h
  exact ⟨v, e, h2⟩
end

/-! ### ends -/
def Out {α : Type} (r : R α) (P : α → Store → Prop) (W : Str → D → Store → Prop) : Prop := match r with
  | .ok a S => P a S
  | .exc c d S => W c d S
  | .bad => False
theorem Out.bind {α β : Type} {r : R α} {k : α → Store → R β} {P : β → Store → Prop} {P' : α → Store → Prop} {W : Str → D → Store → Prop} (h : Out (r.bind k) P W) (f : ∀ a S, Out (k a S) P W → P' a S) : Out r P' W := by
  cases r with
  | ok a S => exact f a S h
  | exc c d S => exact h
  | bad => exact h
theorem Out.of {α : Type} {o : Option α} {S : Store} {P : α → Store → Prop} {W : Str → D → Store → Prop} (h : Out (R.of o S) P W) : ∃ a, o = some a ∧ P a S := by
  cases o with
  | none => exact h.elim
  | some a => exact ⟨a, rfl, h⟩
def Post (K : PySem.W.Frag) (mg : Str → Option Value) (ρ : List Addr) (F H : Hp) (S : Store) (d : D) (Q : VK) : Prop :=
  ∀ v H' F' ρ', Ext ρ F H ρ' F' H' → W0 K mg F' H' ρ' S → Rep K F' ρ' d v → Q v H'
section
variable {K : PySem.W.Frag} {mg : Str → Option Value} {F H F' H' : Hp} {ρ ρ' : List Addr} {S S' : Store} {d : D} {Q : VK}
theorem Post.same (p : Post K mg ρ F H S d Q) (w : W0 K mg F H ρ S) {v : V} (h : Rep K F ρ d v) : Q v H := p v H F ρ (.refl _ _ _) w h
theorem Post.lst {ds : List D} {vs : List V} (p : Post K mg ρ F H S (.lst ds) Q) (w : W0 K mg F H ρ S) (h : Reps K F ρ ds vs) (hl : ds.length ≤ sizeLine) : ∀ a, H a = none → Q (.ref a) (upd H a (.lst vs)) := fun a ha => by
  have x := ext_new (ρ := ρ) (o := .lst vs) ha (w.fnone ha)
  exact p _ _ _ _ x (w0_new w ha) (.l (.inl (.inl upd_same)) (x.reps h) hl)
theorem Post.tup {ds : List D} {vs : List V} (p : Post K mg ρ F H S (.tup ds) Q) (w : W0 K mg F H ρ S) (h : Reps K F ρ ds vs) (hl : ds.length ≤ sizeLine) : ∀ a, H a = none → Q (.ref a) (upd H a (.tup vs)) := fun a ha => by
  have x := ext_new (ρ := ρ) (o := .tup vs) ha (w.fnone ha)
  exact p _ _ _ _ x (w0_new w ha) (.t (.inl (.inl upd_same)) (x.reps h) hl)
theorem Post.next (p : Post K mg ρ F H S' d Q) (x : Ext ρ F H ρ' F' H') : Post K mg ρ' F' H' S' d Q := fun v H2 F2 ρ2 x2 w r => p v H2 F2 ρ2 (x.trans x2) w r
end

/-! ### judgements -/
structure Mon (F : Hp) (ρ : List Addr) (F' : Hp) (ρ' : List Addr) : Prop where
  fle : ∀ a o, F a = some o → F' a = some o
  pre : ∃ r, ρ' = ρ ++ r
theorem Mon.refl (F : Hp) (ρ : List Addr) : Mon F ρ F ρ := ⟨fun _ _ h => h, [], by simp⟩
theorem Mon.trans {F F1 F2 : Hp} {ρ ρ1 ρ2 : List Addr} (a : Mon F ρ F1 ρ1) (b : Mon F1 ρ1 F2 ρ2) : Mon F ρ F2 ρ2 :=
  ⟨fun c o h => b.fle c o (a.fle c o h), let ⟨r, e⟩ := a.pre; let ⟨r2, e2⟩ := b.pre; ⟨r ++ r2, by rw [e2, e, List.append_assoc]⟩⟩
theorem Ext.mon {ρ ρ' : List Addr} {F H F' H' : Hp} (x : Ext ρ F H ρ' F' H') : Mon F ρ F' ρ' := ⟨x.fle, let ⟨r, e, _⟩ := x.rpre; ⟨r, e⟩⟩
theorem Mon.rep {K : PySem.W.Frag} {ρ ρ' : List Addr} {F F' : Hp} (x : Mon F ρ F' ρ') {d : D} {v : V} (h : Rep K F ρ d v) : Rep K F' ρ' d v := Rep.mono x.fle x.pre d v h
theorem Mon.reps {K : PySem.W.Frag} {ρ ρ' : List Addr} {F F' : Hp} (x : Mon F ρ F' ρ') {d : List D} {v : List V} (h : Reps K F ρ d v) : Reps K F' ρ' d v := Reps.mono x.fle x.pre d v h
abbrev WS := Str → D → Sls → Store → Prop
section
variable (K : PySem.W.Frag) (mg : Str → Option Value) (n : En) (W : WS)
def tM (m : M) : TE := fun σ H Q => ∃ F ρ σd S, RS K mg n F H ρ σd S σ ∧ Out (m σd S) (fun d S' => Post K mg ρ F H S' d Q) (fun c d S' => W c d σd S')
def tMA (m : MA) : TA := fun σ H Q => ∃ F ρ σd S, RS K mg n F H ρ σd S σ ∧ Out (m σd S) (fun ds S' => ∀ vs H' F' ρ', Ext ρ F H ρ' F' H' → W0 K mg F' H' ρ' S' → Reps K F' ρ' ds vs → Q vs H') (fun c d S' => W c d σd S')
def tMB (m : MB) : TT := fun σ H Q => ∃ F ρ σd S, RS K mg n F H ρ σd S σ ∧ Out (m σd S) (fun b S' => ∀ H' F' ρ', Ext ρ F H ρ' F' H' → W0 K mg F' H' ρ' S' → Q b H') (fun c d S' => W c d σd S')
def OutS (F0 : Hp) (ρ0 : List Addr) (r : Fl) (E : Ends) : Prop := match r with
  | .nx σd S => ∀ σ H F ρ, Mon F0 ρ0 F ρ → RS K mg n F H ρ σd S σ → E.nx σ H
  | .bk σd S => ∀ σ H F ρ, Mon F0 ρ0 F ρ → RS K mg n F H ρ σd S σ → E.bk σ H
  | .ct σd S => ∀ σ H F ρ, Mon F0 ρ0 F ρ → RS K mg n F H ρ σd S σ → E.ct σ H
  | .ret d S => ∀ v H F ρ, Ext n.ρ n.F n.H ρ F H → W0 K mg F H ρ S → Rep K F ρ d v → E.rt v H
  | .exc c d σd S => W c d σd S
  | .bad => False
theorem OutS.mon {K : PySem.W.Frag} {mg : Str → Option Value} {n : En} {W : WS} {F F' : Hp} {ρ ρ' : List Addr} {r : Fl} {E : Ends} (x : Mon F ρ F' ρ') (o : OutS K mg n W F ρ r E) : OutS K mg n W F' ρ' r E := by
  cases r with
  | nx σd S => exact fun σ H F2 ρ2 y rs => o σ H F2 ρ2 (x.trans y) rs
  | bk σd S => exact fun σ H F2 ρ2 y rs => o σ H F2 ρ2 (x.trans y) rs
  | ct σd S => exact fun σ H F2 ρ2 y rs => o σ H F2 ρ2 (x.trans y) rs
  | ret _ _ => exact o
  | exc _ _ _ _ => exact o
  | bad => exact o
def tMS (m : MS) : TS := fun E σ H => ∃ F ρ σd S, RS K mg n F H ρ σd S σ ∧ OutS K mg n W F ρ (m σd S) E
end
section
variable (X : Cx) (n : En) (W : WS)
abbrev DE (m : M) (e : Expr) : Prop := PE X e (tM X.K X.mg n W m)
abbrev DA (m : MA) (es : List Expr) : Prop := PA X es (tMA X.K X.mg n W m)
abbrev DT (m : MB) (e : Expr) : Prop := PT X e (tMB X.K X.mg n W m)
abbrev DW (m : MB) (e : Expr) : Prop := PW X e (tMB X.K X.mg n W m)
abbrev DS (m : MS) (s : Stmt) : Prop := PS X s (tMS X.K X.mg n W m)
abbrev DSs (m : MS) (s : List Stmt) : Prop := PSs X s (tMS X.K X.mg n W m)
end
theorem PE.weak {X : Cx} {e : Expr} {t t' : TE} (h : PE X e t) (k : ∀ σ H Q, t' σ H Q → t σ H Q) : PE X e t' := ⟨fun pins s σ H Q I q => h.run pins s σ H Q I (k σ H Q q)⟩
theorem PT.weak {X : Cx} {e : Expr} {t t' : TT} (h : PT X e t) (k : ∀ σ H Q, t' σ H Q → t σ H Q) : PT X e t' := ⟨fun pins s σ H Q I q => h.run pins s σ H Q I (k σ H Q q)⟩
theorem PW.weak {X : Cx} {e : Expr} {t t' : TT} (h : PW X e t) (k : ∀ σ H Q, t' σ H Q → t σ H Q) : PW X e t' := ⟨fun wh pins s σ H Q I q => h.run wh pins s σ H Q I (k σ H Q q)⟩
theorem PA.weak {X : Cx} {e : List Expr} {t t' : TA} (h : PA X e t) (k : ∀ σ H Q, t' σ H Q → t σ H Q) : PA X e t' := ⟨fun pos pins s σ H Q I q => h.run pos pins s σ H Q I (k σ H Q q)⟩
theorem PS.weak {X : Cx} {e : Stmt} {t t' : TS} (h : PS X e t) (k : ∀ E σ H, t' E σ H → t E σ H) : PS X e t' := ⟨fun pins s σ H E I q => h.run pins s σ H E I (k E σ H q)⟩
theorem PSs.weak {X : Cx} {e : List Stmt} {t t' : TS} (h : PSs X e t) (k : ∀ E σ H, t' E σ H → t E σ H) : PSs X e t' := ⟨fun pins s σ H E I q => h.run pins s σ H E I (k E σ H q)⟩
end PL

set_option Elab.async false
set_option linter.all false
set_option maxRecDepth 100000
set_option maxHeartbeats 4000000
namespace PL
open PySem PySem.Spec PyProof.Rows L2
section
variable {X : Cx} {n : En} {W : WS} {pos : Pos}

/-! ### constants, names -/
def mC (d : D) : M := fun _ S => .ok d S
def mV (i : Nat) : M := fun σ S => match σ[i]? with
  | some (.val d) => .ok d S
  | _ => .bad
theorem de_var (i : Nat) {x : Str} {pos : Pos} (hN : X.N[i]? = some x := by rfl) (hv : Vis X.env.scope x := by first | exact Or.inl rfl | exact Or.inr (Or.inl rfl) | exact Or.inr (Or.inr rfl)) (hd : (x == ("__debug__" : Str)) = false := by decide)
    (hcd : (x == ("__classdict__" : Str)) = false := by decide) : DE X n W (mV i) (.Name x pos) := by
  refine PE.weak (pe_var hN hv hd hcd) fun σ H Q h => ?_
  obtain ⟨F, ρ, σd, S, rs, o⟩ := h
  unfold mV at o
  split at o
  · rename_i d e
    obtain ⟨v, e2, r⟩ := rs.val e
    exact ⟨v, e2, Post.same o rs.w r⟩
  · exact o.elim
theorem mc_ok {d : D} {v : V} (h : ∀ F ρ, Rep X.K F ρ d v) {σ : L2.St} {H : Hp} {Q : VK} (q : tM X.K X.mg n W (mC d) σ H Q) : tC v σ H Q := by
  obtain ⟨F, ρ, σd, S, rs, o⟩ := q
  exact Post.same o rs.w (h F ρ)
theorem de_int {i : Int} {j} : DE X n W (mC (.int i)) (.Constant (.int i) j pos) := PE.weak pe_int fun _ _ _ q => mc_ok (fun _ _ => .i i) q
theorem de_bl {b : Bool} {j} : DE X n W (mC (.bl b)) (.Constant (.bool b) j pos) := PE.weak pe_bl fun _ _ _ q => mc_ok (fun _ _ => .b b) q
theorem de_non {j} : DE X n W (mC .non) (.Constant .none j pos) := PE.weak pe_non fun _ _ _ q => mc_ok (fun _ _ => .n) q
theorem de_str {x : Str} {j} : DE X n W (mC (.str x)) (.Constant (.str x) j pos) := PE.weak pe_str fun _ _ _ q => mc_ok (fun _ _ => .s x) q
/-- a constant of the module: an int, a text, a tuple of the written part -/
def KC (K : PySem.W.Frag) (d : D) (u : Value) : Prop := ∃ v, RelV v u ∧ ∀ F ρ, Rep K F ρ d v
theorem de_glob {x : Str} {d : D} {u : Value} (hg : Gl X x) (hm : X.mg x = some u) (h : KC X.K d u) (hd : (x == ("__debug__" : Str)) = false := by decide) : DE X n W (mC d) (.Name x pos) := by
  obtain ⟨v, r, h⟩ := h
  exact PE.weak (pe_glob hg hm r hd) fun _ _ _ q => mc_ok h q
theorem KC.int {K : PySem.W.Frag} {i : Int} {t : Tok} : KC K (.int i) (.int i t) := ⟨.int i, ⟨t, rfl⟩, fun _ _ => .i i⟩
theorem KC.str {K : PySem.W.Frag} {i : Str} {t : Tok} : KC K (.str i) (.str i t) := ⟨.str i, ⟨t, rfl⟩, fun _ _ => .s i⟩

/-! ### operators -/
def mBin (g : Store → D → D → Option D) (a b : M) : M := fun σ S => (a σ S).bind fun x S1 => (b σ S1).bind fun y S2 => R.of (g S2 x y) S2
def mUn (g : Store → D → Option D) (a : M) : M := fun σ S => (a σ S).bind fun x S1 => R.of (g S1 x) S1
/-- g tells what f does with data -/
def OpS (X : Cx) (f : Value → Value → Sem Value) (g : Store → D → D → Option D) : Prop := ∃ r, OpR X f r ∧
  ∀ mg F H ρ S d1 d2 v1 v2 d Q, W0 X.K mg F H ρ S → Rep X.K F ρ d1 v1 → Rep X.K F ρ d2 v2 → g S d1 d2 = some d → Post X.K mg ρ F H S d Q → r v1 v2 H Q
theorem tbin_ok {r : R2} {g : Store → D → D → Option D} {ma mb : M} (hr : ∀ mg F H ρ S d1 d2 v1 v2 d Q, W0 X.K mg F H ρ S → Rep X.K F ρ d1 v1 → Rep X.K F ρ d2 v2 → g S d1 d2 = some d → Post X.K mg ρ F H S d Q → r v1 v2 H Q)
    {σ : L2.St} {H : Hp} {Q : VK} (h : tM X.K X.mg n W (mBin g ma mb) σ H Q) : tOp r (tM X.K X.mg n W ma) (tM X.K X.mg n W mb) σ H Q := by
  obtain ⟨F, ρ, σd, S, rs, o⟩ := h
  refine ⟨F, ρ, σd, S, rs, Out.bind o fun d1 S1 o1 v1 H1 F1 ρ1 x1 w1 r1 => ⟨F1, ρ1, σd, S1, rs.next x1 w1, Out.bind o1 fun d2 S2 o2 v2 H2 F2 ρ2 x2 w2 r2 => ?_⟩⟩
  obtain ⟨d, e, p⟩ := Out.of o2
  exact hr _ F2 H2 ρ2 S2 d1 d2 v1 v2 d Q w2 (x2.rep r1) r2 e (Post.next p (x1.trans x2))
theorem de_bin {op : Operator} {g : Store → D → D → Option D} {ma mb : M} {a b : Expr} (ho : OpS X (binaryOp op) g) (ha : DE X n W ma a) (hb : DE X n W mb b) : DE X n W (mBin g ma mb) (.BinOp a op b pos) := by
  obtain ⟨r, h1, h2⟩ := ho
  exact PE.weak (pe_op h1 ha hb) fun _ _ _ q => tbin_ok h2 q
theorem de_cmp {op : CmpOp} {g : Store → D → D → Option D} {ma mb : M} {a b : Expr} (ho : OpS X (compareOp op) g) (ha : DE X n W ma a) (hb : DE X n W mb b) (hm : behindInMarks op b = false := by first | exact nomark _ | rfl) : DE X n W (mBin g ma mb) (.Compare a [op] [b] pos) := by
  obtain ⟨r, h1, h2⟩ := ho
  exact PE.weak (pe_cmpR h1 ha hb hm) fun _ _ _ q => tbin_ok h2 q
/-- an expression that gives a bool, as a test -/
def mB (m : M) : MB := fun σ S => (m σ S).bind fun d S1 => match d with
  | .bl b => .ok b S1
  | _ => .bad
theorem tB_ok {m : M} {σ : L2.St} {H : Hp} {Q : Bool → Hp → Prop} (h : tMB X.K X.mg n W (mB m) σ H Q) : tM X.K X.mg n W m σ H fun x H' => ∃ k, x = .bl k ∧ Q k H' := by
  obtain ⟨F, ρ, σd, S, rs, o⟩ := h
  refine ⟨F, ρ, σd, S, rs, Out.bind o fun d S1 o1 => ?_⟩
  split at o1
  · rename_i b
    intro v H1 F1 ρ1 x1 w1 r1
    exact ⟨b, rep_bl r1, o1 H1 F1 ρ1 x1 w1⟩
  · exact o1.elim
theorem dt_cmp {op : CmpOp} {g : Store → D → D → Option D} {ma mb : M} {a b : Expr} (ho : OpS X (compareOp op) g) (ha : DE X n W ma a) (hb : DE X n W mb b) (hm : behindInMarks op b = false := by first | exact nomark _ | rfl) : DT X n W (mB (mBin g ma mb)) (.Compare a [op] [b] pos) := by
  obtain ⟨r, h1, h2⟩ := ho
  exact PT.weak (pt_cmpR h1 ha hb hm) fun σ H Q q => tbin_ok h2 (tB_ok q)
theorem dt_val {m : M} {e : Expr} (h : DE X n W m e) (he : ∀ whole, isTrue e X.env whole = (do let v ← whole; standAt e.pos; holding [v] (truthy v)) := by intro _; rfl) : DT X n W (mB m) e :=
  PT.weak (pt_val h he) fun σ H Q q => tB_ok q
def UnS (X : Cx) (f : Value → Sem Value) (g : Store → D → Option D) : Prop := ∃ r, UnR X f r ∧
  ∀ mg F H ρ S d1 v1 d Q, W0 X.K mg F H ρ S → Rep X.K F ρ d1 v1 → g S d1 = some d → Post X.K mg ρ F H S d Q → r v1 H Q
theorem de_un {op : UnaryOp} {g : Store → D → Option D} {ma : M} {a : Expr} (ho : UnS X (unaryOp op) g) (ha : DE X n W ma a) : DE X n W (mUn g ma) (.UnaryOp op a pos) := by
  obtain ⟨r, h1, h2⟩ := ho
  refine PE.weak (pe_un h1 ha) fun σ H Q q => ?_
  obtain ⟨F, ρ, σd, S, rs, o⟩ := q
  refine ⟨F, ρ, σd, S, rs, Out.bind o fun d1 S1 o1 v1 H1 F1 ρ1 x1 w1 r1 => ?_⟩
  obtain ⟨d, e, p⟩ := Out.of o1
  exact h2 _ F1 H1 ρ1 S1 d1 v1 d Q w1 r1 e (Post.next p x1)

/-! ### truth -/
def truD (S : Store) : D → Option Bool
  | .non => some false
  | .bl b => some b
  | .int i => some (i != 0)
  | .str y => if y.length ≤ sizeLine then some ((y.length : Int) != 0) else none
  | .tup ds => some (!ds.isEmpty)
  | .lst ds => some (!ds.isEmpty)
  | .dK ks _ => some (!ks.isEmpty)
  | .ref n => match S[n]? with
    | some (.lst ds) => some (!ds.isEmpty)
    | some (.dK ks _) => some (!ks.isEmpty)
    | _ => none
  | _ => none
theorem empty_of {K : PySem.W.Frag} {F : Hp} {ρ : List Addr} {ds : List D} {vs : List V} (h : Reps K F ρ ds vs) : ds.isEmpty = vs.isEmpty := by
  have := h.length
  cases ds <;> cases vs <;> simp_all
theorem zip_empty {α : Type} {ks : List α} {ds : List D} {vs : List V} (h : vs.length = ds.length) (e : ks.length = ds.length) : ks.isEmpty = (ks.zip vs).isEmpty := by
  have h' : ks.length = vs.length := e.trans h.symm
  cases ks <;> cases vs <;> first | rfl | cases h'
theorem tru_of {K : PySem.W.Frag} {mg} {F H : Hp} {ρ : List Addr} {S : Store} {d : D} {v : V} {b : Bool} (w : W0 K mg F H ρ S) (h : Rep K F ρ d v) (e : truD S d = some b) : TruV K v H b := by
  cases d with
  | non => cases e; rw [rep_non h]; rfl
  | bl c => cases e; rw [rep_bl h]; rfl
  | int i => cases e; rw [rep_int h]; rfl
  | str y =>
    simp only [truD] at e
    split at e
    · rename_i hy
      cases e
      rw [rep_str h]
      exact ⟨hy, rfl⟩
    · cases e
  | tup ds =>
    cases e
    obtain ⟨a, vs, rfl, h1, h2, h3⟩ := rep_tup h
    exact .inr (.inl ⟨vs, SqT.mono w.fh h1, by rw [empty_of h2]⟩)
  | lst ds =>
    cases e
    obtain ⟨a, vs, rfl, h1, h2, h3⟩ := rep_lst h
    exact .inl ⟨vs, SqL.mono w.fh h1, by rw [empty_of h2]⟩
  | dK ks ds =>
    cases e
    obtain ⟨a, vs, rfl, h1, h2, h3⟩ := rep_dK h
    exact .inr (.inr ⟨_, w.fh _ _ h1, by rw [zip_empty h2.length h3]⟩)
  | dT ks ds => cases e
  | ref m =>
    obtain ⟨a, rfl, ha⟩ := rep_ref h
    simp only [truD] at e
    split at e
    · rename_i ds hc
      cases e
      obtain ⟨vs, h1, h2, h3⟩ := w.cell m a _ ha hc
      exact .inl ⟨vs, .inl (.inl h1), by rw [empty_of h2]⟩
    · rename_i ks ds hc
      cases e
      obtain ⟨vs, h1, h2, h3⟩ := w.cell m a _ ha hc
      exact .inr (.inr ⟨_, h1, by rw [zip_empty h2.length h3]⟩)
    · cases e
def mTru (m : M) : MB := fun σ S => (m σ S).bind fun d S1 => R.of (truD S1 d) S1
theorem dt_tru {m : M} {e : Expr} (h : DE X n W m e) (he : ∀ whole, isTrue e X.env whole = (do let v ← whole; standAt e.pos; holding [v] (truthy v)) := by intro _; rfl) : DT X n W (mTru m) e := by
  refine PT.weak (pt_truth h he) fun σ H Q q => ?_
  obtain ⟨F, ρ, σd, S, rs, o⟩ := q
  refine ⟨F, ρ, σd, S, rs, Out.bind o fun d1 S1 o1 v1 H1 F1 ρ1 x1 w1 r1 => ?_⟩
  obtain ⟨b, e, p⟩ := Out.of o1
  exact ⟨b, tru_of w1 r1 e, p H1 F1 ρ1 x1 w1⟩

/-! ### and, or, not, if -/
def mAndB (a b : MB) : MB := fun σ S => (a σ S).bind fun x S1 => if x = true then b σ S1 else .ok false S1
def mOrB (a b : MB) : MB := fun σ S => (a σ S).bind fun x S1 => if x = true then .ok true S1 else b σ S1
def mNotB (a : MB) : MB := fun σ S => (a σ S).bind fun x S1 => .ok (!x) S1
theorem dw_one_and {m : MB} {a : Expr} (h : DT X n W m a) : DW X n W m (.BoolOp .And [a] pos) := pw_and1 h
theorem dw_one_or {m : MB} {a : Expr} (h : DT X n W m a) : DW X n W m (.BoolOp .Or [a] pos) := pw_or1 h
theorem dw_and {ma mb : MB} {a b : Expr} {rest : List Expr} (ha : DT X n W ma a) (hb : DW X n W mb (.BoolOp .And (b :: rest) pos)) : DW X n W (mAndB ma mb) (.BoolOp .And (a :: b :: rest) pos) := by
  refine PW.weak (pw_and ha hb) fun σ H Q q => ?_
  obtain ⟨F, ρ, σd, S, rs, o⟩ := q
  refine ⟨F, ρ, σd, S, rs, Out.bind o fun c S1 o1 H1 F1 ρ1 x1 w1 => ?_⟩
  cases c with
  | true =>
    rw [if_pos rfl] at o1 ⊢
    refine ⟨F1, ρ1, σd, S1, rs.next x1 w1, ?_⟩
    cases hm : mb σd S1 with
    | ok b S2 =>
      rw [hm] at o1
      exact fun H2 F2 ρ2 x2 w2 => o1 H2 F2 ρ2 (x1.trans x2) w2
    | exc c d S2 => rw [hm] at o1; exact o1
    | bad => rw [hm] at o1; exact o1
  | false => exact o1 H1 F1 ρ1 x1 w1
theorem outB_next {K : PySem.W.Frag} {mg} {F H F1 H1 : Hp} {ρ ρ1 : List Addr} {r : R Bool} {Q : Bool → Hp → Prop} {W' : Str → D → Store → Prop} (x1 : Ext ρ F H ρ1 F1 H1)
    (o : Out r (fun b S' => ∀ H' F' ρ', Ext ρ F H ρ' F' H' → W0 K mg F' H' ρ' S' → Q b H') W') : Out r (fun b S' => ∀ H' F' ρ', Ext ρ1 F1 H1 ρ' F' H' → W0 K mg F' H' ρ' S' → Q b H') W' := by
  cases r with
  | ok b S2 => exact fun H2 F2 ρ2 x2 w2 => o H2 F2 ρ2 (x1.trans x2) w2
  | exc c d S2 => exact o
  | bad => exact o
theorem outM_next {K : PySem.W.Frag} {mg} {F H F1 H1 : Hp} {ρ ρ1 : List Addr} {r : R D} {Q : VK} {W' : Str → D → Store → Prop} (x1 : Ext ρ F H ρ1 F1 H1)
    (o : Out r (fun d S' => Post K mg ρ F H S' d Q) W') : Out r (fun d S' => Post K mg ρ1 F1 H1 S' d Q) W' := by
  cases r with
  | ok b S2 => exact Post.next o x1
  | exc c d S2 => exact o
  | bad => exact o
theorem dw_or {ma mb : MB} {a b : Expr} {rest : List Expr} (ha : DT X n W ma a) (hb : DW X n W mb (.BoolOp .Or (b :: rest) pos)) : DW X n W (mOrB ma mb) (.BoolOp .Or (a :: b :: rest) pos) := by
  refine PW.weak (pw_or ha hb) fun σ H Q q => ?_
  obtain ⟨F, ρ, σd, S, rs, o⟩ := q
  refine ⟨F, ρ, σd, S, rs, Out.bind o fun c S1 o1 H1 F1 ρ1 x1 w1 => ?_⟩
  cases c with
  | true => exact o1 H1 F1 ρ1 x1 w1
  | false => exact ⟨F1, ρ1, σd, S1, rs.next x1 w1, outB_next x1 o1⟩
theorem dt_not {m : MB} {a : Expr} (h : DT X n W m a) : DT X n W (mNotB m) (.UnaryOp .Not a pos) := by
  refine PT.weak (pt_not h) fun σ H Q q => ?_
  obtain ⟨F, ρ, σd, S, rs, o⟩ := q
  exact ⟨F, ρ, σd, S, rs, Out.bind o fun c S1 o1 H1 F1 ρ1 x1 w1 => o1 H1 F1 ρ1 x1 w1⟩
theorem DW.t {m : MB} {a : Expr} (h : DW X n W m a) : DT X n W m a := PW.pt h
/-- and, or, not as values: all but the last give bools -/
def mAnd (a b : M) : M := fun σ S => (mB a σ S).bind fun x S1 => if x = true then b σ S1 else .ok (.bl false) S1
def mOr (a b : M) : M := fun σ S => (mB a σ S).bind fun x S1 => if x = true then .ok (.bl true) S1 else b σ S1
def mNot (a : M) : M := fun σ S => (mB a σ S).bind fun x S1 => .ok (.bl (!x)) S1
theorem Out.bool {K : PySem.W.Frag} {m : M} {σd : Sls} {S : Store} {β : Type} {k : Bool → Store → R β} {P : β → Store → Prop} {W' : Str → D → Store → Prop} (h : Out ((mB m σd S).bind k) P W') : Out (m σd S) (fun d S1 => ∃ b, d = .bl b ∧ Out (k b S1) P W') W' := by
  unfold mB at h
  cases e : m σd S with
  | ok d S1 =>
    rw [e] at h
    cases d with
    | bl b => exact ⟨b, rfl, h⟩
    | _ => exact h.elim
  | exc c d S1 =>
    rw [e] at h
    exact h
  | bad =>
    rw [e] at h
    exact h
theorem Out.imp {α : Type} {r : R α} {P P' : α → Store → Prop} {W' : Str → D → Store → Prop} (h : Out r P W') (f : ∀ a S, P a S → P' a S) : Out r P' W' := by
  cases r with
  | ok a S => exact f a S h
  | exc c d S => exact h
  | bad => exact h
theorem de_one {op} {m : M} {a : Expr} (h : DE X n W m a) : DE X n W m (.BoolOp op [a] pos) := pe_one h
theorem de_and {ma mb : M} {a b : Expr} {rest : List Expr} (ha : DE X n W ma a) (hb : DE X n W mb (.BoolOp .And (b :: rest) pos)) : DE X n W (mAnd ma mb) (.BoolOp .And (a :: b :: rest) pos) := by
  refine PE.weak (pe_and ha hb) fun σ H Q q => ?_
  obtain ⟨F, ρ, σd, S, rs, o⟩ := q
  refine ⟨F, ρ, σd, S, rs, (Out.bool (K := X.K) o).imp fun d S1 o1 v1 H1 F1 ρ1 x1 w1 r1 => ?_⟩
  obtain ⟨b, rfl, o1⟩ := o1
  refine ⟨b, rep_bl r1, ?_⟩
  cases b with
  | true => exact ⟨F1, ρ1, σd, S1, rs.next x1 w1, outM_next x1 o1⟩
  | false => exact Post.same (Post.next o1 x1) w1 (.b false)
theorem de_or {ma mb : M} {a b : Expr} {rest : List Expr} (ha : DE X n W ma a) (hb : DE X n W mb (.BoolOp .Or (b :: rest) pos)) : DE X n W (mOr ma mb) (.BoolOp .Or (a :: b :: rest) pos) := by
  refine PE.weak (pe_or ha hb) fun σ H Q q => ?_
  obtain ⟨F, ρ, σd, S, rs, o⟩ := q
  refine ⟨F, ρ, σd, S, rs, (Out.bool (K := X.K) o).imp fun d S1 o1 v1 H1 F1 ρ1 x1 w1 r1 => ?_⟩
  obtain ⟨b, rfl, o1⟩ := o1
  refine ⟨b, rep_bl r1, ?_⟩
  cases b with
  | true => exact Post.same (Post.next o1 x1) w1 (.b true)
  | false => exact ⟨F1, ρ1, σd, S1, rs.next x1 w1, outM_next x1 o1⟩
theorem de_not {ma : M} {a : Expr} (ha : DE X n W ma a) : DE X n W (mNot ma) (.UnaryOp .Not a pos) := by
  refine PE.weak (pe_not ha) fun σ H Q q => ?_
  obtain ⟨F, ρ, σd, S, rs, o⟩ := q
  refine ⟨F, ρ, σd, S, rs, (Out.bool (K := X.K) o).imp fun d S1 o1 v1 H1 F1 ρ1 x1 w1 r1 => ?_⟩
  obtain ⟨b, rfl, o1⟩ := o1
  exact ⟨b, rep_bl r1, Post.same (Post.next o1 x1) w1 (.b (!b))⟩
def mIf (c : MB) (a b : M) : M := fun σ S => (c σ S).bind fun x S1 => if x = true then a σ S1 else b σ S1
theorem de_if {c : Expr} {mc : MB} {ma mb : M} {a b : Expr} (hc : DT X n W mc c) (ha : DE X n W ma a) (hb : DE X n W mb b) : DE X n W (mIf mc ma mb) (.IfExp c a b pos) := by
  refine PE.weak (pe_ifExp hc ha hb) fun σ H Q q => ?_
  obtain ⟨F, ρ, σd, S, rs, o⟩ := q
  refine ⟨F, ρ, σd, S, rs, Out.bind o fun x S1 o1 H1 F1 ρ1 x1 w1 => ?_⟩
  cases x with
  | true => exact ⟨F1, ρ1, σd, S1, rs.next x1 w1, outM_next x1 o1⟩
  | false => exact ⟨F1, ρ1, σd, S1, rs.next x1 w1, outM_next x1 o1⟩
/-- a op b op c -/
def mChain (g g' : Store → D → D → Option D) (a b c : M) : M := fun σ S => (a σ S).bind fun x S1 => (b σ S1).bind fun y S2 => match g S2 x y with
  | some (.bl true) => (c σ S2).bind fun z S3 => R.of (g' S3 y z) S3
  | some (.bl false) => .ok (.bl false) S2
  | _ => .bad
theorem tchain_ok {r r' : R2} {g g' : Store → D → D → Option D} {ma mb mc : M}
    (hr : ∀ mg F H ρ S d1 d2 v1 v2 d Q, W0 X.K mg F H ρ S → Rep X.K F ρ d1 v1 → Rep X.K F ρ d2 v2 → g S d1 d2 = some d → Post X.K mg ρ F H S d Q → r v1 v2 H Q)
    (hr' : ∀ mg F H ρ S d1 d2 v1 v2 d Q, W0 X.K mg F H ρ S → Rep X.K F ρ d1 v1 → Rep X.K F ρ d2 v2 → g' S d1 d2 = some d → Post X.K mg ρ F H S d Q → r' v1 v2 H Q)
    {σ : L2.St} {H : Hp} {Q : VK} (h : tM X.K X.mg n W (mChain g g' ma mb mc) σ H Q) : tChain r r' (tM X.K X.mg n W ma) (tM X.K X.mg n W mb) (tM X.K X.mg n W mc) σ H Q := by
  obtain ⟨F, ρ, σd, S, rs, o⟩ := h
  refine ⟨F, ρ, σd, S, rs, Out.bind o fun d1 S1 o1 v1 H1 F1 ρ1 x1 w1 r1 => ⟨F1, ρ1, σd, S1, rs.next x1 w1, Out.bind o1 fun d2 S2 o2 v2 H2 F2 ρ2 x2 w2 r2 => ?_⟩⟩
  split at o2
  · rename_i e
    refine hr X.mg F2 H2 ρ2 S2 d1 d2 v1 v2 _ _ w2 (x2.rep r1) r2 e fun v3 H3 F3 ρ3 x3 w3 r3 => ⟨true, rep_bl r3, ?_⟩
    rw [if_pos rfl]
    refine ⟨F3, ρ3, σd, S2, ((rs.next x1 w1).next x2 w2).next x3 w3, Out.bind o2 fun d4 S4 o4 v4 H4 F4 ρ4 x4 w4 r4 => ?_⟩
    obtain ⟨d, e4, p⟩ := Out.of o4
    exact hr' _ F4 H4 ρ4 S4 d2 d4 v2 v4 d Q w4 (x4.rep (x3.rep r2)) r4 e4 (Post.next p (((x1.trans x2).trans x3).trans x4))
  · rename_i e
    refine hr X.mg F2 H2 ρ2 S2 d1 d2 v1 v2 _ _ w2 (x2.rep r1) r2 e fun v3 H3 F3 ρ3 x3 w3 r3 => ⟨false, rep_bl r3, ?_⟩
    rw [if_neg Bool.false_ne_true]
    exact Post.same (Post.next o2 ((x1.trans x2).trans x3)) w3 (.b false)
  · exact o2.elim
theorem de_chain {op op' : CmpOp} {g g' : Store → D → D → Option D} {ma mb mc : M} {a b c : Expr} (ho : OpS X (compareOp op) g) (ho' : OpS X (compareOp op') g') (ha : DE X n W ma a) (hb : DE X n W mb b) (hc : DE X n W mc c)
    (hm : lastMarks [op, op'] [b, c] = false := by with_unfolding_all rfl) : DE X n W (mChain g g' ma mb mc) (.Compare a [op, op'] [b, c] pos) := by
  obtain ⟨r, h1, h2⟩ := ho
  obtain ⟨r', h1', h2'⟩ := ho'
  exact PE.weak (pe_chain h1 h1' ha hb hc hm) fun σ H Q q => tchain_ok h2 h2' q
theorem dt_chain {op op' : CmpOp} {g g' : Store → D → D → Option D} {ma mb mc : M} {a b c : Expr} (ho : OpS X (compareOp op) g) (ho' : OpS X (compareOp op') g') (ha : DE X n W ma a) (hb : DE X n W mb b) (hc : DE X n W mc c)
    (hm : lastMarks [op, op'] [b, c] = false := by with_unfolding_all rfl) : DT X n W (mB (mChain g g' ma mb mc)) (.Compare a [op, op'] [b, c] pos) := by
  obtain ⟨r, h1, h2⟩ := ho
  obtain ⟨r', h1', h2'⟩ := ho'
  exact PT.weak (pt_chain h1 h1' ha hb hc hm) fun σ H Q q => tchain_ok h2 h2' (tB_ok q)
end
end PL

set_option Elab.async false
set_option linter.all false
set_option maxRecDepth 100000
set_option maxHeartbeats 4000000
namespace PL
open PySem PySem.Spec PyProof.Rows L2
/-! ### lists and tuples, whatever they stand in -/
def lstOf (S : Store) : D → Option (List D)
  | .lst ds => some ds
  | .ref n => match S[n]? with
    | some (.lst ds) => some ds
    | _ => none
  | _ => none
theorem lst_of {K : PySem.W.Frag} {mg} {F H : Hp} {ρ : List Addr} {S : Store} {d : D} {v : V} {ds : List D} (w : W0 K mg F H ρ S) (h : Rep K F ρ d v) (e : lstOf S d = some ds) :
    ∃ a vs, v = .ref a ∧ SqL K H a vs ∧ Reps K F ρ ds vs ∧ ds.length ≤ sizeLine := by
  cases d with
  | lst es =>
    cases e
    obtain ⟨a, vs, rfl, h1, h2, h3⟩ := rep_lst h
    exact ⟨a, vs, rfl, SqL.mono w.fh h1, h2, h3⟩
  | ref m =>
    obtain ⟨a, rfl, ha⟩ := rep_ref h
    simp only [lstOf] at e
    split at e
    · rename_i ds hc
      cases e
      obtain ⟨vs, h1, h2, h3⟩ := w.cell m a _ ha hc
      exact ⟨a, vs, rfl, .inl (.inl h1), h2, h3⟩
    · cases e
  | _ => cases e
theorem tup_of {K : PySem.W.Frag} {mg} {F H : Hp} {ρ : List Addr} {S : Store} {v : V} {ds : List D} (w : W0 K mg F H ρ S) (h : Rep K F ρ (.tup ds) v) :
    ∃ a vs, v = .ref a ∧ SqT K H a vs ∧ Reps K F ρ ds vs ∧ ds.length ≤ sizeLine := by
  obtain ⟨a, vs, rfl, h1, h2, h3⟩ := rep_tup h
  exact ⟨a, vs, rfl, SqT.mono w.fh h1, h2, h3⟩
section
variable {X : Cx}
/-- list + list, read anywhere -/
def rCatL (K : PySem.W.Frag) : R2 := fun x y H Q => ∃ l b xs zs, x = .ref l ∧ y = .ref b ∧ SqL K H l xs ∧ SqL K H b zs ∧ xs.length + zs.length ≤ sizeLine ∧ ∀ p, H p = none → Q (.ref p) (upd H p (.lst (xs ++ zs)))
theorem op_catL : OpR X (binaryOp .Add) (rCatL X.K) := by
  intro pins s σ H x y v u Q I rx ry h
  obtain ⟨l, b, xs, zs, rfl, rfl, hl, hb, hz, q⟩ := h
  cases rx
  cases ry
  obtain ⟨its, r, ⟨⟨oc, od, odt, osl⟩, n, e, hc, hd, hs⟩, _⟩ := I.list hl
  obtain ⟨its2, r2, ⟨⟨oc2, od2, odt2, osl2⟩, n2, e2, hc2, hd2, hs2⟩, _⟩ := I.list hb
  simp only at hc hd hs hc2 hd2 hs2
  subst hc hd hs hc2 hd2 hs2
  have h1 := r.length
  have h2 := r2.length
  refine concat_meets ⟨_, e, rfl⟩ ⟨_, e2, rfl⟩ noFill_list_add seq_list_add PySem.F.slot_list_add PySem.F.entry_list_add (PySem.F.args_list_add_2 _ _)
    (list_addW l b its.toArray its2.toArray n n2 none none osl osl2 (by rw [List.size_toArray, List.size_toArray]; omega)) ⟨e, e2, ?_⟩
  have ea : its.toArray ++ its2.toArray = (its ++ its2).toArray := by simp
  rw [ea]
  exact ⟨.ref _, _, I.lnew (t' := s.toks) (r.append r2) (by rw [List.length_append]; omega), rfl, q _ I.fresh⟩

/-! ### arithmetic -/
def MulOk (i j : Int) : Prop := ((-(2 ^ 64) < i ∧ i < 2 ^ 64) ∨ (-(2 ^ 64) < j ∧ j < 2 ^ 64)) ∨ i.natAbs.log2 + j.natAbs.log2 < 1000000
instance (i j : Int) : Decidable (MulOk i j) := inferInstanceAs (Decidable (_ ∨ _))
def DivOk (j : Int) : Prop := 0 < j ∧ (j < 1073741824 ∨ j.natAbs.log2 < 9000)
instance (j : Int) : Decidable (DivOk j) := inferInstanceAs (Decidable (_ ∧ _))
def PowOk (i j : Int) : Prop := 0 ≤ j ∧ j ≤ 1000000 ∧ i.natAbs < 2 ^ 64
instance (i j : Int) : Decidable (PowOk i j) := inferInstanceAs (Decidable (_ ∧ _))
def addD (S : Store) : D → D → Option D
  | .int i, .int j => some (.int (i + j))
  | .str x, .str y => if x.length + y.length ≤ sizeLine then some (.str (x ++ y)) else none
  | .tup a, .tup b => if a.length + b.length ≤ sizeLine then some (.tup (a ++ b)) else none
  | .lst a, .lst b => if a.length + b.length ≤ sizeLine then some (.lst (a ++ b)) else none
  | .ref m, b => match lstOf S (.ref m), lstOf S b with
    | some a, some b => if a.length + b.length ≤ sizeLine then some (.lst (a ++ b)) else none
    | _, _ => none
  | .lst a, .ref m => match lstOf S (.ref m) with
    | some b => if a.length + b.length ≤ sizeLine then some (.lst (a ++ b)) else none
    | _ => none
  | _, _ => none
theorem catL_ok {mg} {F H : Hp} {ρ : List Addr} {S : Store} {d1 d2 : D} {v1 v2 : V} {Q : VK} {a b : List D} (w : W0 X.K mg F H ρ S) (r1 : Rep X.K F ρ d1 v1) (r2 : Rep X.K F ρ d2 v2) (e1 : lstOf S d1 = some a) (e2 : lstOf S d2 = some b) (hl : a.length + b.length ≤ sizeLine)
    (p : Post X.K mg ρ F H S (.lst (a ++ b)) Q) : rCatL X.K v1 v2 H Q := by
  obtain ⟨a1, vs1, rfl, s1, q1, l1⟩ := lst_of w r1 e1
  obtain ⟨a2, vs2, rfl, s2, q2, l2⟩ := lst_of w r2 e2
  refine ⟨a1, a2, vs1, vs2, rfl, rfl, s1, s2, by rw [q1.length, q2.length]; exact hl, Post.lst p w (q1.append q2) (by rw [List.length_append]; exact hl)⟩
theorem os_add : OpS X (binaryOp .Add) addD := by
  refine ⟨_, (op_add.or (op_add_str.or (op_catA.or op_catL))), fun mg F H ρ S d1 d2 v1 v2 d Q w r1 r2 e p => ?_⟩
  unfold addD at e
  split at e
  · cases e
    exact .inl ⟨_, _, rep_int r1, rep_int r2, Post.same p w (.i _)⟩
  · split at e
    · rename_i h
      cases e
      exact .inr (.inl ⟨_, _, rep_str r1, rep_str r2, h, Post.same p w (.s _)⟩)
    · cases e
  · rename_i a b
    split at e
    · rename_i h
      cases e
      obtain ⟨a1, vs1, rfl, s1, q1, l1⟩ := tup_of w r1
      obtain ⟨a2, vs2, rfl, s2, q2, l2⟩ := tup_of w r2
      refine .inr (.inr (.inl ⟨a1, a2, vs1, vs2, rfl, rfl, s1, s2, by rw [q1.length, q2.length]; exact h, fun z => ?_, fun _ z => ?_, fun _ _ => Post.tup p w (q1.append q2) (by rw [List.length_append]; exact h)⟩))
      · have e1 : a = [] := List.length_eq_zero_iff.mp (by rw [← q1.length, z]; rfl)
        subst e1
        exact Post.same p w r2
      · have e1 : b = [] := List.length_eq_zero_iff.mp (by rw [← q2.length, z]; rfl)
        subst e1
        rw [List.append_nil] at p
        exact Post.same p w r1
    · cases e
  · split at e
    · rename_i h
      cases e
      exact .inr (.inr (.inr (catL_ok w r1 r2 rfl rfl h p)))
    · cases e
  · split at e
    · rename_i e1 e2
      split at e
      · rename_i h
        cases e
        exact .inr (.inr (.inr (catL_ok w r1 r2 e1 e2 h p)))
      · cases e
    · cases e
  · split at e
    · rename_i e2
      split at e
      · rename_i h
        cases e
        exact .inr (.inr (.inr (catL_ok w r1 r2 rfl e2 h p)))
      · cases e
    · cases e
  · cases e
def subD (_ : Store) : D → D → Option D
  | .int i, .int j => some (.int (i - j))
  | _, _ => none
theorem os_sub : OpS X (binaryOp .Sub) subD := by
  refine ⟨_, op_sub, fun mg F H ρ S d1 d2 v1 v2 d Q w r1 r2 e p => ?_⟩
  unfold subD at e
  split at e
  · cases e
    exact ⟨_, _, rep_int r1, rep_int r2, Post.same p w (.i _)⟩
  · cases e
theorem op_mulA : OpR X (binaryOp .Mult) (rI MulOk fun i j => .int (i * j)) := opI fun _ _ _ _ _ _ _ hc q => mul_int q (hc.elim (fun z => CMul.ok z) fun z => CMulW.ok z)
/-- a list times an int, read anywhere -/
def rRepL (K : PySem.W.Frag) : R2 := fun x y H Q => ∃ l k xs, x = .ref l ∧ y = .int k ∧ H l = some (.lst xs) ∧ -(2 ^ 63) ≤ k ∧ k < 2 ^ 63 ∧ xs.length * k.toNat ≤ sizeLine ∧
  ∀ p, H p = none → Q (.ref p) (upd H p (.lst (List.replicate k.toNat xs).flatten))
def mulD (_ : Store) : D → D → Option D
  | .int i, .int j => if MulOk i j then some (.int (i * j)) else none
  | _, _ => none
theorem os_mul : OpS X (binaryOp .Mult) mulD := by
  refine ⟨_, op_mulA, fun mg F H ρ S d1 d2 v1 v2 d Q w r1 r2 e p => ?_⟩
  unfold mulD at e
  split at e
  · split at e
    · rename_i h
      cases e
      exact ⟨_, _, rep_int r1, rep_int r2, h, Post.same p w (.i _)⟩
    · cases e
  · cases e
theorem op_divA : OpR X (binaryOp .FloorDiv) (rI (fun _ j => DivOk j) fun i j => .int (i / j)) := opI fun i j _ _ _ _ _ hc q => by
  have h1 : (0 : Int) < j := hc.1
  refine floordiv_int (by omega) (by rw [Int.fdiv_eq_ediv_of_nonneg i (by omega)]; exact q) (.inl ?_)
  rcases hc.2 with h | h
  · exact PyProof.noPylong_small (by omega)
  · exact PyProof.noPylong_of_log2 h
def divD (_ : Store) : D → D → Option D
  | .int i, .int j => if DivOk j then some (.int (i / j)) else none
  | _, _ => none
theorem os_div : OpS X (binaryOp .FloorDiv) divD := by
  refine ⟨_, op_divA, fun mg F H ρ S d1 d2 v1 v2 d Q w r1 r2 e p => ?_⟩
  unfold divD at e
  split at e
  · split at e
    · rename_i h
      cases e
      exact ⟨_, _, rep_int r1, rep_int r2, h, Post.same p w (.i _)⟩
    · cases e
  · cases e
def modD (_ : Store) : D → D → Option D
  | .int i, .int j => if 0 < j then some (.int (i % j)) else none
  | _, _ => none
theorem os_mod : OpS X (binaryOp .Mod) modD := by
  refine ⟨_, op_mod, fun mg F H ρ S d1 d2 v1 v2 d Q w r1 r2 e p => ?_⟩
  unfold modD at e
  split at e
  · split at e
    · rename_i h
      cases e
      exact ⟨_, _, rep_int r1, rep_int r2, h, Post.same p w (.i _)⟩
    · cases e
  · cases e
def powD (_ : Store) : D → D → Option D
  | .int i, .int j => if PowOk i j then some (.int (i ^ j.toNat)) else none
  | _, _ => none
theorem os_pow : OpS X (binaryOp .Pow) powD := by
  refine ⟨_, op_pow, fun mg F H ρ S d1 d2 v1 v2 d Q w r1 r2 e p => ?_⟩
  unfold powD at e
  split at e
  · split at e
    · rename_i h
      cases e
      exact ⟨_, _, rep_int r1, rep_int r2, h, Post.same p w (.i _)⟩
    · cases e
  · cases e
def negD (_ : Store) : D → Option D
  | .int i => some (.int (-i))
  | _ => none
theorem us_neg : UnS X (unaryOp .USub) negD := by
  refine ⟨_, un_neg, fun mg F H ρ S d1 v1 d Q w r1 e p => ?_⟩
  unfold negD at e
  split at e
  · cases e
    exact ⟨_, rep_int r1, Post.same p w (.i _)⟩
  · cases e

/-! ### order of ints -/
def ltD (_ : Store) : D → D → Option D
  | .int i, .int j => some (.bl (decide (i < j)))
  | _, _ => none
def leD (_ : Store) : D → D → Option D
  | .int i, .int j => some (.bl (decide (i ≤ j)))
  | _, _ => none
def gtD (_ : Store) : D → D → Option D
  | .int i, .int j => some (.bl (decide (j < i)))
  | _, _ => none
def geD (_ : Store) : D → D → Option D
  | .int i, .int j => some (.bl (decide (j ≤ i)))
  | _, _ => none
theorem os_lt : OpS X (compareOp .Lt) ltD := by
  refine ⟨_, op_lt, fun mg F H ρ S d1 d2 v1 v2 d Q w r1 r2 e p => ?_⟩
  unfold ltD at e
  split at e
  · cases e
    exact ⟨_, _, rep_int r1, rep_int r2, Post.same p w (.b _)⟩
  · cases e
theorem os_le : OpS X (compareOp .LtE) leD := by
  refine ⟨_, op_le, fun mg F H ρ S d1 d2 v1 v2 d Q w r1 r2 e p => ?_⟩
  unfold leD at e
  split at e
  · cases e
    exact ⟨_, _, rep_int r1, rep_int r2, Post.same p w (.b _)⟩
  · cases e
theorem os_gt : OpS X (compareOp .Gt) gtD := by
  refine ⟨_, op_gt, fun mg F H ρ S d1 d2 v1 v2 d Q w r1 r2 e p => ?_⟩
  unfold gtD at e
  split at e
  · cases e
    exact ⟨_, _, rep_int r1, rep_int r2, Post.same p w (.b _)⟩
  · cases e
theorem os_ge : OpS X (compareOp .GtE) geD := by
  refine ⟨_, op_ge, fun mg F H ρ S d1 d2 v1 v2 d Q w r1 r2 e p => ?_⟩
  unfold geD at e
  split at e
  · cases e
    exact ⟨_, _, rep_int r1, rep_int r2, Post.same p w (.b _)⟩
  · cases e

/-! ### ==, !=, is None, in -/
mutual
def toP0 : D → Option PyData
  | .non => some .none
  | .bl b => some (.bool b)
  | .int i => some (.int i)
  | .str x => some (.str x)
  | .tup ds => (toPs ds).map .tuple
  | .lst ds => (toPs ds).map .list
  | _ => none
def toPs : List D → Option (List PyData)
  | [] => some []
  | d :: ds => match toP0 d, toPs ds with
    | some p, some ps => some (p :: ps)
    | _, _ => none
end
def toP (S : Store) : D → Option PyData
  | .ref m => match S[m]? with
    | some (.lst ds) => toP0 (.lst ds)
    | _ => none
  | d => toP0 d
section
variable {K : PySem.W.Frag} {mg : Str → Option Value} {F H : Hp} {ρ : List Addr} {S : Store}
mutual
theorem dp_of (fh : ∀ a o, F a = some o → H a = some o) : ∀ (d : D) (v : V) (p : PyData), Rep K F ρ d v → toP0 d = some p → Dp K H v p
  | .non, v, p, h, e => by
    simp only [toP0] at e
    cases e
    rw [rep_non h]
    exact .non
  | .bl b, v, p, h, e => by
    simp only [toP0] at e
    cases e
    rw [rep_bl h]
    exact .bl b
  | .int i, v, p, h, e => by
    simp only [toP0] at e
    cases e
    rw [rep_int h]
    exact .int i
  | .str x, v, p, h, e => by
    simp only [toP0] at e
    cases e
    rw [rep_str h]
    exact .str x
  | .tup ds, v, p, h, e => by
    simp only [toP0] at e
    obtain ⟨a, vs, rfl, h1, h2, _⟩ := rep_tup h
    cases e2 : toPs ds with
    | none =>
      rw [e2] at e
      cases e
    | some ps =>
      rw [e2] at e
      cases e
      exact .tup (SqT.mono fh h1) (dps_of fh ds vs ps h2 e2)
  | .lst ds, v, p, h, e => by
    simp only [toP0] at e
    obtain ⟨a, vs, rfl, h1, h2, _⟩ := rep_lst h
    cases e2 : toPs ds with
    | none =>
      rw [e2] at e
      cases e
    | some ps =>
      rw [e2] at e
      cases e
      exact .lst (SqL.mono fh h1) (dps_of fh ds vs ps h2 e2)
  | .dK ks ds, v, p, h, e => by
    simp only [toP0] at e
    cases e
  | .dT ks ds, v, p, h, e => by
    simp only [toP0] at e
    cases e
  | .ref m, v, p, h, e => by
    simp only [toP0] at e
    cases e
theorem dps_of (fh : ∀ a o, F a = some o → H a = some o) : ∀ (ds : List D) (vs : List V) (ps : List PyData), Reps K F ρ ds vs → toPs ds = some ps → DpAll K H vs ps
  | [], vs, ps, h, e => by
    simp only [toPs] at e
    cases e
    unfold Reps at h
    rw [h]
    exact .nil
  | d :: ds, vs, ps, h, e => by
    unfold Reps at h
    obtain ⟨v, r, rfl, h1, h2⟩ := h
    simp only [toPs] at e
    split at e
    · rename_i p ps' e1 e2
      cases e
      exact .cons (dp_of fh d v p h1 e1) (dps_of fh ds r ps' h2 e2)
    · cases e
end
theorem dp_ofS {d : D} {v : V} {p : PyData} (w : W0 K mg F H ρ S) (h : Rep K F ρ d v) (e : toP S d = some p) : Dp K H v p := by
  unfold toP at e
  split at e
  · rename_i m
    split at e
    · rename_i ds hc
      obtain ⟨a, rfl, ha⟩ := rep_ref h
      obtain ⟨vs, h1, h2, _⟩ := w.cell m a _ ha hc
      simp only [toP0] at e
      cases e2 : toPs ds with
      | none =>
        rw [e2] at e
        cases e
      | some ps =>
        rw [e2] at e
        cases e
        exact .lst (.inl (.inl h1)) (dps_of w.fh ds vs ps h2 e2)
    · cases e
  · exact dp_of w.fh d v p h e
end
def eqD (S : Store) : D → D → Option Bool
  | .int i, .int j => some (decide (i = j))
  | .str x, .str y => some (decide (x = y))
  | .bl a, .bl b => some (decide (a = b))
  | .non, .non => some true
  | .non, .int _ => some false
  | .int _, .non => some false
  | .non, .bl _ => some false
  | .bl _, .non => some false
  | .non, .str _ => some false
  | .str _, .non => some false
  | .int _, .str _ => some false
  | .str _, .int _ => some false
  | d, e => match toP S d, toP S e with
    | some p, some q => if SeqAt.shaped p = true ∧ SeqAt.shaped q = true then some (PyData.eqv p q) else none
    | _, _ => none
def eqB (S : Store) (d e : D) : Option D := (eqD S d e).map .bl
def neB (S : Store) (d e : D) : Option D := (eqD S d e).map fun b => .bl (!b)
theorem eq_of {mg} {F H : Hp} {ρ : List Addr} {S : Store} {d1 d2 : D} {v1 v2 : V} {b : Bool} (w : W0 X.K mg F H ρ S) (r1 : Rep X.K F ρ d1 v1) (r2 : Rep X.K F ρ d2 v2) (e : eqD S d1 d2 = some b) :
    (scal v1 v2 = true ∧ decide (v1 = v2) = b) ∨ (∃ p q, Dp X.K H v1 p ∧ Dp X.K H v2 q ∧ SeqAt.shaped p = true ∧ SeqAt.shaped q = true ∧ PyData.eqv p q = b) := by
  have inj1 : ∀ i j : Int, decide (V.int i = V.int j) = decide (i = j) := fun i j => by
    by_cases h : i = j
    · subst h; simp
    · rw [decide_eq_false h, decide_eq_false (fun z => h (V.int.inj z))]
  have inj2 : ∀ i j : Str, decide (V.str i = V.str j) = decide (i = j) := fun i j => by
    by_cases h : i = j
    · subst h; simp
    · rw [decide_eq_false h, decide_eq_false (fun z => h (V.str.inj z))]
  have inj3 : ∀ i j : Bool, decide (V.bl i = V.bl j) = decide (i = j) := fun i j => by
    by_cases h : i = j
    · subst h; simp
    · rw [decide_eq_false h, decide_eq_false (fun z => h (V.bl.inj z))]
  unfold eqD at e
  split at e
  · cases e; rw [rep_int r1, rep_int r2]; exact .inl ⟨rfl, inj1 _ _⟩
  · cases e; rw [rep_str r1, rep_str r2]; exact .inl ⟨rfl, inj2 _ _⟩
  · cases e; rw [rep_bl r1, rep_bl r2]; exact .inl ⟨rfl, inj3 _ _⟩
  · cases e; rw [rep_non r1, rep_non r2]; exact .inl ⟨rfl, by simp⟩
  · cases e; rw [rep_non r1, rep_int r2]; exact .inl ⟨rfl, by simp⟩
  · cases e; rw [rep_int r1, rep_non r2]; exact .inl ⟨rfl, by simp⟩
  · cases e; rw [rep_non r1, rep_bl r2]; exact .inl ⟨rfl, by simp⟩
  · cases e; rw [rep_bl r1, rep_non r2]; exact .inl ⟨rfl, by simp⟩
  · cases e; rw [rep_non r1, rep_str r2]; exact .inl ⟨rfl, by simp⟩
  · cases e; rw [rep_str r1, rep_non r2]; exact .inl ⟨rfl, by simp⟩
  · cases e; rw [rep_int r1, rep_str r2]; exact .inl ⟨rfl, by simp⟩
  · cases e; rw [rep_str r1, rep_int r2]; exact .inl ⟨rfl, by simp⟩
  · split at e
    · rename_i p q e1 e2
      split at e
      · rename_i h
        cases e
        exact .inr ⟨p, q, dp_ofS w r1 e1, dp_ofS w r2 e2, h.1, h.2, rfl⟩
      · cases e
    · cases e
theorem os_eq (hu : X.A.units + 64 < cLine) : OpS X (compareOp .Eq) eqB := by
  refine ⟨_, op_eq.or (op_eqD hu), fun mg F H ρ S d1 d2 v1 v2 d Q w r1 r2 e p => ?_⟩
  unfold eqB at e
  cases e1 : eqD S d1 d2 with
  | none =>
    rw [e1] at e
    cases e
  | some b =>
    rw [e1] at e
    cases e
    rcases eq_of w r1 r2 e1 with ⟨h1, h2⟩ | ⟨a, c, h1, h2, h3, h4, h5⟩
    · exact .inl ⟨h1, by rw [h2]; exact Post.same p w (.b _)⟩
    · exact .inr ⟨a, c, h1, h2, h3, h4, by rw [h5]; exact Post.same p w (.b _)⟩
theorem os_ne (hu : X.A.units + 64 < cLine) : OpS X (compareOp .NotEq) neB := by
  refine ⟨_, op_ne.or (op_neD hu), fun mg F H ρ S d1 d2 v1 v2 d Q w r1 r2 e p => ?_⟩
  unfold neB at e
  cases e1 : eqD S d1 d2 with
  | none =>
    rw [e1] at e
    cases e
  | some b =>
    rw [e1] at e
    cases e
    rcases eq_of w r1 r2 e1 with ⟨h1, h2⟩ | ⟨a, c, h1, h2, h3, h4, h5⟩
    · exact .inl ⟨h1, by rw [h2]; exact Post.same p w (.b _)⟩
    · exact .inr ⟨a, c, h1, h2, h3, h4, by rw [h5]; exact Post.same p w (.b _)⟩
def isNonD : D → Bool
  | .non => true
  | _ => false
theorem non_of {K : PySem.W.Frag} {F : Hp} {ρ : List Addr} {d : D} {v : V} (r : Rep K F ρ d v) : decide (v = .non) = isNonD d := by
  cases d with
  | non => rw [rep_non r]; rfl
  | bl b => rw [rep_bl r]; rfl
  | int b => rw [rep_int r]; rfl
  | str b => rw [rep_str r]; rfl
  | tup ds => obtain ⟨a, vs, rfl, _⟩ := rep_tup r; rfl
  | lst ds => obtain ⟨a, vs, rfl, _⟩ := rep_lst r; rfl
  | dK ks ds => obtain ⟨a, vs, rfl, _⟩ := rep_dK r; rfl
  | dT ks ds => obtain ⟨a, vs, rfl, _⟩ := rep_dT r; rfl
  | ref m => obtain ⟨a, rfl, _⟩ := rep_ref r; rfl
/-- is, is not: of None -/
def isB (_ : Store) : D → D → Option D
  | d, .non => some (.bl (isNonD d))
  | _, _ => none
def isnotB (_ : Store) : D → D → Option D
  | d, .non => some (.bl (!isNonD d))
  | _, _ => none
theorem os_is : OpS X (compareOp .Is) isB := by
  refine ⟨_, op_isN, fun mg F H ρ S d1 d2 v1 v2 d Q w r1 r2 e p => ?_⟩
  unfold isB at e
  split at e
  · cases e
    exact ⟨rep_non r2, by rw [non_of r1]; exact Post.same p w (.b _)⟩
  · cases e
theorem os_isnot : OpS X (compareOp .IsNot) isnotB := by
  refine ⟨_, op_notN, fun mg F H ρ S d1 d2 v1 v2 d Q w r1 r2 e p => ?_⟩
  unfold isnotB at e
  split at e
  · cases e
    exact ⟨rep_non r2, by rw [non_of r1]; exact Post.same p w (.b _)⟩
  · cases e
def flatD : D → Bool
  | .non => true
  | .bl _ => true
  | .int _ => true
  | .str _ => true
  | _ => false
def eqF : D → D → Bool
  | .non, .non => true
  | .bl a, .bl b => a == b
  | .bl a, .int b => (if a then 1 else 0) == b
  | .int a, .bl b => a == (if b then 1 else 0)
  | .int a, .int b => a == b
  | .str a, .str b => a == b
  | _, _ => false
def flatOf : D → V
  | .non => .non
  | .bl b => .bl b
  | .int i => .int i
  | .str x => .str x
  | _ => .non
theorem flat_of {K : PySem.W.Frag} {F : Hp} {ρ : List Addr} {d : D} {v : V} (r : Rep K F ρ d v) (h : flatD d = true) : v = flatOf d ∧ flatV v = true := by
  cases d with
  | non => rw [rep_non r]; exact ⟨rfl, rfl⟩
  | bl b => rw [rep_bl r]; exact ⟨rfl, rfl⟩
  | int b => rw [rep_int r]; exact ⟨rfl, rfl⟩
  | str b => rw [rep_str r]; exact ⟨rfl, rfl⟩
  | _ => cases h
theorem eqF_of {d e : D} (h : flatD d = true) (h2 : flatD e = true) : eqV (flatOf d) (flatOf e) = eqF d e := by
  cases d <;> cases e <;> first | rfl | (cases h; done) | (cases h2; done)
theorem flats_of {K : PySem.W.Frag} {F : Hp} {ρ : List Addr} {x : D} (hx : flatD x = true) : ∀ {ds : List D} {vs : List V}, Reps K F ρ ds vs → ds.all flatD = true → vs.all flatV = true ∧ inV (flatOf x) vs = ds.any fun z => eqF z x
  | [], vs, r, h => by
    unfold Reps at r
    rw [r]
    exact ⟨rfl, rfl⟩
  | d :: ds, vs, r, h => by
    unfold Reps at r
    obtain ⟨v, s, rfl, r1, r2⟩ := r
    rw [List.all_cons, Bool.and_eq_true] at h
    obtain ⟨e1, e2⟩ := flat_of r1 h.1
    obtain ⟨q1, q2⟩ := flats_of hx r2 h.2
    constructor
    · rw [List.all_cons, e2, q1]; rfl
    · unfold inV at q2 ⊢
      rw [List.any_cons, List.any_cons, q2, e1, eqF_of h.1 hx]
def seqOf (S : Store) : D → Option (List D)
  | .tup ds => some ds
  | d => lstOf S d
theorem seq_of {K : PySem.W.Frag} {mg} {F H : Hp} {ρ : List Addr} {S : Store} {d : D} {v : V} {ds : List D} (w : W0 K mg F H ρ S) (h : Rep K F ρ d v) (e : seqOf S d = some ds) :
    ∃ a vs, v = .ref a ∧ (SqL K H a vs ∨ SqT K H a vs) ∧ Reps K F ρ ds vs ∧ ds.length ≤ sizeLine := by
  unfold seqOf at e
  split at e
  · cases e
    obtain ⟨a, vs, e, h1, h2, h3⟩ := tup_of w h
    exact ⟨a, vs, e, .inr h1, h2, h3⟩
  · obtain ⟨a, vs, e, h1, h2, h3⟩ := lst_of w h e
    exact ⟨a, vs, e, .inl h1, h2, h3⟩
/-- x in a list or tuple: flat items, or a list of data -/
def inD (S : Store) (x y : D) : Option Bool := match seqOf S y with
  | some ds => if flatD x = true ∧ ds.all flatD = true then some (ds.any fun z => eqF z x) else
      match toP S x, toP S y with
      | some p, some (.list qs) => if SeqAt.shaped p = true ∧ SeqAt.shaped (.list qs) = true then some (qs.any fun z => PyData.eqv z p) else none
      | _, _ => none
  | none => none
def inB (S : Store) (x y : D) : Option D := (inD S x y).map .bl
def notinB (S : Store) (x y : D) : Option D := (inD S x y).map fun b => .bl (!b)
theorem in_of {mg} {F H : Hp} {ρ : List Addr} {S : Store} {d1 d2 : D} {v1 v2 : V} {b : Bool} (w : W0 X.K mg F H ρ S) (r1 : Rep X.K F ρ d1 v1) (r2 : Rep X.K F ρ d2 v2) (e : inD S d1 d2 = some b) :
    (∃ p xs, v2 = .ref p ∧ (SqL X.K H p xs ∨ SqT X.K H p xs) ∧ flatV v1 = true ∧ xs.all flatV = true ∧ inV v1 xs = b) ∨
    (∃ p qs, Dp X.K H v1 p ∧ Dp X.K H v2 (.list qs) ∧ SeqAt.shaped p = true ∧ SeqAt.shaped (.list qs) = true ∧ (qs.any fun z => PyData.eqv z p) = b) := by
  unfold inD at e
  split at e
  · rename_i ds e0
    split at e
    · rename_i h
      cases e
      obtain ⟨a, vs, rfl, h1, h2, h3⟩ := seq_of w r2 e0
      obtain ⟨q1, q2⟩ := flat_of r1 h.1
      obtain ⟨q3, q4⟩ := flats_of h.1 h2 h.2
      exact .inl ⟨a, vs, rfl, h1, q2, q3, by rw [q1]; exact q4⟩
    · split at e
      · rename_i p qs e1 e2
        split at e
        · rename_i h
          cases e
          exact .inr ⟨p, qs, dp_ofS w r1 e1, dp_ofS w r2 e2, h.1, h.2, rfl⟩
        · cases e
      · cases e
  · cases e
theorem os_in (hu : X.A.units + 65 < cLine) : OpS X (compareOp .In) inB := by
  refine ⟨_, op_in_seq.or (op_inD hu), fun mg F H ρ S d1 d2 v1 v2 d Q w r1 r2 e p => ?_⟩
  unfold inB at e
  cases e1 : inD S d1 d2 with
  | none =>
    rw [e1] at e
    cases e
  | some b =>
    rw [e1] at e
    cases e
    rcases in_of w r1 r2 e1 with ⟨a, xs, h1, h2, h3, h4, h5⟩ | ⟨a, c, h1, h2, h3, h4, h5⟩
    · exact .inl ⟨a, xs, h1, h2, h3, h4, by rw [h5]; exact Post.same p w (.b _)⟩
    · exact .inr ⟨a, c, h1, h2, h3, h4, by rw [h5]; exact Post.same p w (.b _)⟩
theorem os_notin (hu : X.A.units + 65 < cLine) : OpS X (compareOp .NotIn) notinB := by
  refine ⟨_, op_notIn_seq.or (op_notInD hu), fun mg F H ρ S d1 d2 v1 v2 d Q w r1 r2 e p => ?_⟩
  unfold notinB at e
  cases e1 : inD S d1 d2 with
  | none =>
    rw [e1] at e
    cases e
  | some b =>
    rw [e1] at e
    cases e
    rcases in_of w r1 r2 e1 with ⟨a, xs, h1, h2, h3, h4, h5⟩ | ⟨a, c, h1, h2, h3, h4, h5⟩
    · exact .inl ⟨a, xs, h1, h2, h3, h4, by rw [h5]; exact Post.same p w (.b _)⟩
    · exact .inr ⟨a, c, h1, h2, h3, h4, by rw [h5]; exact Post.same p w (.b _)⟩
end
end PL

set_option Elab.async false
set_option linter.all false
set_option maxRecDepth 100000
set_option maxHeartbeats 4000000
namespace PL
open PySem PySem.Spec PyProof.Rows L2
theorem room65 {k : Nat} {A : Around} (r : Room k A) : A.units + 65 < cLine := by
  have := r.un
  omega
section
variable {X : Cx} {n : En} {W : WS} {pos : Pos}
/-! ### argument lists, displays -/
def mNil : MA := fun _ S => .ok [] S
def mCons (a : M) (r : MA) : MA := fun σ S => (a σ S).bind fun x S1 => (r σ S1).bind fun xs S2 => .ok (x :: xs) S2
theorem da_nil : DA X n W mNil [] := by
  refine PA.weak pa_nil fun σ H Q q => ?_
  obtain ⟨F, ρ, σd, S, rs, o⟩ := q
  exact o [] H F ρ (.refl _ _ _) rs.w .nil
theorem da_cons {ma : M} {mr : MA} {e : Expr} {es : List Expr} (ha : DE X n W ma e) (hr : DA X n W mr es) (hs : starEach (e :: es) X.env = (false, eval e X.env) :: starEach es X.env := by rfl) : DA X n W (mCons ma mr) (e :: es) := by
  refine PA.weak (pa_cons ha hr hs) fun σ H Q q => ?_
  obtain ⟨F, ρ, σd, S, rs, o⟩ := q
  refine ⟨F, ρ, σd, S, rs, Out.bind o fun d S1 o1 v H1 F1 ρ1 x1 w1 r1 => ⟨F1, ρ1, σd, S1, rs.next x1 w1, Out.bind o1 fun ds S2 o2 vs H2 F2 ρ2 x2 w2 r2 => ?_⟩⟩
  exact o2 (v :: vs) H2 F2 ρ2 (x1.trans x2) w2 (.cons (x2.rep r1) r2)
class Len (m : MA) (k : outParam Nat) : Prop where
  len : ∀ σ S ds S', m σ S = .ok ds S' → ds.length = k
instance : Len mNil 0 := ⟨fun σ S ds S' h => by cases h; rfl⟩
instance {a : M} {r : MA} {k : Nat} [l : Len r k] : Len (mCons a r) (k + 1) := ⟨fun σ S ds S' h => by
  unfold mCons at h
  cases e : a σ S with
  | ok x S1 =>
    rw [e] at h
    cases e2 : r σ S1 with
    | ok xs S2 =>
      simp only [R.bind, e2] at h
      cases h
      rw [List.length_cons, l.len _ _ _ _ e2]
    | exc c d S2 =>
      simp only [R.bind, e2] at h
      cases h
    | bad =>
      simp only [R.bind, e2] at h
      cases h
  | exc c d S1 =>
    rw [e] at h
    cases h
  | bad =>
    rw [e] at h
    cases h⟩
def mTup (a : MA) : M := fun σ S => (a σ S).bind fun ds S1 => .ok (.tup ds) S1
def mLst (a : MA) : M := fun σ S => (a σ S).bind fun ds S1 => .ok (.lst ds) S1
/-- a list that will be changed by whoever has it: a new cell -/
def mRefL (a : MA) : M := fun σ S => (a σ S).bind fun ds S1 => .ok (.ref S1.length) (S1 ++ [.lst ds])
theorem Out.ok_ {α β : Type} {r : R α} {k : α → Store → R β} {P : β → Store → Prop} {P' : α → Store → Prop} {W : Str → D → Store → Prop} (h : Out (r.bind k) P W) (f : ∀ a S, r = .ok a S → Out (k a S) P W → P' a S) : Out r P' W := by
  cases r with
  | ok a S => exact f a S rfl h
  | exc c d S => exact h
  | bad => exact h
theorem small_line {k : Nat} (h : k ≤ 1000) : k ≤ sizeLine := Nat.le_trans h (by rw [sizeLine_eq]; decide)
theorem de_tup {ma : MA} {es : List Expr} {x1} {k : Nat} [l : Len ma k] (h : DA X n W ma es) (hk : k ≤ 1000 := by decide) : DE X n W (mTup ma) (.Tuple es x1 pos) := by
  refine PE.weak (pe_tup h) fun σ H Q q => ?_
  obtain ⟨F, ρ, σd, S, rs, o⟩ := q
  refine ⟨F, ρ, σd, S, rs, Out.ok_ o fun ds S1 e o1 vs H1 F1 ρ1 x1 w1 r1 => ?_⟩
  have hl : ds.length ≤ sizeLine := by rw [l.len _ _ _ _ e]; exact small_line hk
  exact ⟨by rw [r1.length]; exact hl, Post.tup (Post.next o1 x1) w1 r1 hl⟩
theorem de_lst {ma : MA} {es : List Expr} {k : Nat} [l : Len ma k] (h : DA X n W ma es) (hk : k ≤ 1000 := by decide) : DE X n W (mLst ma) (.List es pos) := by
  refine PE.weak (pe_lst h) fun σ H Q q => ?_
  obtain ⟨F, ρ, σd, S, rs, o⟩ := q
  refine ⟨F, ρ, σd, S, rs, Out.ok_ o fun ds S1 e o1 vs H1 F1 ρ1 x1 w1 r1 => ?_⟩
  have hl : ds.length ≤ sizeLine := by rw [l.len _ _ _ _ e]; exact small_line hk
  exact ⟨by rw [r1.length]; exact hl, Post.lst (Post.next o1 x1) w1 r1 hl⟩
/-- a new cell -/
theorem ext_cell {ρ : List Addr} {F H : Hp} {p : Addr} {o : HO} (hp : H p = none) : Ext ρ F H (ρ ++ [p]) F (upd H p o) :=
  ⟨fun a o' h => h, fun a o' h => .inl h, ⟨[p], rfl, fun a ha => by rw [List.mem_singleton.mp ha]; exact hp⟩, fun a o' h _ => by rw [upd_ne (ne_of_none h hp)]; exact h,
   fun a h => by
    by_cases e : a = p
    · subst e
      exact hp
    · rw [upd_ne e] at h
      exact h⟩
theorem w0_cell {K : PySem.W.Frag} {mg : Str → Option Value} {F H : Hp} {ρ : List Addr} {S : Store} {p : Addr} {o : HO} {c : Cell} (w : W0 K mg F H ρ S) (hp : H p = none) (hc : CellOk K mg F (upd H p o) (ρ ++ [p]) p c) : W0 K mg F (upd H p o) (ρ ++ [p]) (S ++ [c]) := by
  have hf := w.fnone hp
  have nm : ∀ a ∈ ρ, a ≠ p := fun a ha e => by
    subst e
    exact w.there ha hp
  refine ⟨fun a o' h => ?_, by rw [List.length_append, List.length_append, w.len]; rfl, ?_, fun a ha => ?_, fun m a c' h1 h2 => ?_⟩
  · rw [upd_ne (ne_of_none h hf)]
    exact w.fh a o' h
  · rw [List.nodup_append]
    exact ⟨w.nd, by simp, fun a ha b hb => by rw [List.mem_singleton.mp hb]; exact nm a ha⟩
  · rcases List.mem_append.mp ha with ha | ha
    · exact w.off a ha
    · rw [List.mem_singleton.mp ha]
      exact hf
  · by_cases hm : m < ρ.length
    · rw [List.getElem?_append_left hm] at h1
      rw [List.getElem?_append_left (by rw [← w.len]; exact hm)] at h2
      exact CellOk.mono (fun _ _ z => z) ⟨[p], rfl⟩ (upd_ne (nm a (List.mem_of_getElem? h1))) (w.cell m a c' h1 h2)
    · have hl := w.len
      rw [List.getElem?_append_right (by omega)] at h1 h2
      have h0 : m - ρ.length = 0 := by
        have := (List.getElem?_eq_some_iff.mp h1).1
        simp at this
        omega
      rw [h0] at h1
      rw [← hl, h0] at h2
      cases h1
      cases h2
      exact hc
theorem de_ref {ma : MA} {es : List Expr} {k : Nat} [l : Len ma k] (h : DA X n W ma es) (hk : k ≤ 1000 := by decide) : DE X n W (mRefL ma) (.List es pos) := by
  refine PE.weak (pe_lst h) fun σ H Q q => ?_
  obtain ⟨F, ρ, σd, S, rs, o⟩ := q
  refine ⟨F, ρ, σd, S, rs, Out.ok_ o fun ds S1 e o1 vs H1 F1 ρ1 x1 w1 r1 => ?_⟩
  have hl : ds.length ≤ sizeLine := by rw [l.len _ _ _ _ e]; exact small_line hk
  refine ⟨by rw [r1.length]; exact hl, fun p hp => ?_⟩
  have x2 := ext_cell (ρ := ρ1) (F := F1) (o := .lst vs) hp
  refine o1 (.ref p) _ _ _ (x1.trans x2) (w0_cell w1 hp ⟨vs, upd_same, x2.reps r1, hl⟩) (.r ?_)
  rw [← w1.len, List.getElem?_append_right (Nat.le_refl _), Nat.sub_self]
  rfl

/-! ### subscripts, slices -/
def idxD (S : Store) (x i : D) : Option D := match i with
  | .int k => match x with
    | .str z => if z.length ≤ sizeLine then (atI z.cps.toList k).map fun c => .str ⟨#[c]⟩ else none
    | x => match seqOf S x with
      | some ds => atI ds k
      | none => none
  | _ => none
theorem atI_reps {K : PySem.W.Frag} {F : Hp} {ρ : List Addr} {ds : List D} {vs : List V} {k : Int} {d : D} (r : Reps K F ρ ds vs) (e : atI ds k = some d) : ∃ v, atI vs k = some v ∧ Rep K F ρ d v := by
  unfold atI at e ⊢
  rw [r.length]
  cases e1 : ixN ds.length k with
  | none =>
    rw [e1] at e
    cases e
  | some j =>
    rw [e1] at e
    exact r.get e
theorem de_idx {ma mi : M} {a i : Expr} (ha : DE X n W ma a) (hi : DE X n W mi i) (hs : PlainIx i := by exact fun _ _ => rfl) : DE X n W (mBin idxD ma mi) (.Subscript a i pos) := by
  refine PE.weak (pe_ix ix_seq ha hi hs) fun σ H Q q => tbin_ok (fun mg F H ρ S d1 d2 v1 v2 d Q w r1 r2 e p => ?_) q
  unfold idxD at e
  split at e
  · rename_i k
    rw [rep_int r2]
    split at e
    · rename_i z
      split at e
      · rename_i hz
        cases e1 : atI z.cps.toList k with
        | none =>
          rw [e1] at e
          cases e
        | some c =>
          rw [e1] at e
          cases e
          exact .inr (.inr ⟨z, k, c, rep_str r1, rfl, hz, e1, Post.same p w (.s _)⟩)
      · cases e
    · split at e
      · rename_i ds e0
        obtain ⟨a, vs, rfl, h1, h2, h3⟩ := seq_of w r1 e0
        obtain ⟨v, h4, h5⟩ := atI_reps h2 e
        rcases h1 with h1 | h1
        · exact .inl ⟨a, vs, k, v, rfl, rfl, h1, h4, Post.same p w h5⟩
        · exact .inr (.inl ⟨a, vs, k, v, rfl, rfl, h1, h4, Post.same p w h5⟩)
      · cases e
  · cases e
abbrev MO := Sls → Store → R (Option Int)
def mON : MO := fun _ S => .ok none S
def mOS (m : M) : MO := fun σ S => (m σ S).bind fun d S1 => match d with
  | .int i => .ok (some i) S1
  | _ => .bad
def tMO (K : PySem.W.Frag) (mg : Str → Option Value) (n : En) (W : WS) (m : MO) : TO := fun σ H Q => ∃ F ρ σd S, RS K mg n F H ρ σd S σ ∧ Out (m σd S) (fun o S' => ∀ H' F' ρ', Ext ρ F H ρ' F' H' → W0 K mg F' H' ρ' S' → Q o H') (fun c d S' => W c d σd S')
theorem PO.weak {e : Option Expr} {t t' : TO} (h : PO X e t) (k : ∀ σ H Q, t' σ H Q → t σ H Q) : PO X e t' := ⟨fun pins s σ H Q I q => h.run pins s σ H Q I (k σ H Q q)⟩
abbrev DO (X : Cx) (n : En) (W : WS) (m : MO) (e : Option Expr) : Prop := PO X e (tMO X.K X.mg n W m)
theorem do_none : DO X n W mON none := by
  refine PO.weak po_none fun σ H Q q => ?_
  obtain ⟨F, ρ, σd, S, rs, o⟩ := q
  exact o H F ρ (.refl _ _ _) rs.w
theorem do_some {m : M} {e : Expr} (h : DE X n W m e) : DO X n W (mOS m) (some e) := by
  refine PO.weak (po_some h) fun σ H Q q => ?_
  obtain ⟨F, ρ, σd, S, rs, o⟩ := q
  refine ⟨F, ρ, σd, S, rs, Out.bind o fun d S1 o1 v H1 F1 ρ1 x1 w1 r1 => ?_⟩
  split at o1
  · rename_i i
    exact ⟨i, rep_int r1, o1 H1 F1 ρ1 x1 w1⟩
  · exact o1.elim
def cutL {α : Type} (xs : List α) (lo hi : Option Int) : List α := (xs.drop (HT.sIx xs.length 0 lo)).take (HT.sIx xs.length xs.length hi - HT.sIx xs.length 0 lo)
def sliD (S : Store) (x : D) (lo hi : Option Int) : Option D := match x with
  | .str z => if z.length ≤ sizeLine then some (.str (cutS z lo hi)) else none
  | .tup ds => some (.tup (cutL ds lo hi))
  | x => (lstOf S x).map fun ds => .lst (cutL ds lo hi)
def mSli (a : M) (lo hi : MO) : M := fun σ S => (a σ S).bind fun x S1 => (lo σ S1).bind fun l S2 => (hi σ S2).bind fun h S3 => R.of (sliD S3 x l h) S3
theorem cut_reps {K : PySem.W.Frag} {F : Hp} {ρ : List Addr} {ds : List D} {vs : List V} (lo hi : Option Int) (r : Reps K F ρ ds vs) : Reps K F ρ (cutL ds lo hi) (cutV vs lo hi) := by
  unfold cutL cutV
  rw [r.length]
  exact (r.drop _).take _
theorem cutL_len {α : Type} (xs : List α) (lo hi : Option Int) : (cutL xs lo hi).length ≤ xs.length := by
  unfold cutL
  rw [List.length_take, List.length_drop]
  omega
theorem de_sli {ma : M} {ml mh : MO} {a : Expr} {lo hi : Option Expr} {p2 : Pos} (ha : DE X n W ma a) (hl : DO X n W ml lo) (hh : DO X n W mh hi) : DE X n W (mSli ma ml mh) (.Subscript a (.Slice lo hi none p2) pos) := by
  refine PE.weak (pe_slice (sl_list.or (sl_tupA.or sl_str)) ha hl hh) fun σ H Q q => ?_
  obtain ⟨F, ρ, σd, S, rs, o⟩ := q
  refine ⟨F, ρ, σd, S, rs, Out.bind o fun d S1 o1 v H1 F1 ρ1 x1 w1 r1 => ⟨F1, ρ1, σd, S1, rs.next x1 w1, Out.bind o1 fun l S2 o2 H2 F2 ρ2 x2 w2 => ⟨F2, ρ2, σd, S2, (rs.next x1 w1).next x2 w2, Out.bind o2 fun h S3 o3 H3 F3 ρ3 x3 w3 => ?_⟩⟩⟩
  obtain ⟨d', e, p⟩ := Out.of o3
  have p' := Post.next p ((x1.trans x2).trans x3)
  have r3 := x3.rep (x2.rep r1)
  unfold sliD at e
  split at e
  · split at e
    · rename_i hz
      cases e
      exact .inr (.inr ⟨_, rep_str r3, hz, Post.same p' w3 (.s _)⟩)
    · cases e
  · rename_i ds
    cases e
    obtain ⟨a, vs, rfl, h1, h2, h3⟩ := tup_of w3 r3
    refine .inr (.inl ⟨a, vs, rfl, h1, fun hw => ?_, fun _ => Post.tup p' w3 (cut_reps l h h2) (Nat.le_trans (cutL_len _ _ _) h3)⟩)
    have ec : cutL ds l h = ds := by
      unfold cutL
      rw [← h2.length, hw.1, hw.2, List.drop_zero, Nat.sub_zero, h2.length, List.take_length]
    rw [ec] at p'
    exact Post.same p' w3 r3
  · cases e0 : lstOf S3 d with
    | none =>
      rw [e0] at e
      cases e
    | some ds =>
      rw [e0] at e
      cases e
      obtain ⟨a, vs, rfl, h1, h2, h3⟩ := lst_of w3 r3 e0
      exact .inl ⟨a, vs, rfl, h1, Post.lst p' w3 (cut_reps l h h2) (Nat.le_trans (cutL_len _ _ _) h3)⟩

/-! ### calls of built-ins by their values -/
def CallS (X : Cx) (f : Value) (g : Store → List D → Option D) : Prop := ∃ r, CallR X f r ∧
  ∀ mg F H ρ S ds vs d Q, W0 X.K mg F H ρ S → Reps X.K F ρ ds vs → g S ds = some d → Post X.K mg ρ F H S d Q → r vs H Q
def mBlt (g : Store → List D → Option D) (a : MA) : M := fun σ S => (a σ S).bind fun ds S1 => R.of (g S1 ds) S1
theorem blt_ok {r : List V → Hp → VK → Prop} {g : Store → List D → Option D} {ma : MA} (h : ∀ mg F H ρ S ds vs d Q, W0 X.K mg F H ρ S → Reps X.K F ρ ds vs → g S ds = some d → Post X.K mg ρ F H S d Q → r vs H Q)
    {σ : L2.St} {H : Hp} {Q : VK} (q : tM X.K X.mg n W (mBlt g ma) σ H Q) : tCB r (tMA X.K X.mg n W ma) σ H Q := by
  obtain ⟨F, ρ, σd, S, rs, o⟩ := q
  refine ⟨F, ρ, σd, S, rs, Out.bind o fun ds S1 o1 vs H1 F1 ρ1 x1 w1 r1 => ?_⟩
  obtain ⟨d, e, p⟩ := Out.of o1
  exact h _ F1 H1 ρ1 S1 ds vs d Q w1 r1 e (Post.next p x1)
theorem de_blt {id : String} {x : Str} {g : Store → List D → Option D} {ma : MA} {e : Expr} {es : List Expr} {p : Pos} (hc : CallS X (.builtin id) g) (hg : Gl X x) (hm : X.mg x = none) (hv : bootBuiltins x = some (.builtin id)) (ha : DA X n W ma (e :: es))
    (hn : x ≠ "__name__" := by decide) (hdb : (x == ("__debug__" : Str)) = false := by decide) (hpl : (backTo pos (starEach es X.env)).any (·.1) = false := by rfl) (hs : starEach (e :: es) X.env = (false, eval e X.env) :: starEach es X.env := by rfl) :
    DE X n W (mBlt g ma) (.Call (.Name x p) (e :: es) [] pos) := by
  obtain ⟨r, h1, h2⟩ := hc
  exact PE.weak (pe_callB h1 hg hm hv ha hn hdb (hpl := hpl) (he := hs)) fun σ H Q q => blt_ok h2 q
theorem de_bty {T : String} {x : Str} {g : Store → List D → Option D} {ma : MA} {e : Expr} {es : List Expr} {p : Pos} (hc : CallS X (.type T) g) (hg : Gl X x) (hm : X.mg x = none) (hv : bootBuiltins x = some (.type T)) (ha : DA X n W ma (e :: es))
    (hn : x ≠ "__name__" := by decide) (hdb : (x == ("__debug__" : Str)) = false := by decide) (hpl : (backTo pos (starEach es X.env)).any (·.1) = false := by rfl) (hs : starEach (e :: es) X.env = (false, eval e X.env) :: starEach es X.env := by rfl) :
    DE X n W (mBlt g ma) (.Call (.Name x p) (e :: es) [] pos) := by
  obtain ⟨r, h1, h2⟩ := hc
  exact PE.weak (pe_callTy h1 hg hm hv ha hn hdb (hpl := hpl) (he := hs)) fun σ H Q q => blt_ok h2 q
theorem reps1 {K : PySem.W.Frag} {F : Hp} {ρ : List Addr} {d : D} {vs : List V} (r : Reps K F ρ [d] vs) : ∃ v, vs = [v] ∧ Rep K F ρ d v := by
  unfold Reps at r
  obtain ⟨v, r', rfl, h1, h2⟩ := r
  unfold Reps at h2
  subst h2
  exact ⟨v, rfl, h1⟩
theorem reps2 {K : PySem.W.Frag} {F : Hp} {ρ : List Addr} {d e : D} {vs : List V} (r : Reps K F ρ [d, e] vs) : ∃ v u, vs = [v, u] ∧ Rep K F ρ d v ∧ Rep K F ρ e u := by
  unfold Reps at r
  obtain ⟨v, r', rfl, h1, h2⟩ := r
  obtain ⟨u, rfl, h3⟩ := reps1 h2
  exact ⟨v, u, rfl, h1, h3⟩
def lenD (S : Store) : List D → Option D
  | [.str z] => if z.length ≤ sizeLine then some (.int z.length) else none
  | [.dK ks _] => some (.int ks.length)
  | [x] => (seqOf S x).map fun ds => .int ds.length
  | _ => none
theorem cs_len : CallS X (.builtin "len") lenD := by
  refine ⟨_, (call_len_str.or (call_len_seq.or call_lenD)), fun mg F H ρ S ds vs d Q w r e p => ?_⟩
  unfold lenD at e
  split at e
  · split at e
    · rename_i h
      cases e
      obtain ⟨v, rfl, h1⟩ := reps1 r
      exact .inl ⟨_, by rw [rep_str h1], h, Post.same p w (.i _)⟩
    · cases e
  · rename_i ks es
    cases e
    obtain ⟨v, rfl, h1⟩ := reps1 r
    obtain ⟨a, vs, rfl, h2, h3, h4⟩ := rep_dK h1
    refine .inr (.inr ⟨a, _, rfl, w.fh _ _ h2, ?_⟩)
    have : (ks.zip vs).length = ks.length := by rw [List.length_zip, h3.length, h4, Nat.min_self]
    rw [this]
    exact Post.same p w (.i _)
  · rename_i x _ _
    cases e0 : seqOf S x with
    | none =>
      rw [e0] at e
      cases e
    | some es =>
      rw [e0] at e
      cases e
      obtain ⟨v, rfl, h1⟩ := reps1 r
      obtain ⟨a, us, rfl, h2, h3, h4⟩ := seq_of w h1 e0
      exact .inr (.inl ⟨a, us, rfl, h2, by rw [h3.length]; exact Post.same p w (.i _)⟩)
  · cases e
def absD (_ : Store) : List D → Option D
  | [.int i] => some (.int (if i < 0 then -i else i))
  | _ => none
theorem cs_abs : CallS X (.builtin "abs") absD := by
  refine ⟨_, call_abs, fun mg F H ρ S ds vs d Q w r e p => ?_⟩
  unfold absD at e
  split at e
  · cases e
    obtain ⟨v, rfl, h1⟩ := reps1 r
    exact ⟨_, by rw [rep_int h1], Post.same p w (.i _)⟩
  · cases e
def intD (_ : Store) : List D → Option D
  | [.int i] => some (.int i)
  | [.bl b] => some (.int (if b = true then 1 else 0))
  | _ => none
theorem cs_int : CallS X (.type "int") intD := by
  refine ⟨_, call_int1, fun mg F H ρ S ds vs d Q w r e p => ?_⟩
  unfold intD at e
  split at e
  · cases e
    obtain ⟨v, rfl, h1⟩ := reps1 r
    exact .inl ⟨_, by rw [rep_int h1], Post.same p w (.i _)⟩
  · cases e
    obtain ⟨v, rfl, h1⟩ := reps1 r
    exact .inr ⟨_, by rw [rep_bl h1], Post.same p w (.i _)⟩
  · cases e
/-! lists of ints, of bools -/
def intsOf : List D → Option (List Int)
  | [] => some []
  | .int i :: ds => (intsOf ds).map (i :: ·)
  | _ => none
def boolsOf : List D → Option (List Bool)
  | [] => some []
  | .bl i :: ds => (boolsOf ds).map (i :: ·)
  | _ => none
theorem ints_reps {K : PySem.W.Frag} {F : Hp} {ρ : List Addr} : ∀ {ds : List D} {vs : List V} {ns : List Int}, Reps K F ρ ds vs → intsOf ds = some ns → vs = ns.map V.int
  | [], vs, ns, r, e => by
    cases e
    unfold Reps at r
    exact r
  | d :: ds, vs, ns, r, e => by
    unfold Reps at r
    obtain ⟨v, r', rfl, h1, h2⟩ := r
    cases d with
    | int i =>
      unfold intsOf at e
      cases e0 : intsOf ds with
      | none =>
        rw [e0] at e
        cases e
      | some ms =>
        rw [e0] at e
        cases e
        rw [rep_int h1, ints_reps h2 e0]
        rfl
    | _ => cases e
theorem bools_reps {K : PySem.W.Frag} {F : Hp} {ρ : List Addr} : ∀ {ds : List D} {vs : List V} {ns : List Bool}, Reps K F ρ ds vs → boolsOf ds = some ns → vs = ns.map V.bl
  | [], vs, ns, r, e => by
    cases e
    unfold Reps at r
    exact r
  | d :: ds, vs, ns, r, e => by
    unfold Reps at r
    obtain ⟨v, r', rfl, h1, h2⟩ := r
    cases d with
    | bl i =>
      unfold boolsOf at e
      cases e0 : boolsOf ds with
      | none =>
        rw [e0] at e
        cases e
      | some ms =>
        rw [e0] at e
        cases e
        rw [rep_bl h1, bools_reps h2 e0]
        rfl
    | _ => cases e
theorem reps_ints {K : PySem.W.Frag} {F : Hp} {ρ : List Addr} : ∀ (ns : List Int), Reps K F ρ (ns.map D.int) (ns.map V.int)
  | [] => .nil
  | n :: ns => .cons (.i n) (reps_ints ns)
theorem intsOf_map : ∀ (ns : List Int), intsOf (ns.map D.int) = some ns
  | [] => rfl
  | n :: ns => by
    show (intsOf (ns.map D.int)).map (n :: ·) = some (n :: ns)
    rw [intsOf_map ns]
    rfl
theorem boolsOf_map : ∀ (ns : List Bool), boolsOf (ns.map D.bl) = some ns
  | [] => rfl
  | n :: ns => by
    show (boolsOf (ns.map D.bl)).map (n :: ·) = some (n :: ns)
    rw [boolsOf_map ns]
    rfl
def maxI : List Int → Option Int
  | [] => none
  | a :: r => some (r.foldl max a)
def minI : List Int → Option Int
  | [] => none
  | a :: r => some (r.foldl min a)
theorem foldl_max : ∀ (r : List Int) (a : Int), (r.foldl max a ∈ a :: r) ∧ ∀ y ∈ a :: r, y ≤ r.foldl max a
  | [], a => ⟨by simp, fun y hy => by simp at hy; rw [hy]; exact Int.le_refl _⟩
  | b :: r, a => by
    obtain ⟨h1, h2⟩ := foldl_max r (max a b)
    refine ⟨?_, fun y hy => ?_⟩
    · show r.foldl max (max a b) ∈ a :: b :: r
      rcases List.mem_cons.mp h1 with e | e
      · rw [e]
        rcases Int.le_total a b with h | h
        · rw [Int.max_eq_right h]; simp
        · rw [Int.max_eq_left h]; simp
      · exact List.mem_cons_of_mem _ (List.mem_cons_of_mem _ e)
    · show y ≤ r.foldl max (max a b)
      have h3 := h2 (max a b) List.mem_cons_self
      rcases List.mem_cons.mp hy with e | hy
      · rw [e]; omega
      · rcases List.mem_cons.mp hy with e | hy
        · rw [e]; omega
        · exact h2 y (List.mem_cons_of_mem _ hy)
theorem foldl_min : ∀ (r : List Int) (a : Int), (r.foldl min a ∈ a :: r) ∧ ∀ y ∈ a :: r, r.foldl min a ≤ y
  | [], a => ⟨by simp, fun y hy => by simp at hy; rw [hy]; exact Int.le_refl _⟩
  | b :: r, a => by
    obtain ⟨h1, h2⟩ := foldl_min r (min a b)
    refine ⟨?_, fun y hy => ?_⟩
    · show r.foldl min (min a b) ∈ a :: b :: r
      rcases List.mem_cons.mp h1 with e | e
      · rw [e]
        rcases Int.le_total a b with h | h
        · rw [Int.min_eq_left h]; simp
        · rw [Int.min_eq_right h]; simp
      · exact List.mem_cons_of_mem _ (List.mem_cons_of_mem _ e)
    · show r.foldl min (min a b) ≤ y
      have h3 := h2 (min a b) List.mem_cons_self
      rcases List.mem_cons.mp hy with e | hy
      · rw [e]; omega
      · rcases List.mem_cons.mp hy with e | hy
        · rw [e]; omega
        · exact h2 y (List.mem_cons_of_mem _ hy)
theorem max_all {ns : List Int} {m x : Int} (e : maxI ns = some x) (h1 : m ∈ ns) (h2 : ∀ y, y ∈ ns → y ≤ m) : m = x := by
  cases ns with
  | nil => cases e
  | cons a r =>
    cases e
    obtain ⟨h3, h4⟩ := foldl_max r a
    have := h4 m h1
    have := h2 _ h3
    omega
theorem min_all {ns : List Int} {m x : Int} (e : minI ns = some x) (h1 : m ∈ ns) (h2 : ∀ y, y ∈ ns → m ≤ y) : m = x := by
  cases ns with
  | nil => cases e
  | cons a r =>
    cases e
    obtain ⟨h3, h4⟩ := foldl_min r a
    have := h4 m h1
    have := h2 _ h3
    omega
def maxD (S : Store) : List D → Option D
  | [.int i, .int j] => some (.int (if j > i then j else i))
  | [x] => match (lstOf S x).bind intsOf with
    | some ns => (maxI ns).map .int
    | none => none
  | _ => none
def minD (S : Store) : List D → Option D
  | [.int i, .int j] => some (.int (if j < i then j else i))
  | [x] => match (lstOf S x).bind intsOf with
    | some ns => (minI ns).map .int
    | none => none
  | _ => none
theorem ints_of {mg} {F H : Hp} {ρ : List Addr} {S : Store} {x : D} {v : V} {ns : List Int} (w : W0 X.K mg F H ρ S) (r : Rep X.K F ρ x v) (e : (lstOf S x).bind intsOf = some ns) : ∃ a, v = .ref a ∧ SqL X.K H a (ns.map V.int) := by
  cases e0 : lstOf S x with
  | none =>
    rw [e0] at e
    cases e
  | some ds =>
    rw [e0] at e
    obtain ⟨a, vs, rfl, h1, h2, h3⟩ := lst_of w r e0
    exact ⟨a, rfl, by rw [← ints_reps h2 e]; exact h1⟩
theorem bools_of {mg} {F H : Hp} {ρ : List Addr} {S : Store} {x : D} {v : V} {ns : List Bool} (w : W0 X.K mg F H ρ S) (r : Rep X.K F ρ x v) (e : (lstOf S x).bind boolsOf = some ns) : ∃ a, v = .ref a ∧ SqL X.K H a (ns.map V.bl) := by
  cases e0 : lstOf S x with
  | none =>
    rw [e0] at e
    cases e
  | some ds =>
    rw [e0] at e
    obtain ⟨a, vs, rfl, h1, h2, h3⟩ := lst_of w r e0
    exact ⟨a, rfl, by rw [← bools_reps h2 e]; exact h1⟩
theorem cs_max (hc : X.calm = true) : CallS X (.builtin "max") maxD := by
  refine ⟨_, (call_max2 hc).or (cr_max hc), fun mg F H ρ S ds vs d Q w r e p => ?_⟩
  unfold maxD at e
  split at e
  · cases e
    obtain ⟨v, u, rfl, h1, h2⟩ := reps2 r
    exact .inl ⟨_, _, by rw [rep_int h1, rep_int h2], Post.same p w (.i _)⟩
  · split at e
    · rename_i ns e0
      obtain ⟨v, rfl, h1⟩ := reps1 r
      obtain ⟨a, rfl, h2⟩ := ints_of w h1 e0
      cases e1 : maxI ns with
      | none =>
        rw [e1] at e
        cases e
      | some x =>
        rw [e1] at e
        cases e
        refine .inr ⟨a, ns, rfl, h2, ?_, fun m h3 h4 => ?_⟩
        · cases ns with
          | nil => cases e1
          | cons a r => exact Nat.succ_pos _
        · rw [max_all e1 h3 h4]
          exact Post.same p w (.i _)
    · cases e
  · cases e
theorem cs_min (hc : X.calm = true) : CallS X (.builtin "min") minD := by
  refine ⟨_, (call_min2 hc).or (cr_min hc), fun mg F H ρ S ds vs d Q w r e p => ?_⟩
  unfold minD at e
  split at e
  · cases e
    obtain ⟨v, u, rfl, h1, h2⟩ := reps2 r
    exact .inl ⟨_, _, by rw [rep_int h1, rep_int h2], Post.same p w (.i _)⟩
  · split at e
    · rename_i ns e0
      obtain ⟨v, rfl, h1⟩ := reps1 r
      obtain ⟨a, rfl, h2⟩ := ints_of w h1 e0
      cases e1 : minI ns with
      | none =>
        rw [e1] at e
        cases e
      | some x =>
        rw [e1] at e
        cases e
        refine .inr ⟨a, ns, rfl, h2, ?_, fun m h3 h4 => ?_⟩
        · cases ns with
          | nil => cases e1
          | cons a r => exact Nat.succ_pos _
        · rw [min_all e1 h3 h4]
          exact Post.same p w (.i _)
    · cases e
  · cases e
def sumD (S : Store) : List D → Option D
  | [x] => ((lstOf S x).bind intsOf).map fun ns => .int ns.sum
  | _ => none
theorem cs_sum (hc : X.calm = true) : CallS X (.builtin "sum") sumD := by
  refine ⟨_, cr_sum hc, fun mg F H ρ S ds vs d Q w r e p => ?_⟩
  unfold sumD at e
  split at e
  · rename_i x
    cases e0 : (lstOf S x).bind intsOf with
    | none =>
      rw [e0] at e
      cases e
    | some ns =>
      rw [e0] at e
      cases e
      obtain ⟨v, rfl, h1⟩ := reps1 r
      obtain ⟨a, rfl, h2⟩ := ints_of w h1 e0
      exact ⟨a, ns, rfl, h2, Post.same p w (.i _)⟩
  · cases e
def allD (S : Store) : List D → Option D
  | [x] => ((lstOf S x).bind boolsOf).map fun ns => .bl (ns.all id)
  | _ => none
def anyD (S : Store) : List D → Option D
  | [x] => ((lstOf S x).bind boolsOf).map fun ns => .bl (ns.any id)
  | _ => none
theorem cs_all (hc : X.calm = true) : CallS X (.builtin "all") allD := by
  refine ⟨_, cr_all hc, fun mg F H ρ S ds vs d Q w r e p => ?_⟩
  unfold allD at e
  split at e
  · rename_i x
    cases e0 : (lstOf S x).bind boolsOf with
    | none =>
      rw [e0] at e
      cases e
    | some ns =>
      rw [e0] at e
      cases e
      obtain ⟨v, rfl, h1⟩ := reps1 r
      obtain ⟨a, rfl, h2⟩ := bools_of w h1 e0
      exact ⟨a, ns, rfl, h2, Post.same p w (.b _)⟩
  · cases e
theorem cs_any (hc : X.calm = true) : CallS X (.builtin "any") anyD := by
  refine ⟨_, cr_any hc, fun mg F H ρ S ds vs d Q w r e p => ?_⟩
  unfold anyD at e
  split at e
  · rename_i x
    cases e0 : (lstOf S x).bind boolsOf with
    | none =>
      rw [e0] at e
      cases e
    | some ns =>
      rw [e0] at e
      cases e
      obtain ⟨v, rfl, h1⟩ := reps1 r
      obtain ⟨a, rfl, h2⟩ := bools_of w h1 e0
      exact ⟨a, ns, rfl, h2, Post.same p w (.b _)⟩
  · cases e
def tupleD (S : Store) : List D → Option D
  | [.tup ds] => some (.tup ds)
  | [x] => (lstOf S x).map .tup
  | _ => none
theorem cs_tuple : CallS X (.type "tuple") tupleD := by
  refine ⟨_, call_tuple_of, fun mg F H ρ S ds vs d Q w r e p => ?_⟩
  unfold tupleD at e
  split at e
  · cases e
    obtain ⟨v, rfl, h1⟩ := reps1 r
    obtain ⟨a, us, rfl, h2, h3, h4⟩ := tup_of w h1
    exact ⟨a, us, rfl, .inr ⟨h2, Post.same p w h1⟩⟩
  · rename_i x _
    cases e0 : lstOf S x with
    | none =>
      rw [e0] at e
      cases e
    | some es =>
      rw [e0] at e
      cases e
      obtain ⟨v, rfl, h1⟩ := reps1 r
      obtain ⟨a, us, rfl, h2, h3, h4⟩ := lst_of w h1 e0
      exact ⟨a, us, rfl, .inl ⟨h2, Post.tup p w h3 h4⟩⟩
  · cases e
def listD (S : Store) : List D → Option D
  | [x] => (seqOf S x).map .lst
  | _ => none
theorem cs_list : CallS X (.type "list") listD := by
  refine ⟨_, call_list_of, fun mg F H ρ S ds vs d Q w r e p => ?_⟩
  unfold listD at e
  split at e
  · rename_i x
    cases e0 : seqOf S x with
    | none =>
      rw [e0] at e
      cases e
    | some es =>
      rw [e0] at e
      cases e
      obtain ⟨v, rfl, h1⟩ := reps1 r
      obtain ⟨a, us, rfl, h2, h3, h4⟩ := seq_of w h1 e0
      exact ⟨a, us, rfl, h2, Post.lst p w h3 h4⟩
  · cases e
end
end PL

set_option Elab.async false
set_option linter.all false
set_option maxRecDepth 100000
set_option maxHeartbeats 4000000
namespace PL
open PySem PySem.Spec PyProof.Rows L2

/-! ### isinstance with built-in classes -/
inductive Ty where
  | non | bool | int | str | tuple | list | dict
def Ty.name : Ty → String
  | .non => "NoneType" | .bool => "bool" | .int => "int" | .str => "str" | .tuple => "tuple" | .list => "list" | .dict => "dict"
def Ty.isA : Ty → Ty → Bool
  | .non, .non => true | .bool, .bool => true | .bool, .int => true | .int, .int => true | .str, .str => true | .tuple, .tuple => true | .list, .list => true | .dict, .dict => true
  | _, _ => false
theorem Ty.kit (a b : Ty) : kitB a.name b.name = some (a.isA b) := by
  cases a <;> cases b <;> decide +kernel
def tyOf (S : Store) : D → Option Ty
  | .non => some .non
  | .bl _ => some .bool
  | .int _ => some .int
  | .str _ => some .str
  | .tup _ => some .tuple
  | .lst _ => some .list
  | .dK _ _ => some .dict
  | .dT _ _ => some .dict
  | .ref m => match S[m]? with
    | some (.lst _) => some .list
    | some (.dK _ _) => some .dict
    | some (.dT _ _) => some .dict
    | _ => none
theorem tyx_l {K : PySem.W.Frag} {H : Hp} {a : Addr} {vs : List V} (h : SqL K H a vs) : TyX K H (.ref a) (.type "list") := by
  rcases h with (h | ⟨o, h⟩) | ⟨o, its, m, h1, h2, _⟩
  · exact .base (.lst h)
  · exact .base (.frz h)
  · exact .kList h1 h2
theorem tyx_t {K : PySem.W.Frag} {H : Hp} {a : Addr} {vs : List V} (h : SqT K H a vs) : TyX K H (.ref a) (.type "tuple") := by
  rcases h with (h | ⟨o, h⟩) | ⟨o, its, m, h1, h2, _⟩
  · exact .base (.tup h)
  · exact .fTuple h
  · exact .kTuple h1 h2
theorem tyx_of {K : PySem.W.Frag} {mg} {F H : Hp} {ρ : List Addr} {S : Store} {d : D} {v : V} {t : Ty} (w : W0 K mg F H ρ S) (r : Rep K F ρ d v) (e : tyOf S d = some t) : TyX K H v (.type t.name) := by
  cases d with
  | non => cases e; rw [rep_non r]; exact .base .non
  | bl b => cases e; rw [rep_bl r]; exact .base (.bl b)
  | int b => cases e; rw [rep_int r]; exact .base (.int b)
  | str b => cases e; rw [rep_str r]; exact .base (.str b)
  | tup ds => cases e; obtain ⟨a, vs, rfl, h1, _⟩ := tup_of w r; exact tyx_t h1
  | lst ds => cases e; obtain ⟨a, vs, rfl, h1, _⟩ := lst_of w r rfl; exact tyx_l h1
  | dK ks ds => cases e; obtain ⟨a, vs, rfl, h1, _⟩ := rep_dK r; exact .base (.dK (w.fh _ _ h1))
  | dT ks ds => cases e; obtain ⟨a, vs, rfl, h1, _⟩ := rep_dT r; exact .base (.dT (w.fh _ _ h1))
  | ref m =>
    obtain ⟨a, rfl, ha⟩ := rep_ref r
    simp only [tyOf] at e
    split at e
    · rename_i hc
      cases e
      obtain ⟨vs, h1, _⟩ := w.cell m a _ ha hc
      exact .base (.lst h1)
    · rename_i hc
      cases e
      obtain ⟨vs, h1, _⟩ := w.cell m a _ ha hc
      exact .base (.dK h1)
    · rename_i hc
      cases e
      obtain ⟨vs, h1, _⟩ := w.cell m a _ ha hc
      exact .base (.dT h1)
    · cases e
def mIsi (Ts : List Ty) (m : M) : M := fun σ S => (m σ S).bind fun d S1 => match tyOf S1 d with
  | some t => .ok (.bl (Ts.any fun T => t.isA T)) S1
  | none => .bad
theorem ext_junk {ρ : List Addr} {F H : Hp} {p : Addr} {o : HO} (hp : H p = none) : Ext ρ F H ρ F (upd H p o) :=
  ⟨fun a o' h => h, fun a o' h => .inl h, ⟨[], by simp, by simp⟩, fun a o' h _ => by rw [upd_ne (ne_of_none h hp)]; exact h,
   fun a h => by
    by_cases e : a = p
    · subst e
      exact hp
    · rw [upd_ne e] at h
      exact h⟩
theorem w0_junk {K : PySem.W.Frag} {mg : Str → Option Value} {F H : Hp} {ρ : List Addr} {S : Store} {p : Addr} {o : HO} (w : W0 K mg F H ρ S) (hp : H p = none) : W0 K mg F (upd H p o) ρ S := by
  have nm : ∀ a ∈ ρ, a ≠ p := fun a ha e => by
    subst e
    exact w.there ha hp
  refine ⟨fun a o' h => ?_, w.len, w.nd, w.off, fun n a c h1 h2 => ?_⟩
  · rw [upd_ne (ne_of_none (w.fh a o' h) hp)]
    exact w.fh a o' h
  · exact CellOk.mono (fun _ _ z => z) ⟨[], by simp⟩ (upd_ne (nm a (List.mem_of_getElem? h1))) (w.cell n a c h1 h2)
section
variable {X : Cx} {n : En} {W : WS} {pos : Pos}
theorem de_isi {m : M} {e : Expr} {x : Str} {T : Ty} {p p2 : Pos} (he : DE X n W m e) (hg : Gl X "isinstance") (hm : X.mg "isinstance" = none) (hgT : Gl X x) (hmT : X.mg x = none) (hT : bootBuiltins x = some (.type T.name))
    (hn : x ≠ "__name__" := by decide) (hd : (x == ("__debug__" : Str)) = false := by decide)
    (hs : starEach [e, .Name x p2] X.env = (false, eval e X.env) :: starEach [.Name x p2] X.env := by rfl) :
    DE X n W (mIsi [T] m) (.Call (.Name "isinstance" p) [e, .Name x p2] [] pos) := by
  refine PE.weak (pe_callB call_isi hg hm (by decide +kernel) (pa_cons he (pa_cons (pe_bltn (v := .ty T.name) hgT hmT hT rfl hn hd) pa_nil rfl) hs) (he := hs) (hpl := rfl)) fun σ H Q q => ?_
  obtain ⟨F, ρ, σd, S, rs, o⟩ := q
  refine ⟨F, ρ, σd, S, rs, Out.bind o fun d S1 o1 v H1 F1 ρ1 x1 w1 r1 => ?_⟩
  split at o1
  · rename_i t et
    refine ⟨v, .ty T.name, .type t.name, .type T.name, t.isA T, rfl, .ty _, tyx_of w1 r1 et, kit_ty (Ty.kit t T), ?_⟩
    have e2 : ([T].any fun T => t.isA T) = t.isA T := by simp
    rw [e2] at o1
    exact Post.same (Post.next o1 x1) w1 (.b _)
  · exact o1.elim
theorem kitAny_ty {K : PySem.W.Frag} (t : Ty) : ∀ Ts : List Ty, PySem.W.kitAny K (.type t.name) (Ts.map fun T => Value.type T.name) = some (Ts.any fun T => t.isA T)
  | [] => rfl
  | T :: Ts => by
    refine kitAny_cons (kit_ty (Ty.kit t T)) (fun h => ?_) fun h => ?_
    · rw [List.any_cons, h, Bool.false_or]
      exact kitAny_ty t Ts
    · rw [List.any_cons, h, Bool.true_or]
theorem de_isi2 {m : M} {e : Expr} {x y : Str} {T U : Ty} {p p2 p3 pt : Pos} {k} (he : DE X n W m e) (hg : Gl X "isinstance") (hm : X.mg "isinstance" = none) (hgT : Gl X x) (hmT : X.mg x = none) (hT : bootBuiltins x = some (.type T.name))
    (hgU : Gl X y) (hmU : X.mg y = none) (hU : bootBuiltins y = some (.type U.name))
    (hn : x ≠ "__name__" := by decide) (hd : (x == ("__debug__" : Str)) = false := by decide) (hn2 : y ≠ "__name__" := by decide) (hd2 : (y == ("__debug__" : Str)) = false := by decide)
    (hs : starEach [e, .Tuple [.Name x p2, .Name y p3] k pt] X.env = (false, eval e X.env) :: starEach [.Tuple [.Name x p2, .Name y p3] k pt] X.env := by rfl) :
    DE X n W (mIsi [T, U] m) (.Call (.Name "isinstance" p) [e, .Tuple [.Name x p2, .Name y p3] k pt] [] pos) := by
  refine PE.weak (pe_callB call_isiT hg hm (by decide +kernel) (pa_cons he (pa_cons (pe_tup (pa_cons (pe_bltn (v := .ty T.name) hgT hmT hT rfl hn hd) (pa_cons (pe_bltn (v := .ty U.name) hgU hmU hU rfl hn2 hd2) pa_nil rfl) rfl)) pa_nil rfl) hs) (he := hs) (hpl := rfl)) fun σ H Q q => ?_
  obtain ⟨F, ρ, σd, S, rs, o⟩ := q
  refine ⟨F, ρ, σd, S, rs, Out.bind o fun d S1 o1 v H1 F1 ρ1 x1 w1 r1 => ?_⟩
  split at o1
  · rename_i t et
    refine ⟨small_line (Nat.le_of_ble_eq_true rfl), fun tp htp => ⟨v, tp, [.ty T.name, .ty U.name], .type t.name, [.type T.name, .type U.name], [T, U].any fun T => t.isA T, rfl, upd_same, .cons (.ty _) (.cons (.ty _) .nil), ?_, kitAny_ty t [T, U], ?_⟩⟩
    · exact tyx_of (w0_junk w1 htp) r1 et
    · exact Post.same (Post.next o1 (x1.trans (ext_junk htp))) (w0_junk w1 htp) (.b _)
  · exact o1.elim
end

/-! ### defs and their calls -/
def fieldOf (c : Str) : Str :=
  if c = "InvalidMoment" ∨ c = "InvalidNumber" ∨ c = "Mismatch" then "name" else if c = "InvalidFile" then "file" else if c = "InvalidRule" then "rule" else if c = "InvalidText" then "line"
  else if c = "TooLate" then "moment" else if c = "TooLarge" then "limit" else "index"
def XPost (K : PySem.W.Frag) (mg : Str → Option Value) (ρ : List Addr) (F H : Hp) (S : Store) (c : Str) (d : D) (E : XK) : Prop :=
  ∀ C dx v H' F' ρ', Ext ρ F H ρ' F' H' → W0 K mg F' H' ρ' S → mg c = some (.ref C) → H' dx = some (.xd [(fieldOf c, v)]) → Rep K F' ρ' d v → E (.ref C) (some dx) H'
def spOf (K : PySem.W.Frag) (mg : Str → Option Value) (k : Nat) (fn : Fn) : Sp := fun vs H Q E => vs.length = k ∧ ∃ F ρ S ds, W0 K mg F H ρ S ∧ Reps K F ρ ds vs ∧
  Out (fn ds S) (fun d S' => Post K mg ρ F H S' d Q) (fun c d S' => XPost K mg ρ F H S' c d E)
def runFn (N : Nat) (body : MS) : Fn := fun ds S => match body (ds.map .val ++ List.replicate (N - ds.length) .no) S with
  | .nx _ S' => .ok .non S'
  | .ret d S' => .ok d S'
  | .exc c d _ S' => .exc c d S'
  | _ => .bad
/-- a def of the module: what it computes -/
structure FnD (P : Program) (w : World) (K : PySem.W.Frag) (mg : Str → Option Value) (base : Heap) (CX : CXT) (x : Str) (k np : Nat) (fn : Fn) : Prop where
  ex : ∃ (f : Addr) (fd : FuncData) (ps : List Str), ps.length = np ∧ FnG P w K mg base CX k f fd ps (spOf K mg ps.length fn) ∧ mg x = some (.ref f) ∧ PySem.W.keepIn K (.ref f) = true ∧ Binds K fd ps []
theorem FnD.mono {P : Program} {w : World} {K : PySem.W.Frag} {mg : Str → Option Value} {base : Heap} {CX : CXT} {x : Str} {j k np : Nat} {fn : Fn} (h : FnD P w K mg base CX x j np fn) (hjk : j ≤ k) : FnD P w K mg base CX x k np fn := by
  obtain ⟨f, fd, ps, h0, h1, h2, h3, h4⟩ := h.ex
  exact ⟨f, fd, ps, h0, h1.mono hjk, h2, h3, h4⟩
def mCall (fn : Fn) (a : MA) : M := fun σ S => (a σ S).bind fun ds S1 => fn ds S1
section
variable {X : Cx} {n : En} {W : WS} {pos : Pos}
theorem call_out {K : PySem.W.Frag} {mg : Str → Option Value} {W' : Str → D → Store → Prop} {E : XK} {fn : Fn} {ds : List D} {S1 : Store} {F H F1 H1 : Hp} {ρ ρ1 : List Addr} {Q : VK} (x1 : Ext ρ F H ρ1 F1 H1)
    (o : Out (fn ds S1) (fun d S' => Post K mg ρ F H S' d Q) W') (hW : ∀ c d S', W' c d S' → XPost K mg ρ1 F1 H1 S' c d E) :
    Out (fn ds S1) (fun d S' => Post K mg ρ1 F1 H1 S' d Q) (fun c d S' => XPost K mg ρ1 F1 H1 S' c d E) := by
  cases e : fn ds S1 with
  | ok d S' =>
    rw [e] at o
    exact Post.next o x1
  | exc c d S' =>
    rw [e] at o
    exact hW c d S' o
  | bad =>
    rw [e] at o
    exact o
theorem de_call {CX : CXT} {x : Str} {k np : Nat} {fn : Fn} {ma : MA} {e : Expr} {es : List Expr} {p : Pos} {E : XK} [l : Len ma np] (F : FnD X.prog X.w X.K X.mg X.base CX x k np fn) (hr : RoomG k X.A) (hg : Gl X x) (hx : Passes CX X E)
    (hW : ∀ c d σd S S' ρ F H σ, RS X.K X.mg n F H ρ σd S σ → W c d σd S' → XPost X.K X.mg ρ F H S' c d E) (ha : DA X n W ma (e :: es))
    (hdb : (x == ("__debug__" : Str)) = false := by decide) (he : starEach (e :: es) X.env = (false, eval e X.env) :: starEach es X.env := by rfl) (hpl : (backTo pos (starEach es X.env)).any (·.1) = false := by rfl) :
    DE X n W (mCall fn ma) (.Call (.Name x p) (e :: es) [] pos) := by
  obtain ⟨f, fd, ps, h0, h1, h2, h3, h4⟩ := F.ex
  refine PE.weak (peG_call h1 hr hg h2 h3 h4 hx ha hdb he hpl) fun σ H Q q => ?_
  obtain ⟨F, ρ, σd, S, rs, o⟩ := q
  refine ⟨F, ρ, σd, S, rs, Out.ok_ o fun ds S1 e o1 vs H1 F1 ρ1 x1 w1 r1 => ?_⟩
  show spOf X.K X.mg ps.length fn (vs ++ []) H1 Q E
  rw [List.append_nil]
  exact ⟨by rw [r1.length, l.len _ _ _ _ e, h0], F1, ρ1, S1, ds, w1, r1, call_out x1 o1 fun c d S' hw => hW c d σd S1 S' ρ1 F1 H1 σ (rs.next x1 w1) hw⟩
/-- no exception is wished for -/
abbrev WN : WS := fun _ _ _ _ => False
theorem de_call0 {x : Str} {k np : Nat} {fn : Fn} {ma : MA} {e : Expr} {es : List Expr} {p : Pos} [l : Len ma np] (F : FnD X.prog X.w X.K X.mg X.base CX0 x k np fn) (hr : RoomG k X.A) (hg : Gl X x) (ha : DA X n WN ma (e :: es))
    (hdb : (x == ("__debug__" : Str)) = false := by decide) (he : starEach (e :: es) X.env = (false, eval e X.env) :: starEach es X.env := by rfl) (hpl : (backTo pos (starEach es X.env)).any (·.1) = false := by rfl) :
    DE X n WN (mCall fn ma) (.Call (.Name x p) (e :: es) [] pos) := de_call (E := E0) F hr hg pass0 (fun _ _ _ _ _ _ _ _ _ _ h => h.elim) ha hdb he hpl
theorem de_call00 {x : Str} {k : Nat} {fn : Fn} {p : Pos} (F : FnD X.prog X.w X.K X.mg X.base CX0 x k 0 fn) (hr : RoomG k X.A) (hg : Gl X x) (hdb : (x == ("__debug__" : Str)) = false := by decide) :
    DE X n WN (mCall fn mNil) (.Call (.Name x p) [] [] pos) := by
  obtain ⟨f, fd, ps, h0, h1, h2, h3, h4⟩ := F.ex
  refine PE.weak (peG_call0 (E := E0) h1 hr hg h2 h3 h4 pass0 hdb) fun σ H Q q => ?_
  obtain ⟨F, ρ, σd, S, rs, o⟩ := q
  show spOf X.K X.mg ps.length fn ([] ++ []) H Q E0
  rw [List.append_nil]
  exact ⟨h0.symm, F, ρ, S, [], rs.w, .nil, call_out (.refl _ _ _) o fun c d S' hw => hw.elim⟩
end

/-! ### a def's body -/
theorem rs_start {K : PySem.W.Frag} {mg : Str → Option Value} {F H : Hp} {ρ : List Addr} {S : Store} {ds : List D} {vs : List V} {N : List Str} (w : W0 K mg F H ρ S) (r : Reps K F ρ ds vs) :
    RS K mg ⟨H, F, ρ⟩ F H ρ (ds.map .val ++ List.replicate (N.length - ds.length) .no) S (L2.start N vs) := by
  have noown : ∀ i a, ¬ Own (ds.map .val ++ List.replicate (N.length - ds.length) .no) (L2.start N vs) i a := by
    rintro i a ⟨⟨s, e, hs⟩, _⟩
    have hm := List.mem_of_getElem? e
    rcases List.mem_append.mp hm with hm | hm
    · obtain ⟨d, _, rfl⟩ := List.mem_map.mp hm
      cases hs
    · rw [(List.mem_replicate.mp hm).2] at hs
      cases hs
  refine ⟨w, ?_, fun i s e => ?_, fun i j a _ h => absurd h (noown i a), fun i a h => absurd h (noown i a), .refl _ _ _⟩
  · unfold L2.start
    rw [List.length_append, List.length_append, List.length_map, List.length_map, List.length_replicate, List.length_replicate, r.length]
  · unfold L2.start
    by_cases hi : i < ds.length
    · rw [List.getElem?_append_left (by rw [List.length_map]; exact hi), List.getElem?_map] at e
      rw [List.getElem?_append_left (by rw [List.length_map, r.length]; exact hi), List.getElem?_map]
      cases e1 : ds[i]? with
      | none =>
        rw [e1] at e
        cases e
      | some d =>
        rw [e1] at e
        cases e
        obtain ⟨v, h1, h2⟩ := r.get e1
        exact ⟨some v, by rw [h1]; rfl, v, rfl, h2⟩
    · rw [List.getElem?_append_right (by rw [List.length_map]; omega)] at e
      rw [List.getElem?_append_right (by rw [List.length_map, r.length]; omega)]
      have h1 := (List.getElem?_eq_some_iff.mp e).1
      rw [List.length_replicate, List.length_map] at h1
      rw [List.getElem?_replicate] at e ⊢
      rw [if_pos (by rw [List.length_map]; exact h1)] at e
      rw [if_pos (by rw [List.length_map, r.length]; exact h1)]
      cases e
      exact ⟨none, rfl, trivial⟩
section
variable {P : Program} {w : World} {K : PySem.W.Frag} {mg : Str → Option Value} {base : Heap}
theorem fn_out {K : PySem.W.Frag} {mg : Str → Option Value} {F H : Hp} {ρ : List Addr} {S : Store} {N : Nat} {ds : List D} {body : MS} {Q : VK} {E : XK}
    (o : Out (runFn N body ds S) (fun d S' => Post K mg ρ F H S' d Q) (fun c d S' => XPost K mg ρ F H S' c d E)) :
    OutS K mg ⟨H, F, ρ⟩ (fun c d _ S' => XPost K mg ρ F H S' c d E) F ρ (body (ds.map .val ++ List.replicate (N - ds.length) .no) S) { nx := fun _ H' => Q .non H', rt := Q } := by
  unfold runFn at o
  cases e : body (ds.map .val ++ List.replicate (N - ds.length) .no) S with
  | nx σd S' =>
    rw [e] at o
    exact fun σ H' F' ρ' _ rs => o .non H' F' ρ' rs.en rs.w .n
  | bk σd S' =>
    rw [e] at o
    exact o.elim
  | ct σd S' =>
    rw [e] at o
    exact o.elim
  | ret d S' =>
    rw [e] at o
    exact fun v H' F' ρ' x w r => o v H' F' ρ' x w r
  | exc c d σd S' =>
    rw [e] at o
    exact o
  | bad =>
    rw [e] at o
    exact o
/-- a def that lets nothing out -/
def runFn0 (N : Nat) (body : MS) : Fn := fun ds S => match body (ds.map .val ++ List.replicate (N - ds.length) .no) S with
  | .nx _ S' => .ok .non S'
  | .ret d S' => .ok d S'
  | _ => .bad
theorem fn_out0 {K : PySem.W.Frag} {mg : Str → Option Value} {F H : Hp} {ρ : List Addr} {S : Store} {N : Nat} {ds : List D} {body : MS} {Q : VK} {W' : Str → D → Store → Prop}
    (o : Out (runFn0 N body ds S) (fun d S' => Post K mg ρ F H S' d Q) W') :
    OutS K mg ⟨H, F, ρ⟩ WN F ρ (body (ds.map .val ++ List.replicate (N - ds.length) .no) S) { nx := fun _ H' => Q .non H', rt := Q } := by
  unfold runFn0 at o
  cases e : body (ds.map .val ++ List.replicate (N - ds.length) .no) S with
  | nx σd S' =>
    rw [e] at o
    exact fun σ H' F' ρ' _ rs => o .non H' F' ρ' rs.en rs.w .n
  | bk σd S' =>
    rw [e] at o
    exact o.elim
  | ct σd S' =>
    rw [e] at o
    exact o.elim
  | ret d S' =>
    rw [e] at o
    exact fun v H' F' ρ' x w r => o v H' F' ρ' x w r
  | exc c d σd S' =>
    rw [e] at o
    exact o.elim
  | bad =>
    rw [e] at o
    exact o
theorem fn_ok {x qual : Str} {st : Stmt} {f : Addr} {fd : FuncData} {N ps : List Str} {k np : Nat} {body : MS} (F : Fun K x qual st f fd) (S : FnScope N ps (defScope st)) (hp : ps.length = np) (hmg : mg x = some (.ref f))
    (hb : ∀ (kV doc pm : Value) (an : Option Addr) (cdv ct : Value) (us : List Value), us.length = ps.length → bindArgs (PySem.W.fnOf x qual (defArgs st) (defBody st) (defScope st) .none kV doc pm an cdv ct) ⟨us, []⟩ = pure (ps.zip us))
    (hbody : ∀ (cdv : Value) (A : Around) (outer : List Env) (s : Shared) (H : Hp) (E : XK) (n : En), RoomG k (A.deeper (envOfC qual (defScope st) s.heap.objs.size f cdv)) →
      DSs (cxOf CX0 P w K mg base N qual (defScope st) f cdv A outer s H E).nox n WN body (defBody st)) :
    FnD P w K mg base CX0 x (k + 1) np (runFn0 N.length body) := by
  refine ⟨f, fd, ps, hp, fnG_of F S (fun vs H Q E h => h.1) (fun cdv A outer s H vs Q E hr h => ?_), hmg, F.kp, F.binds hb⟩
  obtain ⟨hl, F0, ρ, S0, ds, w0, r, o⟩ := h
  exact ⟨_, hbody cdv A outer s H E ⟨H, F0, ρ⟩ hr, F0, ρ, _, S0, rs_start w0 r, fn_out0 o⟩
end
end PL

set_option Elab.async false
set_option linter.all false
set_option maxRecDepth 100000
set_option maxHeartbeats 4000000
namespace PL
open PySem PySem.Spec PyProof.Rows L2

theorem mem_ne {a b : Addr} {l : List Addr} (h : a ∉ l) (hb : b ∈ l) : b ≠ a := fun z => h (z ▸ hb)
/-! ### the slots that own their object -/
section
variable {K : PySem.W.Frag} {mg : Str → Option Value} {n : En} {F H : Hp} {ρ : List Addr} {σd : Sls} {S : Store} {σ : L2.St}
theorem SlOk.own {s : Sl} {x : Option V} (h : SlOk K F H ρ s x) (hs : s.owns = true) : ∃ a o, x = some (.ref a) ∧ H a = some o ∧ F a = none ∧ a ∉ ρ := by
  cases s with
  | no => cases hs
  | val d => cases hs
  | uq ds =>
    obtain ⟨a, vs, e, h1, h2, h3, _⟩ := h
    exact ⟨a, _, e, h1, h2, h3⟩
  | uK ks ds =>
    obtain ⟨a, vs, e, h1, h2, h3, _⟩ := h
    exact ⟨a, _, e, h1, h2, h3⟩
  | uT ks ds =>
    obtain ⟨a, vs, e, h1, h2, h3, _⟩ := h
    exact ⟨a, _, e, h1, h2, h3⟩
theorem RS.own (r : RS K mg n F H ρ σd S σ) {i : Nat} {a : Addr} (h : Own σd σ i a) : (∃ o, H a = some o) ∧ F a = none ∧ a ∉ ρ := by
  obtain ⟨⟨s, e, hs⟩, e2⟩ := h
  obtain ⟨x, e3, ok⟩ := r.sl i s e
  obtain ⟨a', o, rfl, h1, h2, h3⟩ := ok.own hs
  rw [e2] at e3
  cases e3
  exact ⟨⟨o, h1⟩, h2, h3⟩
theorem SlOk.off {s : Sl} {x : Option V} {a : Addr} {o' : HO} (h : SlOk K F H ρ s x) (ha : s.owns = true → x ≠ some (.ref a)) (hc : ∀ b ∈ ρ, b ≠ a) : SlOk K F (upd H a o') ρ s x := by
  have go : ∀ {b : Addr} {u : HO}, H b = some u → b ≠ a → upd H a o' b = some u := fun h1 hb => by rw [upd_ne hb]; exact h1
  cases s with
  | no => trivial
  | val d => exact h
  | uq ds =>
    obtain ⟨b, vs, e, h1, h2, h3, h4⟩ := h
    exact ⟨b, vs, e, go h1 (fun z => ha rfl (by rw [e, z])), h2, h3, h4⟩
  | uK ks ds =>
    obtain ⟨b, vs, e, h1, h2, h3, h4⟩ := h
    exact ⟨b, vs, e, go h1 (fun z => ha rfl (by rw [e, z])), h2, h3, h4⟩
  | uT ks ds =>
    obtain ⟨b, vs, e, h1, h2, h3, h4⟩ := h
    exact ⟨b, vs, e, go h1 (fun z => ha rfl (by rw [e, z])), h2, h3, h4⟩
theorem W0.off_upd (w : W0 K mg F H ρ S) {a : Addr} {o' : HO} (hf : F a = none) (hr : a ∉ ρ) : W0 K mg F (upd H a o') ρ S := by
  refine ⟨fun b o h => ?_, w.len, w.nd, w.off, fun m b c h1 h2 => ?_⟩
  · rw [upd_ne (ne_of_none h hf)]
    exact w.fh b o h
  · refine CellOk.mono (fun _ _ z => z) ⟨[], by simp⟩ (upd_ne fun z => ?_) (w.cell m b c h1 h2)
    subst z
    exact hr (List.mem_of_getElem? h1)
/-- the object of slot i is changed -/
theorem RS.mut (r : RS K mg n F H ρ σd S σ) {i : Nat} {s s' : Sl} {a : Addr} {o' : HO} (hi : σd[i]? = some s) (hs : s.owns = true) (ha : σ[i]? = some (some (.ref a))) (hs' : s'.owns = true)
    (hok : SlOk K F (upd H a o') ρ s' (some (.ref a))) : RS K mg n F (upd H a o') ρ (σd.set i s') S σ := by
  have hO : Own σd σ i a := ⟨⟨s, hi, hs⟩, ha⟩
  obtain ⟨⟨o, h1⟩, h2, h3⟩ := r.own hO
  have hnew := r.new i a hO
  have hl : i < σd.length := (List.getElem?_eq_some_iff.mp hi).1
  have own_of : ∀ j b, Own (σd.set i s') σ j b → Own σd σ j b := fun j b ⟨⟨t, e, ht⟩, e2⟩ => by
    by_cases hij : i = j
    · subst hij
      exact ⟨⟨s, hi, hs⟩, e2⟩
    · rw [List.getElem?_set_ne hij] at e
      exact ⟨⟨t, e, ht⟩, e2⟩
  refine ⟨r.w.off_upd h2 h3, by rw [List.length_set]; exact r.len, fun j t e => ?_, fun p q b hpq e1 e2 => r.one p q b hpq (own_of _ _ e1) (own_of _ _ e2), fun p b e => r.new p b (own_of _ _ e), ?_⟩
  · by_cases hij : i = j
    · subst hij
      rw [List.getElem?_set_self hl] at e
      cases e
      exact ⟨_, ha, hok⟩
    · rw [List.getElem?_set_ne hij] at e
      obtain ⟨x, e1, ok⟩ := r.sl j t e
      refine ⟨x, e1, ok.off (fun ht z => ?_) fun b hb z => h3 (z ▸ hb)⟩
      rw [z] at e1
      exact r.one i j a hij hO ⟨⟨t, e, ht⟩, e1⟩
  · obtain ⟨e1, e2, e3, e4, e5⟩ := r.en
    refine ⟨e1, e2, e3, fun b u hb hn => ?_, fun b hb => ?_⟩
    · have hba : b ≠ a := ne_of_none hb hnew
      rw [upd_ne hba]
      exact e4 b u hb hn
    · by_cases hba : b = a
      · rw [hba]; exact hnew
      · rw [upd_ne hba] at hb
        exact e5 b hb
/-- a new object that slot i owns -/
theorem RS.setU (r : RS K mg n F H ρ σd S σ) {i : Nat} {s : Sl} {p : Addr} {o : HO} (hp : H p = none) (hok : SlOk K F (upd H p o) ρ s (some (.ref p))) : RS K mg n F (upd H p o) ρ (σd.set i s) S (σ.set i (some (.ref p))) := by
  have hnew : n.H p = none := r.en.live p hp
  have own_of : ∀ j b, Own (σd.set i s) (σ.set i (some (.ref p))) j b → (j = i ∧ b = p) ∨ (j ≠ i ∧ Own σd σ j b) := fun j b ⟨⟨t, e, ht⟩, e2⟩ => by
    by_cases hij : i = j
    · subst hij
      have hl : i < (σ.set i (some (.ref p))).length := (List.getElem?_eq_some_iff.mp e2).1
      rw [List.length_set] at hl
      rw [List.getElem?_set_self hl] at e2
      cases e2
      exact .inl ⟨rfl, rfl⟩
    · rw [List.getElem?_set_ne hij] at e e2
      exact .inr ⟨fun z => hij z.symm, ⟨t, e, ht⟩, e2⟩
  have old : ∀ j b, Own σd σ j b → b ≠ p := fun j b h z => by
    obtain ⟨⟨u, hu⟩, _⟩ := r.own h
    rw [z, hp] at hu
    cases hu
  refine ⟨w0_junk r.w hp, by rw [List.length_set, List.length_set]; exact r.len, fun j t e => ?_, fun x y b hxy h1 h2 => ?_, fun x b h => ?_, r.en.trans (ext_junk hp)⟩
  · by_cases hij : i = j
    · subst hij
      have hl : i < (σd.set i s).length := (List.getElem?_eq_some_iff.mp e).1
      rw [List.length_set] at hl
      rw [List.getElem?_set_self hl] at e
      cases e
      exact ⟨_, List.getElem?_set_self (by rw [r.len]; exact hl), hok⟩
    · rw [List.getElem?_set_ne hij] at e ⊢
      obtain ⟨x, e1, ok⟩ := r.sl j t e
      exact ⟨x, e1, ok.next (ext_junk hp)⟩
  · rcases own_of _ _ h1 with ⟨e1, e2⟩ | ⟨e1, e2⟩ <;> rcases own_of _ _ h2 with ⟨e3, e4⟩ | ⟨e3, e4⟩
    · exact hxy (e1.trans e3.symm)
    · exact old _ _ e4 e2
    · exact old _ _ e2 e4
    · exact r.one x y b hxy e2 e4
  · rcases own_of _ _ h with ⟨e1, e2⟩ | ⟨e1, e2⟩
    · rw [e2]; exact hnew
    · exact r.new x b e2
/-- from now on the object of slot i stays as it is -/
def frzSl : Sl → Sl
  | .uq ds => .val (.lst ds)
  | .uK ks ds => .val (.dK ks ds)
  | .uT ks ds => .val (.dT ks ds)
  | s => s
theorem RS.frz (r : RS K mg n F H ρ σd S σ) {i : Nat} {s : Sl} (hi : σd[i]? = some s) : ∃ F', RS K mg n F' H ρ (σd.set i (frzSl s)) S σ ∧ (∀ a o, F a = some o → F' a = some o) := by
  have hl : i < σd.length := (List.getElem?_eq_some_iff.mp hi).1
  have same : σd.set i s = σd := by
    apply List.ext_getElem?
    intro j
    by_cases hij : i = j
    · subst hij
      rw [List.getElem?_set_self hl, hi]
    · rw [List.getElem?_set_ne hij]
  have go : ∀ (a : Addr) (o : HO) (d : D), Own σd σ i a → σ[i]? = some (some (.ref a)) → H a = some o → Rep K (upd F a o) ρ d (.ref a) → RS K mg n (upd F a o) H ρ (σd.set i (.val d)) S σ := fun a o d hO ha h1 hr => by
    obtain ⟨_, h2, h3⟩ := r.own hO
    have hnew := r.new i a hO
    have fle : ∀ b u, F b = some u → upd F a o b = some u := fun b u hb => by rw [upd_ne (ne_of_none hb h2)]; exact hb
    have own_of : ∀ j b, Own (σd.set i (.val d)) σ j b → j ≠ i ∧ Own σd σ j b := fun j b ⟨⟨t, e, ht⟩, e2⟩ => by
      by_cases hij : i = j
      · subst hij
        rw [List.getElem?_set_self hl] at e
        cases e
        cases ht
      · rw [List.getElem?_set_ne hij] at e
        exact ⟨fun z => hij z.symm, ⟨t, e, ht⟩, e2⟩
    refine ⟨⟨fun b u hb => ?_, r.w.len, r.w.nd, fun b hb => ?_, fun m b c e1 e2 => CellOk.mono fle ⟨[], by simp⟩ rfl (r.w.cell m b c e1 e2)⟩, by rw [List.length_set]; exact r.len, fun j t e => ?_, fun x y b hxy e1 e2 => r.one x y b hxy (own_of _ _ e1).2 (own_of _ _ e2).2, fun x b e => r.new x b (own_of _ _ e).2, ?_⟩
    · by_cases hba : b = a
      · rw [hba, upd_same] at hb
        rw [hba, h1]
        exact hb
      · rw [upd_ne hba] at hb
        exact r.w.fh b u hb
    · rw [upd_ne (mem_ne h3 hb)]
      exact r.w.off b hb
    · by_cases hij : i = j
      · subst hij
        rw [List.getElem?_set_self hl] at e
        cases e
        exact ⟨_, ha, _, rfl, hr⟩
      · rw [List.getElem?_set_ne hij] at e
        obtain ⟨x, e1, ok⟩ := r.sl j t e
        refine ⟨x, e1, ?_⟩
        have up : ∀ {ds : List D} {vs : List V}, Reps K F ρ ds vs → Reps K (upd F a o) ρ ds vs := fun h => Reps.mono fle ⟨[], by simp⟩ _ _ h
        have ne : ∀ {b : Addr}, t.owns = true → x = some (.ref b) → F b = none → upd F a o b = none := fun {b} ht hx hf => by
          rw [upd_ne]
          · exact hf
          · intro z
            subst z
            rw [hx] at e1
            exact r.one i j b hij hO ⟨⟨t, e, ht⟩, e1⟩
        cases t with
        | no => trivial
        | val d' =>
          obtain ⟨v, e2, h4⟩ := ok
          exact ⟨v, e2, Rep.mono fle ⟨[], by simp⟩ _ _ h4⟩
        | uq ds =>
          obtain ⟨b, vs, e2, k1, k2, k3, k4, k5⟩ := ok
          exact ⟨b, vs, e2, k1, ne rfl e2 k2, k3, up k4, k5⟩
        | uK ks ds =>
          obtain ⟨b, vs, e2, k1, k2, k3, k4, k5⟩ := ok
          exact ⟨b, vs, e2, k1, ne rfl e2 k2, k3, up k4, k5⟩
        | uT ks ds =>
          obtain ⟨b, vs, e2, k1, k2, k3, k4, k5⟩ := ok
          exact ⟨b, vs, e2, k1, ne rfl e2 k2, k3, up k4, k5⟩
    · obtain ⟨e1, e2, e3, e4, e5⟩ := r.en
      refine ⟨fun b u hb => fle b u (e1 b u hb), fun b u hb => ?_, e3, e4, e5⟩
      by_cases hba : b = a
      · rw [hba]; exact .inr hnew
      · rw [upd_ne hba] at hb
        exact e2 b u hb
  have mono : ∀ (a : Addr) (o : HO), F a = none → ∀ b u, F b = some u → upd F a o b = some u := fun a o h2 b u hb => by rw [upd_ne (ne_of_none hb h2)]; exact hb
  cases s with
  | no => exact ⟨F, by rw [show frzSl .no = .no from rfl, same]; exact r, fun _ _ z => z⟩
  | val d => exact ⟨F, by rw [show frzSl (.val d) = .val d from rfl, same]; exact r, fun _ _ z => z⟩
  | uq ds =>
    obtain ⟨x, e, a, vs, rfl, h1, h2, h3, h4, h5⟩ := r.sl i _ hi
    refine ⟨upd F a (.lst vs), go a (.lst vs) (.lst ds) ⟨⟨_, hi, rfl⟩, e⟩ e h1 (.l (.inl (.inl upd_same)) (Reps.mono (mono a _ h2) ⟨[], by simp⟩ _ _ h4) h5), mono a _ h2⟩
  | uK ks ds =>
    obtain ⟨x, e, a, vs, rfl, h1, h2, h3, h4, h5⟩ := r.sl i _ hi
    refine ⟨upd F a (.dK (ks.zip vs)), go a _ (.dK ks ds) ⟨⟨_, hi, rfl⟩, e⟩ e h1 (.k upd_same (Reps.mono (mono a _ h2) ⟨[], by simp⟩ _ _ h4) h5), mono a _ h2⟩
  | uT ks ds =>
    obtain ⟨x, e, a, vs, rfl, h1, h2, h3, h4, h5⟩ := r.sl i _ hi
    refine ⟨upd F a (.dT (ks.zip vs)), go a _ (.dT ks ds) ⟨⟨_, hi, rfl⟩, e⟩ e h1 (.kt upd_same (Reps.mono (mono a _ h2) ⟨[], by simp⟩ _ _ h4) h5), mono a _ h2⟩
/-- a store cell is changed -/
theorem W0.mut (w : W0 K mg F H ρ S) {m : Nat} {a : Addr} {o' : HO} {c : Cell} (ha : ρ[m]? = some a) (hc : CellOk K mg F (upd H a o') ρ a c) : W0 K mg F (upd H a o') ρ (S.set m c) := by
  have hm : m < ρ.length := (List.getElem?_eq_some_iff.mp ha).1
  have hf := w.off a (List.mem_of_getElem? ha)
  refine ⟨fun b o h => ?_, by rw [List.length_set]; exact w.len, w.nd, w.off, fun j b c' h1 h2 => ?_⟩
  · rw [upd_ne (ne_of_none h hf)]
    exact w.fh b o h
  · by_cases hjm : m = j
    · subst hjm
      rw [List.getElem?_set_self (by rw [← w.len]; exact hm)] at h2
      cases h2
      rw [ha] at h1
      cases h1
      exact hc
    · rw [List.getElem?_set_ne hjm] at h2
      refine CellOk.mono (fun _ _ z => z) ⟨[], by simp⟩ (upd_ne fun z => ?_) (w.cell j b c' h1 h2)
      subst z
      obtain ⟨l1, e1⟩ := List.getElem?_eq_some_iff.mp ha
      obtain ⟨l2, e2⟩ := List.getElem?_eq_some_iff.mp h1
      exact hjm ((List.getElem_inj w.nd).mp (e1.trans e2.symm))
theorem ext_mut {a : Addr} {o' : HO} (hm : a ∈ ρ) (ht : H a ≠ none) : Ext ρ F H ρ F (upd H a o') :=
  ⟨fun _ _ h => h, fun _ _ h => .inl h, ⟨[], by simp, by simp⟩, fun b o h hn => by rw [upd_ne (mem_ne hn hm).symm]; exact h,
   fun b h => by
    by_cases e : b = a
    · rw [e, upd_same] at h
      cases h
    · rw [upd_ne e] at h
      exact h⟩
end

/-! ### statements -/
section
variable {X : Cx} {n : En} {W : WS} {pos : Pos}
def mSkip : MS := fun σ S => .nx σ S
def mSeq (a b : MS) : MS := fun σ S => (a σ S).next b
theorem ss_nil : DSs X n W mSkip [] := by
  refine PSs.weak pss_nil fun E σ H q => ?_
  obtain ⟨F, ρ, σd, S, rs, o⟩ := q
  exact o σ H F ρ (.refl _ _) rs
theorem outs_seq {F0 : Hp} {ρ0 : List Addr} {a : Fl} {b : MS} {E : Ends} (o : OutS X.K X.mg n W F0 ρ0 (a.next b) E) : OutS X.K X.mg n W F0 ρ0 a { E with nx := tMS X.K X.mg n W b E } := by
  cases a with
  | nx σd S => exact fun σ H F ρ y rs => ⟨F, ρ, σd, S, rs, o.mon y⟩
  | bk _ _ => exact o
  | ct _ _ => exact o
  | ret _ _ => exact o
  | exc _ _ _ _ => exact o
  | bad => exact o
theorem ss_cons {ma mb : MS} {st : Stmt} {rest : List Stmt} (h1 : DS X n W ma st) (h2 : DSs X n W mb rest) : DSs X n W (mSeq ma mb) (st :: rest) := by
  refine PSs.weak (pss_cons h1 h2) fun E σ H q => ?_
  obtain ⟨F, ρ, σd, S, rs, o⟩ := q
  exact ⟨F, ρ, σd, S, rs, outs_seq o⟩
theorem ss_one {m : MS} {st : Stmt} (h : DS X n W m st) : DSs X n W m [st] := pss_one h
/-- code that is never reached -/
def mNever : MS := fun _ _ => .bad
theorem st_never {st : Stmt} : DS X n W mNever st := PS.weak ps_never fun E σ H q => by
  obtain ⟨F, ρ, σd, S, rs, o⟩ := q
  exact o
theorem ss_never {sts : List Stmt} : DSs X n W mNever sts := PSs.weak pss_never fun E σ H q => by
  obtain ⟨F, ρ, σd, S, rs, o⟩ := q
  exact o
def mFrz (i : Nat) : MS := fun σ S => match σ[i]? with
  | some s => .nx (σ.set i (frzSl s)) S
  | none => .bad
theorem ss_frz (i : Nat) {m : MS} {sts : List Stmt} (h : DSs X n W m sts) : DSs X n W (mSeq (mFrz i) m) sts := by
  refine PSs.weak h fun E σ H q => ?_
  obtain ⟨F, ρ, σd, S, rs, o⟩ := q
  unfold mSeq mFrz at o
  cases e : σd[i]? with
  | none =>
    rw [e] at o
    exact o.elim
  | some s =>
    rw [e] at o
    obtain ⟨F', rs', hm⟩ := rs.frz e
    exact ⟨F', ρ, _, S, rs', o.mon ⟨hm, [], by simp⟩⟩
def Fl.of (r : R D) (σ : Sls) (k : D → Store → Fl) : Fl := match r with
  | .ok d S => k d S
  | .exc c d S => .exc c d σ S
  | .bad => .bad
theorem outs_of {F0 : Hp} {ρ0 : List Addr} {r : R D} {σd : Sls} {k : D → Store → Fl} {E : Ends} (o : OutS X.K X.mg n W F0 ρ0 (Fl.of r σd k) E) : Out r (fun d S' => OutS X.K X.mg n W F0 ρ0 (k d S') E) (fun c d S' => W c d σd S') := by
  cases r with
  | ok d S => exact o
  | exc c d S => exact o
  | bad => exact o
def mSet (i : Nat) (m : M) : MS := fun σ S => Fl.of (m σ S) σ fun d S1 => .nx (σ.set i (.val d)) S1
theorem st_set (i : Nat) {x : Str} {e : Expr} {m : M} {pos' : Pos} (he : DE X n W m e) (hN : X.N.Nodup) (hi : X.N[i]? = some x := by rfl) (hx : Loc X.env.scope x := by first | exact .inl rfl | exact .inr rfl) (hs : swapsWith e (some (.Name x pos')) pos.line X.env = pure false := by rfl)
    (hf : X.fn x = true ∨ X.env.scope.names.lookup x = some .local := by first | exact .inl rfl | exact .inr rfl | assumption) : DS X n W (mSet i m) (.Assign [.Name x pos'] e pos) := by
  refine PS.weak (ps_set (i := i) hN hi hx he hs hf) fun E σ H q => ?_
  obtain ⟨F, ρ, σd, S, rs, o⟩ := q
  exact ⟨F, ρ, σd, S, rs, (outs_of o).imp fun d S1 o1 v H1 F1 ρ1 x1 w1 r1 => o1 _ H1 F1 ρ1 x1.mon ((rs.next x1 w1).set r1)⟩
/-- a list display that the name owns -/
def mSetU (i : Nat) (a : MA) : MS := fun σ S => match a σ S with
  | .ok ds S1 => .nx (σ.set i (.uq ds)) S1
  | .exc c d S1 => .exc c d σ S1
  | .bad => .bad
theorem st_setU (i : Nat) {x : Str} {es : List Expr} {ma : MA} {pos' p2 : Pos} {k : Nat} [l : Len ma k] (he : DA X n W ma es) (hN : X.N.Nodup) (hk : k ≤ 1000 := by decide) (hi : X.N[i]? = some x := by rfl) (hx : Loc X.env.scope x := by first | exact .inl rfl | exact .inr rfl)
    (hs : swapsWith (.List es p2) (some (.Name x pos')) pos.line X.env = pure false := by rfl)
    (hf : X.fn x = true ∨ X.env.scope.names.lookup x = some .local := by first | exact .inl rfl | exact .inr rfl | assumption) : DS X n W (mSetU i ma) (.Assign [.Name x pos'] (.List es p2) pos) := by
  refine PS.weak (ps_set (i := i) hN hi hx (pe_lst he) hs hf) fun E σ H q => ?_
  obtain ⟨F, ρ, σd, S, rs, o⟩ := q
  refine ⟨F, ρ, σd, S, rs, ?_⟩
  unfold mSetU at o
  cases e : ma σd S with
  | ok ds S1 =>
    rw [e] at o
    intro vs H1 F1 ρ1 x1 w1 r1
    have hl : ds.length ≤ sizeLine := by rw [l.len _ _ _ _ e]; exact small_line hk
    refine ⟨by rw [r1.length]; exact hl, fun p hp => o _ _ F1 ρ1 x1.mon ((rs.next x1 w1).setU hp ⟨p, vs, rfl, upd_same, w1.fnone hp, fun hm => w1.there hm hp, r1, hl⟩)⟩
  | exc c d S1 =>
    rw [e] at o
    exact o
  | bad =>
    rw [e] at o
    exact o
def mDrop (m : M) : MS := fun σ S => Fl.of (m σ S) σ fun _ S1 => .nx σ S1
theorem st_drop {e : Expr} {m : M} (he : DE X n W m e) (hs : swapsWith e none pos.line X.env = pure false := by rfl) : DS X n W (mDrop m) (.Expr e pos) := by
  refine PS.weak (ps_expr he hs) fun E σ H q => ?_
  obtain ⟨F, ρ, σd, S, rs, o⟩ := q
  exact ⟨F, ρ, σd, S, rs, (outs_of o).imp fun d S1 o1 v H1 F1 ρ1 x1 w1 r1 => o1 _ H1 F1 ρ1 x1.mon (rs.next x1 w1)⟩
def mRet (m : M) : MS := fun σ S => Fl.of (m σ S) σ fun d S1 => .ret d S1
theorem st_ret {e : Expr} {m : M} (he : DE X n W m e) : DS X n W (mRet m) (.Return (some e) pos) := by
  refine PS.weak (ps_ret he) fun E σ H q => ?_
  obtain ⟨F, ρ, σd, S, rs, o⟩ := q
  exact ⟨F, ρ, σd, S, rs, (outs_of o).imp fun d S1 o1 v H1 F1 ρ1 x1 w1 r1 => o1 v H1 F1 ρ1 (rs.en.trans x1) w1 r1⟩
def mRetN : MS := fun _ S => .ret .non S
theorem st_retN : DS X n W mRetN (.Return none pos) := by
  refine PS.weak ps_retN fun E σ H q => ?_
  obtain ⟨F, ρ, σd, S, rs, o⟩ := q
  exact o .non H F ρ rs.en rs.w .n
def mIfS (c : MB) (a b : MS) : MS := fun σ S => match c σ S with
  | .ok true S1 => a σ S1
  | .ok false S1 => b σ S1
  | .exc c d S1 => .exc c d σ S1
  | .bad => .bad
theorem st_if {c : Expr} {mc : MB} {ma mb : MS} {a b : List Stmt} (hc : DT X n W mc c) (ha : DSs X n W ma a) (hb : DSs X n W mb b) : DS X n W (mIfS mc ma mb) (.If c a b pos) := by
  refine PS.weak (ps_if hc ha hb) fun E σ H q => ?_
  obtain ⟨F, ρ, σd, S, rs, o⟩ := q
  refine ⟨F, ρ, σd, S, rs, ?_⟩
  unfold mIfS at o
  cases e : mc σd S with
  | ok b S1 =>
    rw [e] at o
    intro H1 F1 ρ1 x1 w1
    cases b with
    | true => exact ⟨F1, ρ1, σd, S1, rs.next x1 w1, o.mon x1.mon⟩
    | false => exact ⟨F1, ρ1, σd, S1, rs.next x1 w1, o.mon x1.mon⟩
  | exc c d S1 =>
    rw [e] at o
    exact o
  | bad =>
    rw [e] at o
    exact o
def mBrk : MS := fun σ S => .bk σ S
def mCont : MS := fun σ S => .ct σ S
theorem st_pass : DS X n W mSkip (.Pass pos) := PS.weak ps_pass fun E σ H q => by
  obtain ⟨F, ρ, σd, S, rs, o⟩ := q
  exact o σ H F ρ (.refl _ _) rs
theorem st_brk : DS X n W mBrk (.Break pos) := PS.weak ps_break fun E σ H q => by
  obtain ⟨F, ρ, σd, S, rs, o⟩ := q
  exact o σ H F ρ (.refl _ _) rs
theorem st_cont : DS X n W mCont (.Continue pos) := PS.weak ps_continue fun E σ H q => by
  obtain ⟨F, ρ, σd, S, rs, o⟩ := q
  exact o σ H F ρ (.refl _ _) rs

/-! ### targets of names -/
abbrev MG := D → Sls → Option Sls
abbrev MGs := List D → Sls → Option Sls
/-- the slots is, and no others, have changed -/
def Off (is : List Nat) (σ σ' : L2.St) : Prop := σ'.length = σ.length ∧ ∀ j, j ∉ is → σ'[j]? = σ[j]?
theorem Off.refl (is : List Nat) (σ : L2.St) : Off is σ σ := ⟨rfl, fun _ _ => rfl⟩
theorem Off.trans {is js : List Nat} {σ σ1 σ2 : L2.St} (a : Off is σ σ1) (b : Off js σ1 σ2) : Off (is ++ js) σ σ2 :=
  ⟨b.1.trans a.1, fun j h => (b.2 j fun z => h (List.mem_append_right _ z)).trans (a.2 j fun z => h (List.mem_append_left _ z))⟩
def tMG (K : PySem.W.Frag) (mg : Str → Option Value) (n : En) (is : List Nat) (m : MG) : TG := fun v σ H Q => ∃ F ρ σd S d σd', RS K mg n F H ρ σd S σ ∧ Rep K F ρ d v ∧ m d σd = some σd' ∧ ∀ σ', RS K mg n F H ρ σd' S σ' → Off is σ σ' → Q σ' H
def tMGs (K : PySem.W.Frag) (mg : Str → Option Value) (n : En) (is : List Nat) (m : MGs) : TGs := fun vs σ H Q => ∃ F ρ σd S ds σd', RS K mg n F H ρ σd S σ ∧ Reps K F ρ ds vs ∧ m ds σd = some σd' ∧ ∀ σ', RS K mg n F H ρ σd' S σ' → Off is σ σ' → Q σ' H
theorem PG.weak {e : Expr} {t t' : TG} (h : PG X e t) (k : ∀ v σ H Q, t' v σ H Q → t v σ H Q) : PG X e t' := ⟨fun pins s σ H v u Q I r q => h.run pins s σ H v u Q I r (k v σ H Q q)⟩
theorem PGs.weak {e : List Expr} {t t' : TGs} (h : PGs X e t) (k : ∀ v σ H Q, t' v σ H Q → t v σ H Q) : PGs X e t' := ⟨fun pins s σ H v u Q I r q => h.run pins s σ H v u Q I r (k v σ H Q q)⟩
abbrev DG (X : Cx) (n : En) (is : List Nat) (m : MG) (e : Expr) : Prop := PG X e (tMG X.K X.mg n is m)
abbrev DGs (X : Cx) (n : En) (is : List Nat) (m : MGs) (e : List Expr) : Prop := PGs X e (tMGs X.K X.mg n is m)
def gN (i : Nat) : MG := fun d σ => some (σ.set i (.val d))
def gsNil : MGs := fun ds σ => if ds.isEmpty then some σ else none
def gsCons (g : MG) (r : MGs) : MGs := fun ds σ => match ds with
  | d :: ds => (g d σ).bind (r ds)
  | [] => none
def gT (r : MGs) : MG := fun d σ => match d with
  | .tup ds => r ds σ
  | _ => none
theorem dg_name (i : Nat) {x : Str} (hN : X.N.Nodup) (hi : X.N[i]? = some x := by rfl) (hx : Loc X.env.scope x := by first | exact .inl rfl | exact .inr rfl)
    (hf : X.fn x = true ∨ X.env.scope.names.lookup x = some .local := by first | exact .inl rfl | exact .inr rfl | assumption) : DG X n [i] (gN i) (.Name x pos) := by
  refine PG.weak (pg_name (i := i) hN hi hx hf) fun v σ H Q q => ?_
  obtain ⟨F, ρ, σd, S, d, σd', rs, r, e, k⟩ := q
  cases e
  exact k _ (rs.set r) ⟨List.length_set, fun j hj => List.getElem?_set_ne (fun z => hj (by rw [z]; exact List.mem_singleton_self _))⟩
theorem dgs_nil : DGs X n [] gsNil [] := by
  refine PGs.weak pgs_nil fun v σ H Q q => ?_
  obtain ⟨F, ρ, σd, S, ds, σd', rs, r, e, k⟩ := q
  unfold gsNil at e
  cases ds with
  | nil =>
    cases e
    unfold Reps at r
    exact ⟨r, k _ rs (.refl _ _)⟩
  | cons d ds => cases e
theorem dgs_cons {is js : List Nat} {g : MG} {r : MGs} {e : Expr} {es : List Expr} (h1 : DG X n is g e) (h2 : DGs X n js r es) (hs : (assignEach (e :: es) X.env).map (·.2) = assign e X.env :: (assignEach es X.env).map (·.2) := by rfl) : DGs X n (is ++ js) (gsCons g r) (e :: es) := by
  refine PGs.weak (pgs_cons h1 h2 hs) fun v σ H Q q => ?_
  obtain ⟨F, ρ, σd, S, ds, σd', rs, rr, e, k⟩ := q
  cases ds with
  | nil => cases e
  | cons d ds =>
    simp only [gsCons] at e
    unfold Reps at rr
    obtain ⟨u, us, rfl, r1, r2⟩ := rr
    cases e1 : g d σd with
    | none =>
      rw [e1] at e
      cases e
    | some σ1 =>
      rw [e1] at e
      exact ⟨u, us, rfl, F, ρ, σd, S, d, σ1, rs, r1, e1, fun σ' rs' o1 => ⟨F, ρ, σ1, S, ds, σd', rs', r2, e, fun σ2 rs2 o2 => k σ2 rs2 (o1.trans o2)⟩⟩
class LenG (m : MGs) (k : outParam Nat) : Prop where
  len : ∀ ds σ σ', m ds σ = some σ' → ds.length = k
instance : LenG gsNil 0 := ⟨fun ds σ σ' h => by
  unfold gsNil at h
  cases ds with
  | nil => rfl
  | cons _ _ => cases h⟩
instance {g : MG} {r : MGs} {k : Nat} [l : LenG r k] : LenG (gsCons g r) (k + 1) := ⟨fun ds σ σ' h => by
  cases ds with
  | nil => cases h
  | cons d ds =>
    simp only [gsCons] at h
    cases e : g d σ with
    | none =>
      rw [e] at h
      cases h
    | some σ1 =>
      rw [e] at h
      rw [List.length_cons, l.len _ _ _ h]⟩
theorem dg_tup {is : List Nat} {r : MGs} {es : List Expr} {k m : Nat} [l : LenG r m] (hc : X.calm = true) (h : DGs X n is r es) (hn : (assignEach es X.env).length = m := by rfl) (hst : (assignEach es X.env).findIdx? (·.1) = none := by rfl) : DG X n is (gT r) (.Tuple es k pos) := by
  refine PG.weak (pg_tup hc h hn hst) fun v σ H Q q => ?_
  obtain ⟨F, ρ, σd, S, d, σd', rs, rr, e, q⟩ := q
  unfold gT at e
  split at e
  · rename_i ds
    obtain ⟨a, vs, rfl, h1, h2, h3⟩ := tup_of rs.w rr
    exact ⟨a, vs, rfl, h1, by rw [h2.length, l.len _ _ _ e], F, ρ, σd, S, ds, σd', rs, h2, e, q⟩
  · cases e
def mAsg (g : MG) (m : M) : MS := fun σ S => Fl.of (m σ S) σ fun d S1 => match g d σ with
  | some σ1 => .nx σ1 S1
  | none => .bad
theorem st_asg {is : List Nat} {g : MG} {m : M} {tg e : Expr} (he : DE X n W m e) (hg : DG X n is g tg) (hs : swapsWithSole [tg] e pos.line X.env = pure false := by rfl) (hw : swappedStores [tg] e X.env = pure none := by rfl)
    (h1 : (assignEach [tg] X.env).map (·.2) = [assign tg X.env] := by rfl) : DS X n W (mAsg g m) (.Assign [tg] e pos) := by
  refine PS.weak (ps_asg he hg hs hw h1) fun E σ H q => ?_
  obtain ⟨F, ρ, σd, S, rs, o⟩ := q
  refine ⟨F, ρ, σd, S, rs, (outs_of o).imp fun d S1 o1 v H1 F1 ρ1 x1 w1 r1 => ?_⟩
  split at o1
  · rename_i σ1 e1
    exact ⟨F1, ρ1, σd, S1, d, σ1, rs.next x1 w1, r1, e1, fun σ' rs' _ => o1 σ' H1 F1 ρ1 x1.mon rs'⟩
  · exact o1.elim
/-- a, b = x, y of two plain names -/
def mPar (i j : Nat) (a : MA) : MS := fun σ S => match a σ S with
  | .ok [d, e] S1 => .nx ((σ.set i (.val d)).set j (.val e)) S1
  | .ok _ _ => .bad
  | .exc c d S1 => .exc c d σ S1
  | .bad => .bad
theorem st_par (i j : Nat) {x y : Str} {a b : Expr} {ma : MA} {px py pt : Pos} {kt k2 pt2} (ha : DA X n W ma [a, b]) (hc : X.calm = true) (hN : X.N.Nodup) (hi : X.N[i]? = some x := by rfl) (hj : X.N[j]? = some y := by rfl) (hij : i ≠ j := by decide)
    (hx : X.env.scope.names.lookup x = some .local := by rfl) (hy : X.env.scope.names.lookup y = some .local := by rfl)
    (hw : swappedStores [.Tuple [.Name x px, .Name y py] kt pt] (.Tuple [a, b] k2 pt2) X.env = pure (some [x, y]) := by rfl)
    (hs : swapsWithSole [.Tuple [.Name x px, .Name y py] kt pt] (.Tuple [a, b] k2 pt2) pos.line X.env = pure false := by rfl) :
    DS X n W (mPar i j ma) (.Assign [.Tuple [.Name x px, .Name y py] kt pt] (.Tuple [a, b] k2 pt2) pos) := by
  refine PS.weak (ps_par hc hN hi hj hij hx hy ha hw hs) fun E σ H q => ?_
  obtain ⟨F, ρ, σd, S, rs, o⟩ := q
  refine ⟨F, ρ, σd, S, rs, ?_⟩
  unfold mPar at o
  cases e : ma σd S with
  | ok ds S1 =>
    rw [e] at o
    intro vs H1 F1 ρ1 x1 w1 r1
    match ds, o, r1 with
    | [d, e], o, r1 =>
      obtain ⟨v, u, rfl, q1, q2⟩ := reps2 r1
      exact ⟨v, u, rfl, o _ H1 F1 ρ1 x1.mon (((rs.next x1 w1).set q1).set q2)⟩
    | [], o, _ => exact o.elim
    | [_], o, _ => exact o.elim
    | _ :: _ :: _ :: _, o, _ => exact o.elim
  | exc c d S1 =>
    rw [e] at o
    exact o
  | bad =>
    rw [e] at o
    exact o

/-! ### stores into lists, append -/
/-- a[i] = e, a list of the store -/
def setS (S : Store) (x i d : D) : Option Store := match x, i with
  | .ref m, .int k => match S[m]? with
    | some (.lst ds) => (ixN ds.length k).map fun j => S.set m (.lst (ds.set j d))
    | _ => none
  | _, _ => none
def mStI (a i e : M) : MS := fun σ S => Fl.of (e σ S) σ fun d S1 => Fl.of (a σ S1) σ fun x S2 => Fl.of (i σ S2) σ fun k S3 => match setS S3 x k d with
  | some S4 => .nx σ S4
  | none => .bad
theorem st_sti {ma mi me : M} {a i e : Expr} {p : Pos} (ha : DE X n W ma a) (hi : DE X n W mi i) (he : DE X n W me e)
    (hs : swapsWithSole [.Subscript a i p] e pos.line X.env = pure false := by rfl) (hw : swappedStores [.Subscript a i p] e X.env = pure none := by rfl)
    (h1 : (assignEach [.Subscript a i p] X.env).map (·.2) = [assign (.Subscript a i p) X.env] := by rfl)
    (hsub : ∀ v, assign (.Subscript a i p) X.env v = (do
      let ov ← holding [v] (eval a X.env)
      let iv ← holding [v, ov] (eval i X.env)
      standAt p
      holding [v, ov, iv] (setItem ov iv v)
      release [v, ov, iv] []) := by intro _; rfl) : DS X n W (mStI ma mi me) (.Assign [.Subscript a i p] e pos) := by
  refine PS.weak (ps_asg he (pg_sub ha hi set_list hsub) hs hw h1) fun E σ H q => ?_
  obtain ⟨F, ρ, σd, S, rs, o⟩ := q
  refine ⟨F, ρ, σd, S, rs, (outs_of o).imp fun d S1 o1 v H1 F1 ρ1 x1 w1 r1 => ⟨F1, ρ1, σd, S1, rs.next x1 w1, (outs_of o1).imp fun x S2 o2 vx H2 F2 ρ2 x2 w2 r2 => ⟨F2, ρ2, σd, S2, (rs.next x1 w1).next x2 w2, (outs_of o2).imp fun k S3 o3 vk H3 F3 ρ3 x3 w3 r3 => ?_⟩⟩⟩
  have rs3 := ((rs.next x1 w1).next x2 w2).next x3 w3
  split at o3
  · rename_i S4 e4
    unfold setS at e4
    split at e4
    · rename_i m k
      split at e4
      · rename_i ds hc
        cases e5 : ixN ds.length k with
        | none =>
          rw [e5] at e4
          cases e4
        | some j =>
          rw [e5] at e4
          cases e4
          obtain ⟨b, rfl, hb⟩ := rep_ref (x3.rep r2)
          obtain ⟨vs, h4, h5, h6⟩ := w3.cell m b _ hb hc
          refine ⟨b, vs, k, j, rfl, rep_int r3, h4, by rw [h5.length]; exact e5, o3 _ _ F3 ρ3 ((x1.mon.trans x2.mon).trans x3.mon) (rs3.next (ext_mut (List.mem_of_getElem? hb) (by rw [h4]; exact fun z => nomatch z)) (w3.mut hb ⟨vs.set j v, upd_same, h5.set (x3.rep (x2.rep r1)) j, by rw [List.length_set]; exact h6⟩))⟩
      · cases e4
    · cases e4
  · exact o3.elim
/-- x.append(e), x a name that owns its list -/
def mApp (i : Nat) (e : M) : MS := fun σ S => match σ[i]? with
  | some (.uq ds) => Fl.of (e σ S) σ fun d S1 => if ds.length < sizeLine then .nx (σ.set i (.uq (ds ++ [d]))) S1 else .bad
  | _ => .bad
theorem pos_app {F' H' : Hp} {ρ' : List Addr} {σd : Sls} {S' : Store} {σ : L2.St} {i : Nat} {ds : List D} {d : D} {v : V} (rs : RS X.K X.mg n F' H' ρ' σd S' σ) (hi : σd[i]? = some (.uq ds)) (r : Rep X.K F' ρ' d v) (hl : ds.length < sizeLine) :
    ∃ a vs, σ[i]? = some (some (.ref a)) ∧ H' a = some (.lst vs) ∧ vs.length = ds.length ∧ RS X.K X.mg n F' (upd H' a (.lst (vs ++ [v]))) ρ' (σd.set i (.uq (ds ++ [d]))) S' σ := by
  obtain ⟨x, e, a, vs, rfl, h1, h2, h3, h4, h5⟩ := rs.sl i _ hi
  exact ⟨a, vs, e, h1, h4.length, rs.mut hi rfl e rfl ⟨a, vs ++ [v], rfl, upd_same, h2, h3, h4.append (.one r), by rw [List.length_append]; exact hl⟩⟩
theorem st_app (i : Nat) {x : Str} {e : Expr} {m : M} {p p2 p3 : Pos} (he : DE X n W m e) (hN : X.N[i]? = some x := by rfl) (hv : Vis X.env.scope x := by first | exact Or.inl rfl | exact Or.inr (Or.inl rfl) | exact Or.inr (Or.inr rfl))
    (hd : (x == ("__debug__" : Str)) = false := by decide) (hcd : (x == ("__classdict__" : Str)) = false := by decide)
    (hb : attributeBase (.Name x p) "append" X.env (eval (.Name x p) X.env) = eval (.Name x p) X.env := by rfl) (hline : (p2.endLine == p3.line) = true := by rfl)
    (hs : starEach [e] X.env = (false, eval e X.env) :: starEach [] X.env := by rfl) (hpl : (backTo p3 (starEach [] X.env)).any (·.1) = false := by rfl)
    (hfew : ((backTo p3 (starEach [e] X.env)).all (fun x => !x.1) && (backToKw p3 (keywordEach [] X.env)).all (fun x => x.1.isSome)
      && decide (([e] : List Expr).length + ([] : List Keyword).length + (if ([] : List Keyword).isEmpty then 0 else 1) < 30)) = true := by rfl)
    (hsw : swapsWith (.Call (.Attribute (.Name x p) "append" p2) [e] [] p3) none pos.line X.env = pure false := by rfl) :
    DS X n W (mApp i m) (.Expr (.Call (.Attribute (.Name x p) "append" p2) [e] [] p3) pos) := by
  refine PS.weak (ps_expr (pe_bm PySem.F.plainAttrs_list PySem.F.slot_list_append PySem.F.type_list_append mt_append (pe_var hN hv hd hcd) (pa_cons he pa_nil hs) hb hfew hline hs hpl) hsw) fun E σ H q => ?_
  obtain ⟨F, ρ, σd, S, rs, o⟩ := q
  unfold mApp at o
  split at o
  · rename_i ds hi
    obtain ⟨x', e0, a0, vs0, rfl, k1, k2, k3, k4, k5⟩ := rs.sl i _ hi
    refine ⟨.ref a0, e0, .inl ⟨rfl, _, .inl (.inl k1)⟩, F, ρ, σd, S, rs, (outs_of o).imp fun d S1 o1 v H1 F1 ρ1 x1 w1 r1 => ?_⟩
    split at o1
    · rename_i hl
      obtain ⟨a, vs, h1, h2, h3, h4⟩ := pos_app (rs.next x1 w1) hi r1 hl
      rw [e0] at h1
      cases h1
      exact ⟨_, vs, v, rfl, rfl, h2, by rw [h3]; exact hl, o1 _ _ F1 ρ1 x1.mon h4⟩
    · exact o1.elim
  · exact o.elim
end
end PL

set_option Elab.async false
set_option linter.all false
set_option maxRecDepth 100000
set_option maxHeartbeats 4000000
namespace PL
open PySem PySem.Spec PyProof.Rows L2

abbrev MI := Sls → Store → R (List D)
/-- J gives the items ds, whatever is done meanwhile to what isn't frozen -/
structure ItOk (K : PySem.W.Frag) (mg : Str → Option Value) (J : It) (F : Hp) (ρ : List Addr) (ds : List D) : Prop where
  len : ds.length ≤ sizeLine
  go : ∀ (i : Nat) F' H ρ' S, (∀ a o, F a = some o → F' a = some o) → (∃ r, ρ' = ρ ++ r) → W0 K mg F' H ρ' S → i < ds.length → J.go i H
  stop : ∀ F' H ρ' S, (∀ a o, F a = some o → F' a = some o) → (∃ r, ρ' = ρ ++ r) → W0 K mg F' H ρ' S → J.stop ds.length H
  yld : ∀ (i : Nat) F' H ρ' S x H' d, (∀ a o, F a = some o → F' a = some o) → (∃ r, ρ' = ρ ++ r) → W0 K mg F' H ρ' S → ds[i]? = some d → J.yld i H x H' → ∃ F2, Ext ρ' F' H ρ' F2 H' ∧ W0 K mg F2 H' ρ' S ∧ Rep K F2 ρ' d x
def tMI (K : PySem.W.Frag) (mg : Str → Option Value) (n : En) (W : WS) (m : MI) : TI := fun σ H R => ∃ F ρ σd S, RS K mg n F H ρ σd S σ ∧
  Out (m σd S) (fun ds S' => ∀ J H' F' ρ', Ext ρ F H ρ' F' H' → W0 K mg F' H' ρ' S' → ItOk K mg J F' ρ' ds → R J H') (fun c d S' => W c d σd S')
abbrev DI (X : Cx) (n : En) (W : WS) (m : MI) (tg it : Expr) : Prop := PI X tg it (tMI X.K X.mg n W m)
theorem PI.weak {X : Cx} {tg e : Expr} {t t' : TI} (h : PI X tg e t) (k : ∀ σ H Q, t' σ H Q → t σ H Q) : PI X tg e t' := ⟨fun pins s σ H R I q => h.run pins s σ H R I (k σ H R q)⟩

/-! ### a list or tuple -/
section
variable {X : Cx} {n : En} {W : WS} {pos : Pos} {tg : Expr}
def iSq (K : PySem.W.Frag) (tl : TE) : TI := fun σ H R => tl σ H fun x H1 => ∃ a, x = .ref a ∧ (((∃ xs, SqL K H1 a xs) ∧ R (Itl K a) H1) ∨ ((∃ xs, SqT K H1 a xs) ∧ R (Itt K a) H1))
theorem pi_sq {l : Expr} {tl : TE} (hl : PE X l tl) : PI X tg l (iSq X.K tl) := by
  refine ⟨fun pins s σ H R I h => ?_⟩
  refine thn (hl.run pins s σ H _ I h) fun v s1 ⟨x, H1, I1, r1, q1⟩ => ?_
  obtain ⟨a, e, q⟩ := q1
  subst e
  cases r1
  rcases q with ⟨⟨xs, hq⟩, q⟩ | ⟨⟨xs, hq⟩, q⟩
  · obtain ⟨its, rv, p, hz⟩ := I1.list hq
    refine wpAny_pyIter_list p.isList ?_
    refine ⟨s1.heap.objs.size, [s1.heap.objs.size], _, _, H1, rfl, I1.kept (t' := s1.toks) fun b o e => Heap.get?_push_of_some _ e, turn_list a _, ⟨_, Heap.get?_push_size _ rfl, rfl, rfl⟩, fun b hb => ?_, q⟩
    have e : b = s1.heap.objs.size := by simpa using hb
    subst e
    exact I1.fpOk (Nat.le_refl _) (I1.hok.fresh (Nat.le_refl _))
  · obtain ⟨its, rv, p, hz⟩ := I1.tuple hq
    refine wpAny_pyIter_tuple (show s1.heap.IsTuple a its.toArray from p) ?_
    refine ⟨s1.heap.objs.size, [s1.heap.objs.size], _, _, H1, rfl, I1.kept (t' := s1.toks) fun b o e => Heap.get?_push_of_some _ e, turn_tuple a _, ⟨_, Heap.get?_push_size _ rfl, rfl, rfl⟩, fun b hb => ?_, q⟩
    have e : b = s1.heap.objs.size := by simpa using hb
    subst e
    exact I1.fpOk (Nat.le_refl _) (I1.hok.fresh (Nat.le_refl _))
theorem ItOk.list {K : PySem.W.Frag} {mg} {F : Hp} {ρ : List Addr} {a : Addr} {vs : List V} {ds : List D} (h : SqL K F a vs) (r : Reps K F ρ ds vs) (hl : ds.length ≤ sizeLine) : ItOk K mg (Itl K a) F ρ ds where
  len := hl
  go := fun i F' H ρ' S e p w hi => by
    obtain ⟨v, h1, _⟩ := r.get (List.getElem?_eq_getElem hi)
    exact ⟨vs, v, SqL.mono w.fh (SqL.mono e h), h1⟩
  stop := fun F' H ρ' S e p w => ⟨vs, SqL.mono w.fh (SqL.mono e h), by rw [r.length]; exact Nat.le_refl _⟩
  yld := fun i F' H ρ' S x H' d e p w hd y => by
    obtain ⟨rfl, y⟩ := y
    obtain ⟨v, h1, h2⟩ := r.get hd
    have h3 := y vs (SqL.mono w.fh (SqL.mono e h))
    rw [h1] at h3
    cases h3
    exact ⟨F', .refl _ _ _, w, Rep.mono e p _ _ h2⟩
theorem ItOk.tup {K : PySem.W.Frag} {mg} {F : Hp} {ρ : List Addr} {a : Addr} {vs : List V} {ds : List D} (h : SqT K F a vs) (r : Reps K F ρ ds vs) (hl : ds.length ≤ sizeLine) : ItOk K mg (Itt K a) F ρ ds where
  len := hl
  go := fun i F' H ρ' S e p w hi => by
    obtain ⟨v, h1, _⟩ := r.get (List.getElem?_eq_getElem hi)
    exact ⟨vs, v, SqT.mono w.fh (SqT.mono e h), h1⟩
  stop := fun F' H ρ' S e p w => ⟨vs, SqT.mono w.fh (SqT.mono e h), by rw [r.length]; exact Nat.le_refl _⟩
  yld := fun i F' H ρ' S x H' d e p w hd y => by
    obtain ⟨rfl, y⟩ := y
    obtain ⟨v, h1, h2⟩ := r.get hd
    have h3 := y vs (SqT.mono w.fh (SqT.mono e h))
    rw [h1] at h3
    cases h3
    exact ⟨F', .refl _ _ _, w, Rep.mono e p _ _ h2⟩
/-- the items of a list or tuple that stays as it is -/
def itemsD : D → Option (List D)
  | .lst ds => some ds
  | .tup ds => some ds
  | _ => none
def mIt (m : M) : MI := fun σ S => (m σ S).bind fun d S1 => R.of (itemsD d) S1
theorem di_seq {l : Expr} {m : M} (hl : DE X n W m l) : DI X n W (mIt m) tg l := by
  refine PI.weak (pi_sq hl) fun σ H Q q => ?_
  obtain ⟨F, ρ, σd, S, rs, o⟩ := q
  refine ⟨F, ρ, σd, S, rs, Out.bind o fun d S1 o1 v H1 F1 ρ1 x1 w1 r1 => ?_⟩
  obtain ⟨ds, e, p⟩ := Out.of o1
  unfold itemsD at e
  split at e
  · cases e
    obtain ⟨a, vs, rfl, h1, h2, h3⟩ := rep_lst r1
    exact ⟨a, rfl, .inl ⟨⟨vs, SqL.mono w1.fh h1⟩, p _ H1 F1 ρ1 x1 w1 (.list h1 h2 h3)⟩⟩
  · cases e
    obtain ⟨a, vs, rfl, h1, h2, h3⟩ := rep_tup r1
    exact ⟨a, rfl, .inr ⟨⟨vs, SqT.mono w1.fh h1⟩, p _ H1 F1 ρ1 x1 w1 (.tup h1 h2 h3)⟩⟩
  · cases e

/-! ### range -/
def rangeL (lo : Int) (n : Nat) : List D := (List.range n).map fun (i : Nat) => .int (lo + (i : Int))
theorem rangeL_len (lo : Int) (n : Nat) : (rangeL lo n).length = n := by
  unfold rangeL
  rw [List.length_map, List.length_range]
theorem rangeL_get {lo : Int} {n i : Nat} {d : D} (h : (rangeL lo n)[i]? = some d) : i < n ∧ d = .int (lo + i) := by
  unfold rangeL at h
  rw [List.getElem?_map] at h
  by_cases hi : i < n
  · rw [List.getElem?_range hi] at h
    cases h
    exact ⟨hi, rfl⟩
  · rw [List.getElem?_eq_none (by rw [List.length_range]; omega)] at h
    cases h
theorem ItOk.range {K : PySem.W.Frag} {mg} {F : Hp} {ρ : List Addr} {lo : Int} {m : Nat} (hl : m ≤ sizeLine) : ItOk K mg (Itr lo m) F ρ (rangeL lo m) where
  len := by rw [rangeL_len]; exact hl
  go := fun i F' H ρ' S e p w hi => by rw [rangeL_len] at hi; exact hi
  stop := fun F' H ρ' S e p w => by rw [rangeL_len]; exact Nat.le_refl _
  yld := fun i F' H ρ' S x H' d e p w hd y => by
    obtain ⟨rfl, rfl⟩ := y
    obtain ⟨_, rfl⟩ := rangeL_get hd
    exact ⟨F', .refl _ _ _, w, .i _⟩
def mR1 (a : MA) : MI := fun σ S => (a σ S).bind fun ds S1 => match ds with
  | [.int j] => if -(2 ^ 62) ≤ j ∧ j ≤ 16777216 then .ok (rangeL 0 j.toNat) S1 else .bad
  | _ => .bad
def mR2 (a : MA) : MI := fun σ S => (a σ S).bind fun ds S1 => match ds with
  | [.int i, .int j] => if j - i ≤ 16777216 ∧ -(2 ^ 62) ≤ i ∧ i < 2 ^ 62 ∧ -(2 ^ 62) ≤ j ∧ j < 2 ^ 62 then .ok (rangeL i (j - i).toNat) S1 else .bad
  | _ => .bad
theorem di_range1 {a : Expr} {ma : MA} {p : Pos} (hg : Gl X "range") (hm : X.mg "range" = none) (ha : DA X n W ma [a]) (hs : starEach [a] X.env = [(false, eval a X.env)] := by rfl) : DI X n W (mR1 ma) tg (.Call (.Name "range" p) [a] [] pos) := by
  refine PI.weak (pi_range1 hg hm ha hs) fun σ H Q q => ?_
  obtain ⟨F, ρ, σd, S, rs, o⟩ := q
  refine ⟨F, ρ, σd, S, rs, Out.bind o fun ds S1 o1 vs H1 F1 ρ1 x1 w1 r1 => ?_⟩
  split at o1
  · rename_i j
    split at o1
    · rename_i hj
      obtain ⟨v, rfl, h1⟩ := reps1 r1
      have h2 := rep_int h1
      subst h2
      exact ⟨j, rfl, hj.1, by omega, o1 _ H1 F1 ρ1 x1 w1 (.range (by rw [sizeLine_eq]; omega))⟩
    · exact o1.elim
  · exact o1.elim
theorem di_range2 {a b : Expr} {ma : MA} {p : Pos} (hg : Gl X "range") (hm : X.mg "range" = none) (ha : DA X n W ma [a, b]) (hs : starEach [a, b] X.env = [(false, eval a X.env), (false, eval b X.env)] := by rfl) (hs2 : starEach [b] X.env = [(false, eval b X.env)] := by rfl) :
    DI X n W (mR2 ma) tg (.Call (.Name "range" p) [a, b] [] pos) := by
  refine PI.weak (pi_range2 hg hm ha hs hs2) fun σ H Q q => ?_
  obtain ⟨F, ρ, σd, S, rs, o⟩ := q
  refine ⟨F, ρ, σd, S, rs, Out.bind o fun ds S1 o1 vs H1 F1 ρ1 x1 w1 r1 => ?_⟩
  split at o1
  · rename_i i j
    split at o1
    · rename_i hj
      obtain ⟨v, u, rfl, h1, h2⟩ := reps2 r1
      rw [rep_int h1, rep_int h2]
      exact ⟨i, j, rfl, hj.2, o1 _ H1 F1 ρ1 x1 w1 (.range (by rw [sizeLine_eq]; omega))⟩
    · exact o1.elim
  · exact o1.elim

/-! ### for -/
def forL (g : MG) (b : MS) : List D → Sls → Store → Fl
  | [], σ, S => .nx σ S
  | d :: ds, σ, S => match g d σ with
    | none => .bad
    | some σ1 => match b σ1 S with
      | .nx σ2 S2 => forL g b ds σ2 S2
      | .ct σ2 S2 => forL g b ds σ2 S2
      | .bk σ2 S2 => .nx σ2 S2
      | .ret d S2 => .ret d S2
      | .exc c d σ2 S2 => .exc c d σ2 S2
      | .bad => .bad
def mFor (it : MI) (g : MG) (b : MS) : MS := fun σ S => match it σ S with
  | .ok ds S1 => forL g b ds σ S1
  | .exc c d S1 => .exc c d σ S1
  | .bad => .bad
theorem st_for {is : List Nat} {iter : Expr} {body : List Stmt} {mi : MI} {g : MG} {b : MS} (hp : PassesOwn (model X.prog X.w) X.A X.env X.xe) (hc : X.calm = true) (hi : DI X n W mi tg iter) (hg : DG X n is g tg) (hb : DSs X n W b body)
    (hs : ∀ x, foldedSetIterable iter X.env x = pure x := by intro _; rfl) : DS X n W (mFor mi g b) (.For tg iter body [] pos) := by
  refine PS.weak (ps_for hp hc hi hg hb hs) fun E σ H q => ?_
  obtain ⟨F, ρ, σd, S, rs, o⟩ := q
  refine ⟨F, ρ, σd, S, rs, ?_⟩
  unfold mFor at o
  cases e : mi σd S with
  | exc c d S1 =>
    rw [e] at o
    exact o
  | bad =>
    rw [e] at o
    exact o
  | ok ds S1 =>
    rw [e] at o
    intro J H1 F1 ρ1 x1 w1 itok
    refine ⟨fun i m σ H => ∃ F' ρ' σd' S', m + i = ds.length ∧ Mon F1 ρ1 F' ρ' ∧ RS X.K X.mg n F' H ρ' σd' S' σ ∧ OutS X.K X.mg n W F' ρ' (forL g b (ds.drop i) σd' S') E,
      ⟨ds.length, F1, ρ1, σd, S1, rfl, .refl _ _, rs.next x1 w1, o.mon x1.mon⟩, ?_⟩
    rintro i m σ2 H2 ⟨F2, ρ2, σd2, S2, hm, y, rs2, o2⟩
    by_cases hi : i < ds.length
    · refine .inr ⟨itok.go i F2 H2 ρ2 S2 y.fle y.pre rs2.w hi, _, fun _ _ z => z, fun x H3 hy => ?_⟩
      obtain ⟨F3, x3, w3, r3⟩ := itok.yld i F2 H2 ρ2 S2 x H3 ds[i] y.fle y.pre rs2.w (List.getElem?_eq_getElem hi) hy
      rw [List.drop_eq_getElem_cons hi] at o2
      unfold forL at o2
      cases eg : g ds[i] σd2 with
      | none =>
        rw [eg] at o2
        exact o2.elim
      | some σ3 =>
        rw [eg] at o2
        refine ⟨F3, ρ2, σd2, S2, ds[i], σ3, rs2.next x3 w3, r3, eg, fun σ4 rs4 _ => ⟨F3, ρ2, σ3, S2, rs4, ?_⟩⟩
        have y3 := y.trans x3.mon
        have go : ∀ {σd5 S5}, OutS X.K X.mg n W F2 ρ2 (forL g b (ds.drop (i + 1)) σd5 S5) E → ∀ σ H F ρ, Mon F3 ρ2 F ρ → RS X.K X.mg n F H ρ σd5 S5 σ →
            ∃ m', m' < m ∧ ∃ F' ρ' σd' S', m' + (i + 1) = ds.length ∧ Mon F1 ρ1 F' ρ' ∧ RS X.K X.mg n F' H ρ' σd' S' σ ∧ OutS X.K X.mg n W F' ρ' (forL g b (ds.drop (i + 1)) σd' S') E := fun o5 σ H F ρ y5 rs5 =>
          ⟨m - 1, by omega, F, ρ, _, _, by omega, y3.trans y5, rs5, o5.mon (x3.mon.trans y5)⟩
        cases eb : b σ3 S2 with
        | nx σ5 S5 =>
          simp only [eb] at o2
          exact go o2
        | ct σ5 S5 =>
          simp only [eb] at o2
          exact go o2
        | bk σ5 S5 =>
          simp only [eb] at o2
          exact fun σ H F ρ y5 rs5 => o2 σ H F ρ (x3.mon.trans y5) rs5
        | ret d S5 =>
          simp only [eb] at o2
          exact o2
        | exc c d σ5 S5 =>
          simp only [eb] at o2
          exact o2
        | bad =>
          simp only [eb] at o2
          exact o2
    · have e1 : i = ds.length := by omega
      subst e1
      rw [List.drop_length] at o2
      exact .inl ⟨itok.stop F2 H2 ρ2 S2 y.fle y.pre rs2.w, o2 σ2 H2 F2 ρ2 (.refl _ _) rs2⟩

/-! ### while: fuel -/
def whileF (c : MB) (b : MS) : Nat → Sls → Store → Fl
  | 0, _, _ => .bad
  | f + 1, σ, S => match c σ S with
    | .ok true S1 => match b σ S1 with
      | .nx σ2 S2 => whileF c b f σ2 S2
      | .ct σ2 S2 => whileF c b f σ2 S2
      | .bk σ2 S2 => .nx σ2 S2
      | .ret d S2 => .ret d S2
      | .exc c d σ2 S2 => .exc c d σ2 S2
      | .bad => .bad
    | .ok false S1 => .nx σ S1
    | .exc c d S1 => .exc c d σ S1
    | .bad => .bad
def mWhile (f : Nat) (c : MB) (b : MS) : MS := fun σ S => whileF c b f σ S
theorem st_while (f : Nat) {c : Expr} {body : List Stmt} {mc : MB} {b : MS} (hp : PassesOwn (model X.prog X.w) X.A X.env X.xe) (hc : DT X n W mc c) (hb : DSs X n W b body) : DS X n W (mWhile f mc b) (.While c body [] pos) := by
  refine PS.weak (ps_while hp hc hb) fun E σ H q => ?_
  obtain ⟨F, ρ, σd, S, rs, o⟩ := q
  refine ⟨fun m σ H => ∃ F' ρ' σd' S', RS X.K X.mg n F' H ρ' σd' S' σ ∧ OutS X.K X.mg n W F' ρ' (whileF mc b m σd' S') E, ⟨f, F, ρ, σd, S, rs, o⟩, ?_⟩
  rintro m σ2 H2 ⟨F2, ρ2, σd2, S2, rs2, o2⟩
  cases m with
  | zero => exact o2.elim
  | succ m =>
    refine ⟨F2, ρ2, σd2, S2, rs2, ?_⟩
    unfold whileF at o2
    cases ec : mc σd2 S2 with
    | exc c d S3 =>
      rw [ec] at o2
      exact o2
    | bad =>
      rw [ec] at o2
      exact o2
    | ok t S3 =>
      rw [ec] at o2
      intro H3 F3 ρ3 x3 w3
      have rs3 := rs2.next x3 w3
      cases t with
      | false => exact o2 σ2 H3 F3 ρ3 x3.mon rs3
      | true =>
        refine ⟨_, fun _ _ z => z, F3, ρ3, σd2, S3, rs3, ?_⟩
        have go : ∀ {σd5 S5}, OutS X.K X.mg n W F2 ρ2 (whileF mc b m σd5 S5) E → ∀ σ H F ρ, Mon F3 ρ3 F ρ → RS X.K X.mg n F H ρ σd5 S5 σ →
            ∃ m', m' < m + 1 ∧ ∃ F' ρ' σd' S', RS X.K X.mg n F' H ρ' σd' S' σ ∧ OutS X.K X.mg n W F' ρ' (whileF mc b m' σd' S') E := fun o5 σ H F ρ y5 rs5 =>
          ⟨m, Nat.lt_succ_self m, F, ρ, _, _, rs5, o5.mon (x3.mon.trans y5)⟩
        cases eb : b σd2 S3 with
        | nx σ5 S5 =>
          simp only [eb] at o2
          exact go o2
        | ct σ5 S5 =>
          simp only [eb] at o2
          exact go o2
        | bk σ5 S5 =>
          simp only [eb] at o2
          exact fun σ H F ρ y5 rs5 => o2 σ H F ρ (x3.mon.trans y5) rs5
        | ret d S5 =>
          simp only [eb] at o2
          exact o2
        | exc c d σ5 S5 =>
          simp only [eb] at o2
          exact o2
        | bad =>
          simp only [eb] at o2
          exact o2
end
end PL

set_option Elab.async false
set_option linter.all false
set_option maxRecDepth 100000
set_option maxHeartbeats 4000000
namespace PL
open PySem PySem.Spec PyProof.Rows L2

def wipeS (σ : Sls) : List Nat → Sls
  | [] => σ
  | v :: vs => (wipeS σ vs).set v .no
section
variable {K : PySem.W.Frag} {mg : Str → Option Value} {n : En} {F H : Hp} {ρ : List Addr} {σd : Sls} {S : Store} {σ : L2.St}
theorem RS.no (r : RS K mg n F H ρ σd S σ) (i : Nat) : RS K mg n F H ρ (σd.set i .no) S (σ.set i none) := by
  have own_of : ∀ j a, Own (σd.set i .no) (σ.set i none) j a → Own σd σ j a := fun j a ⟨⟨s, e, hs⟩, e2⟩ => by
    by_cases hij : i = j
    · subst hij
      have hl : i < (σd.set i .no).length := (List.getElem?_eq_some_iff.mp e).1
      rw [List.length_set] at hl
      rw [List.getElem?_set_self hl] at e
      cases e
      cases hs
    · rw [List.getElem?_set_ne hij] at e e2
      exact ⟨⟨s, e, hs⟩, e2⟩
  refine ⟨r.w, by rw [List.length_set, List.length_set]; exact r.len, fun j s e => ?_, fun p q a hpq h1 h2 => r.one p q a hpq (own_of _ _ h1) (own_of _ _ h2), fun p a h1 => r.new p a (own_of _ _ h1), r.en⟩
  by_cases hij : i = j
  · subst hij
    have hl : i < σd.length := by
      have := (List.getElem?_eq_some_iff.mp e).1
      rwa [List.length_set] at this
    rw [List.getElem?_set_self hl] at e
    cases e
    exact ⟨none, List.getElem?_set_self (by rw [r.len]; exact hl), trivial⟩
  · rw [List.getElem?_set_ne hij] at e ⊢
    exact r.sl j s e
theorem RS.wipe (r : RS K mg n F H ρ σd S σ) : ∀ vs : List Nat, RS K mg n F H ρ (wipeS σd vs) S (wipe σ vs)
  | [] => r
  | v :: vs => (r.wipe vs).no v
theorem W0.fz (w : W0 K mg F H ρ S) {a : Addr} {o : HO} (h1 : H a = some o) (h2 : F a = none) (h3 : a ∉ ρ) : W0 K mg (upd F a o) H ρ S := by
  have fle : ∀ b u, F b = some u → upd F a o b = some u := fun b u hb => by rw [upd_ne (ne_of_none hb h2)]; exact hb
  refine ⟨fun b u hb => ?_, w.len, w.nd, fun b hb => ?_, fun m b c e1 e2 => CellOk.mono fle ⟨[], by simp⟩ rfl (w.cell m b c e1 e2)⟩
  · by_cases hba : b = a
    · rw [hba, upd_same] at hb
      rw [hba, h1]
      exact hb
    · rw [upd_ne hba] at hb
      exact w.fh b u hb
  · rw [upd_ne (mem_ne h3 hb)]
    exact w.off b hb
end
theorem Ext.updD {ρ ρ' : List Addr} {F H F' H' : Hp} {a : Addr} {o : HO} (x : Ext ρ F H ρ' F' H') (ha : H a = none) : Ext ρ F H ρ' F' (upd H' a o) :=
  ⟨x.fle, x.fnew, x.rpre, fun b u hb hn => by rw [upd_ne (ne_of_none hb ha)]; exact x.keep b u hb hn, fun b hb => by
    by_cases e : b = a
    · rw [e]; exact ha
    · rw [upd_ne e] at hb
      exact x.live b hb⟩
theorem Ext.fzD {ρ ρ' : List Addr} {F H F' H' : Hp} {a : Addr} {o : HO} (x : Ext ρ F H ρ' F' H') (ha : H a = none) (hf : F' a = none) : Ext ρ F H ρ' (upd F' a o) H' :=
  ⟨fun b u hb => by rw [upd_ne (ne_of_none (x.fle b u hb) hf)]; exact x.fle b u hb, fun b u hb => by
    by_cases e : b = a
    · rw [e]; exact .inr ha
    · rw [upd_ne e] at hb
      exact x.fnew b u hb, x.rpre, x.keep, x.live⟩
/-- an object that is neither frozen nor of the store stays -/
theorem Ext.off {ρ ρ' : List Addr} {F H F' H' : Hp} (x : Ext ρ F H ρ' F' H') {a : Addr} {o : HO} (h1 : H a = some o) (h2 : F a = none) (h3 : a ∉ ρ) : H' a = some o ∧ F' a = none ∧ a ∉ ρ' := by
  refine ⟨x.keep a o h1 h3, ?_, ?_⟩
  · cases e : F' a with
    | none => rfl
    | some u =>
      rcases x.fnew a u e with z | z
      · rw [h2] at z; cases z
      · rw [h1] at z; cases z
  · obtain ⟨r, e, hr⟩ := x.rpre
    rw [e]
    intro hm
    rcases List.mem_append.mp hm with hm | hm
    · exact h3 hm
    · have := hr a hm
      rw [h1] at this
      cases this
def lcL (g : MG) (c : MB) (e : M) (σ : Sls) : List D → Store → R (List D)
  | [], S => .ok [] S
  | d :: ds, S => match g d σ with
    | none => .bad
    | some σ1 => match c σ1 S with
      | .ok true S1 => match e σ1 S1 with
        | .ok y S2 => match lcL g c e σ ds S2 with
          | .ok ys S3 => .ok (y :: ys) S3
          | _ => .bad
        | _ => .bad
      | .ok false S1 => lcL g c e σ ds S1
      | _ => .bad
def mLc (it : MI) (own : List Nat) (g : MG) (c : MB) (e : M) : M := fun σ S => (it σ S).bind fun ds S1 => match lcL g c e (wipeS σ own) ds S1 with
  | .ok ys S2 => .ok (.lst ys) S2
  | _ => .bad
def mYes : MB := fun _ S => .ok true S
theorem wipe_get {σ : L2.St} {j : Nat} : ∀ {vs : List Nat}, j ∈ vs → j < σ.length → (wipe σ vs)[j]? = some none
  | [], h, _ => by cases h
  | v :: vs, h, hl => by
    show ((wipe σ vs).set v none)[j]? = some none
    by_cases e : v = j
    · subst e
      rw [List.getElem?_set_self (by rw [wipe_length]; exact hl)]
    · rw [List.getElem?_set_ne e]
      rcases List.mem_cons.mp h with z | z
      · exact absurd z.symm e
      · exact wipe_get z hl
theorem wipe_off {σ : L2.St} {j : Nat} : ∀ {vs : List Nat}, j ∉ vs → (wipe σ vs)[j]? = σ[j]?
  | [], _ => rfl
  | v :: vs, h => by
    show ((wipe σ vs).set v none)[j]? = σ[j]?
    rw [List.getElem?_set_ne (fun z => h (by rw [z]; exact List.mem_cons_self)), wipe_off fun z => h (List.mem_cons_of_mem _ z)]
theorem wipe_eq {σ σ2 : L2.St} {is vs : List Nat} (h : Off is (wipe σ vs) σ2) (hs : ∀ i ∈ is, i ∈ vs) : wipe σ2 vs = wipe σ vs := by
  obtain ⟨h1, h2⟩ := h
  have hl : σ2.length = σ.length := by rw [h1, wipe_length]
  apply List.ext_getElem?
  intro j
  by_cases hj : j ∈ vs
  · by_cases hlt : j < σ.length
    · rw [wipe_get hj (by rw [hl]; exact hlt), wipe_get hj hlt]
    · rw [List.getElem?_eq_none (by rw [wipe_length, hl]; omega), List.getElem?_eq_none (by rw [wipe_length]; omega)]
  · rw [wipe_off hj, h2 j fun z => hj (hs j z)]
section
variable {X : Cx} {n : En} {W : WS} {pos : Pos}
abbrev DTs (X : Cx) (n : En) (W : WS) (m : MB) (es : List Expr) : Prop := PTs X es (tMB X.K X.mg n W m)
theorem dts_nil : DTs X n W mYes [] := ⟨fun pins s σ H Q I q => (pts_nil (X := X)).run pins s σ H Q I (by
  obtain ⟨F, ρ, σd, S, rs, o⟩ := q
  exact o H F ρ (.refl _ _ _) rs.w)⟩
theorem dts_one {c : Expr} {m : MB} (h : DT X n W m c) : DTs X n W m [c] := pts_one h
theorem lc_ok {K : PySem.W.Frag} {mg : Str → Option Value} {n : En} {mi : MI} {g : MG} {c : MB} {e : M} {own is : List Nat} {σ : L2.St} {H : Hp} {Q : VK} (his : ∀ i ∈ is, i ∈ own) (q : tM K mg n WN (mLc mi own g c e) σ H Q) :
    tLc (tMI K mg n WN mi) (tMG K mg n is g) (tMB K mg n WN c) (tM K mg n WN e) own σ H Q := by
  obtain ⟨F, ρ, σd, S, rs, o⟩ := q
  refine ⟨F, ρ, σd, S, rs, Out.bind o fun ds S1 o1 J H1 F1 ρ1 x1 w1 itok dl hD => ?_⟩
  have rs1 := rs.next x1 w1
  have hF1 : F1 dl = none := w1.fnone hD
  have hρ1 : dl ∉ ρ1 := fun z => w1.there z hD
  have fin : ∀ {r : R (List D)} {acc0 : List D}, Out (match r with
      | .ok ys S2 => R.ok (D.lst (acc0 ++ ys)) S2
      | _ => .bad) (fun d S' => Post K mg ρ F H S' d Q) (fun c d S' => WN c d σd S') → Out r (fun ys S' => Post K mg ρ F H S' (.lst (acc0 ++ ys)) Q) (fun _ _ _ => False) := fun {r acc0} h => by
    cases r with
    | ok ys S2 => exact h
    | exc _ _ _ => exact h
    | bad => exact h
  refine ⟨fun i m Hc => m + i = ds.length ∧ ∃ F' ρ' S' acc accD, Ext ρ1 F1 H1 ρ' F' Hc ∧ W0 K mg F' Hc ρ' S' ∧ Hc dl = some (.lst acc) ∧ F' dl = none ∧ dl ∉ ρ' ∧ Reps K F' ρ' accD acc ∧ accD.length ≤ i ∧
    Out (lcL g c e (wipeS σd own) (ds.drop i) S') (fun ys S'' => Post K mg ρ F H S'' (.lst (accD ++ ys)) Q) (fun _ _ _ => False),
    ⟨ds.length, rfl, F1, ρ1, S1, [], [], (Ext.refl _ _ _).updD hD, w1.off_upd hF1 hρ1, upd_same, hF1, hρ1, .nil, Nat.le_refl _, fin (acc0 := []) o1⟩, ?_⟩
  rintro i m Hc ⟨hm, F2, ρ2, S2, acc, accD, x2, w2, hD2, hF2, hρ2, r2, hl2, o2⟩
  have rs2 := rs1.next x2 w2
  by_cases hi : i < ds.length
  · refine .inr ⟨itok.go i F2 Hc ρ2 S2 x2.fle x2.mon.pre w2 hi, _, fun _ z => z, fun x H3 hy => ?_⟩
    obtain ⟨F3, x3, w3, r3⟩ := itok.yld i F2 Hc ρ2 S2 x H3 ds[i] x2.fle x2.mon.pre w2 (List.getElem?_eq_getElem hi) hy
    obtain ⟨hD3, hF3, hρ3⟩ := x3.off hD2 hF2 hρ2
    have rs3 := rs2.next x3 w3
    rw [List.drop_eq_getElem_cons hi] at o2
    unfold lcL at o2
    cases eg : g ds[i] (wipeS σd own) with
    | none =>
      rw [eg] at o2
      exact o2.elim
    | some σ3 =>
      simp only [eg] at o2
      refine ⟨F3, ρ2, wipeS σd own, S2, ds[i], σ3, rs3.wipe own, r3, eg, fun σ4 rs4 off4 => ⟨wipe_eq off4 his, F3, ρ2, σ3, S2, rs4, ?_⟩⟩
      cases ec : c σ3 S2 with
      | exc _ _ _ => rw [ec] at o2; exact o2.elim
      | bad => rw [ec] at o2; exact o2.elim
      | ok t S5 =>
        rw [ec] at o2
        intro H5 F5 ρ5 x5 w5
        obtain ⟨hD5, hF5, hρ5⟩ := x5.off hD3 hF3 hρ3
        have x25 : Ext ρ1 F1 H1 ρ5 F5 H5 := (x2.trans x3).trans x5
        have rs5 := rs4.next x5 w5
        cases t with
        | false =>
          exact ⟨m - 1, by omega, by omega, F5, ρ5, S5, acc, accD, x25, w5, hD5, hF5, hρ5, (x3.trans x5).reps r2, by omega, o2⟩
        | true =>
          refine ⟨F5, ρ5, σ3, S5, rs5, ?_⟩
          cases ee : e σ3 S5 with
          | exc _ _ _ => simp only [ee] at o2; exact o2.elim
          | bad => simp only [ee] at o2; exact o2.elim
          | ok y S6 =>
            simp only [ee] at o2
            intro v H6 F6 ρ6 x6 w6 r6
            obtain ⟨hD6, hF6, hρ6⟩ := x6.off hD5 hF5 hρ5
            have racc : Reps K F6 ρ6 (accD ++ [y]) (acc ++ [v]) := (((x3.trans x5).trans x6).reps r2).append (.one r6)
            have hsz : acc.length < sizeLine := by
              have := itok.len
              rw [r2.length]
              omega
            refine ⟨acc, hD6, hsz, m - 1, by omega, by omega, F6, ρ6, S6, acc ++ [v], accD ++ [y], (x25.trans x6).updD hD, w6.off_upd hF6 hρ6, upd_same, hF6, hρ6, racc, by rw [List.length_append, List.length_singleton]; omega, ?_⟩
            cases el : lcL g c e (wipeS σd own) (ds.drop (i + 1)) S6 with
            | exc _ _ _ => simp only [el] at o2; exact o2.elim
            | bad => simp only [el] at o2; exact o2.elim
            | ok ys S7 =>
              simp only [el] at o2
              show Post K mg ρ F H S7 (.lst (accD ++ [y] ++ ys)) Q
              rw [List.append_assoc]
              exact o2
  · have e1 : i = ds.length := by omega
    subst e1
    rw [List.drop_length] at o2
    unfold lcL at o2
    refine .inl ⟨itok.stop F2 Hc ρ2 S2 x2.fle x2.mon.pre w2, ?_⟩
    have o3 : Post K mg ρ F H S2 (.lst (accD ++ [])) Q := o2
    rw [List.append_nil] at o3
    refine o3 (.ref dl) Hc (upd F2 dl (.lst acc)) ρ2 (x1.trans (x2.fzD hD hF2)) (w2.fz hD2 hF2 hρ2) (.l (.inl (.inl upd_same)) (Reps.mono (fun b u hb => by rw [upd_ne (ne_of_none hb hF2)]; exact hb) ⟨[], by simp⟩ _ _ r2) ?_)
    exact Nat.le_trans hl2 itok.len
theorem de_lc {own : List (Str × Nat)} {is : List Nat} {elt tg iter : Expr} {ifs : List Expr} {scope : Scope} {mi : MI} {g : MG} {c : MB} {e : M} (hc : X.calm = true) (hN : X.N.Nodup) (hi : DI X n WN mi tg iter) (ok : BlkOk X.N X.env.scope scope own)
    (hg : ∀ (s : Shared) (H : Hp) (C : Addr) (cl : List (Str × Addr)) (fp : List Addr), DG (X.blk s H scope (compEnvC scope cl C X.env) fp) n is g tg) (ht : ∀ (s : Shared) (H : Hp) (C : Addr) (cl : List (Str × Addr)) (fp : List Addr), DTs (X.blk s H scope (compEnvC scope cl C X.env) fp) n WN c ifs)
    (he : ∀ (s : Shared) (H : Hp) (C : Addr) (cl : List (Str × Addr)) (fp : List Addr), DE (X.blk s H scope (compEnvC scope cl C X.env) fp) n WN e elt) (his : ∀ i ∈ is, i ∈ own.map (·.2) := by decide) (hs : ∀ x, foldedSetIterable iter X.env x = pure x := by intro _; rfl) :
    DE X n WN (mLc mi (own.map (·.2)) g c e) (.ListComp elt [⟨tg, iter, ifs, 0⟩] scope pos) :=
  PE.weak (pe_lc hc hN hi ok hg ht he hs) fun σ H Q q => lc_ok his q
/-- y = [..] on one line -/
theorem st_lc (i : Nat) {y : Str} {py : Pos} {own : List (Str × Nat)} {is : List Nat} {elt tg iter : Expr} {ifs : List Expr} {scope : Scope} {mi : MI} {g : MG} {c : MB} {e : M} {spos : Pos} (hc : X.calm = true) (hN : X.N.Nodup)
    (hsw : swapsWith (.ListComp elt [⟨tg, iter, ifs, 0⟩] scope pos) (some (.Name y py)) spos.line X.env = pure true) (hi : DI X n WN mi tg iter) (ok : BlkOk X.N X.env.scope scope own)
    (hg : ∀ (s : Shared) (H : Hp) (C : Addr) (cl : List (Str × Addr)) (fp : List Addr), DG (X.blk s H scope (compEnvC scope cl C X.env) fp) n is g tg) (ht : ∀ (s : Shared) (H : Hp) (C : Addr) (cl : List (Str × Addr)) (fp : List Addr), DTs (X.blk s H scope (compEnvC scope cl C X.env) fp) n WN c ifs)
    (he : ∀ (s : Shared) (H : Hp) (C : Addr) (cl : List (Str × Addr)) (fp : List Addr), DE (X.blk s H scope (compEnvC scope cl C X.env) fp) n WN e elt) (hy : X.N[i]? = some y := by rfl) (hyl : X.env.scope.names.lookup y = some .local := by rfl)
    (his : ∀ i ∈ is, i ∈ own.map (·.2) := by decide) (hs : ∀ x, foldedSetIterable iter X.env x = pure x := by intro _; rfl) :
    DS X n WN (mSet i (mLc mi (own.map (·.2)) g c e)) (.Assign [.Name y py] (.ListComp elt [⟨tg, iter, ifs, 0⟩] scope pos) spos) := by
  refine PS.weak (ps_setLc (te := tM X.K X.mg n WN e) (g := tMG X.K X.mg n is g) (tt := tMB X.K X.mg n WN c) hc hN hy hyl hsw hi ok hg ht he hs) fun E σ H q => ?_
  obtain ⟨F, ρ, σd, S, rs, o⟩ := q
  refine lc_ok (Q := fun x H1 => gName i x σ H1 E.nx) his ⟨F, ρ, σd, S, rs, (outs_of (X := X) o).imp fun d S1 o1 v H1 F1 ρ1 x1 w1 r1 => ?_⟩
  exact o1 _ H1 F1 ρ1 x1.mon ((rs.next x1 w1).set r1)
end
end PL

set_option Elab.async false
set_option linter.all false
set_option maxRecDepth 100000
set_option maxHeartbeats 4000000
namespace PL
open PySem PySem.Spec PyProof.Rows L2
/-- the law's promise -/
def spLaw (K : PySem.W.Frag) : Sp := fun vs H Q _ => ∃ (a : Addr) (ns : List Int), vs = [.ref a] ∧ SqL K H a (ns.map V.int) ∧ ns.length ≤ 63 ∧ (∀ z ∈ ns, Builtin.Int.intBits z ≤ 1048576) ∧ ∀ H', Q (.bl true) H'
/-- the law gives True at every script -/
def LawTrue (fn : Fn) : Prop := ∀ ns : List Int, ns.length ≤ 63 → (∀ z ∈ ns, Builtin.Int.intBits z ≤ 1048576) → ∃ S', fn [.lst (ns.map D.int)] [] = .ok (.bl true) S'
theorem law_imp {K : PySem.W.Frag} {mg : Str → Option Value} {fn : Fn} (h : LawTrue fn) : ∀ vs H Q E, spLaw K vs H Q E → spOf K mg 1 fn vs H Q E := by
  rintro vs H Q E ⟨a, ns, rfl, hS, hl, hb, q⟩
  obtain ⟨S', e⟩ := h ns hl hb
  refine ⟨rfl, fun b => if b = a then H a else none, [], [], [.lst (ns.map D.int)], ⟨fun b o hb => ?_, rfl, List.nodup_nil, fun _ h => (nomatch h), fun m b c h1 _ => by simp at h1⟩, .one ?_, ?_⟩
  · by_cases e : b = a
    · rw [if_pos e] at hb
      rw [e]
      exact hb
    · rw [if_neg e] at hb
      cases hb
  · have hlen : (ns.map D.int).length ≤ sizeLine := by
      rw [List.length_map]
      exact Nat.le_trans hl (by rw [sizeLine_eq]; decide)
    refine .l ?_ (reps_ints ns) hlen
    rcases hS with (hS | ⟨o, hS⟩) | hS
    · exact .inl (.inl (by show (if a = a then H a else none) = _; rw [if_pos rfl]; exact hS))
    · exact .inl (.inr ⟨o, by show (if a = a then H a else none) = _; rw [if_pos rfl]; exact hS⟩)
    · exact .inr hS
  · rw [e]
    intro v H' F' ρ' x w r
    rw [rep_bl r]
    exact q H'
/-- the law's call at the caller, as in the hand layer, of a promise FnG -/
theorem lawG_call {P : Program} {w : World} {K : PySem.W.Frag} {mg mb : Str → Option Value} {CX : CXT} {k : Nat} {fa a : Addr} {fd : FuncData} {x : Str} {sp : Sp} {s₁ : Shared} {vs : List Value} {ns : List Int}
    (KX : K.In s₁.heap) (hns : s₁.heap.Ns mainGlobals mg) (hb : s₁.heap.Ns builtinsNs mb) (hbb : ∀ x : Str, x ≠ "__name__" → mb x = bootBuiltins x) (hlim : s₁.heap.NoLimit) (hg : s₁.gens = #[])
    (ha : s₁.heap.get? a = some { cls := .type "list", data := .seq vs.toArray }) (hi : IntsAre vs ns) (hl : ns.length ≤ sizeLine) (hr : RoomG k callerA)
    (F : ∀ base : Heap, K.In base → base.Ns mainGlobals mg → FnG P w K mg base CX k fa fd [x] sp) (hbind : ∀ (s : Shared) (u : Value), BindsTo s fd ⟨[u], []⟩ [(x, u)])
    (hsp : ∀ H : Hp, Only H → SqL K H a (ns.map V.int) → sp [.ref a] H (fun v _ => v = .bl true) fun _ _ _ => False)
    (hCX : ∀ H e s', CX [] H s₁ (fun _ _ _ => False) e s' → False) :
    codeAny (model P w) callerA (.call (.ref fa) ⟨[.ref a], []⟩) (fun r s' => r = .ok (.ret (.bool true)) ∧ OldK s₁.heap s'.heap ∧ s'.os = s₁.os ∧ AllBare s'.gens) s₁ := by
  have rv := vals_ints hi
  have lenV := hi.length
  -- from an abstract heap in which nothing but the script may be tracked
  have core : ∀ H : Hp, Only H → SqL K H a (ns.map V.int) → HOk P w H s₁.heap → (∀ b, H b ≠ none → b = a) → (H a ≠ none → K.lookup a = none) →
      codeAny (model P w) callerA (.call (.ref fa) ⟨[.ref a], []⟩) (fun r s' => r = .ok (.ret (.bool true)) ∧ OldK s₁.heap s'.heap ∧ s'.os = s₁.os ∧ AllBare s'.gens) s₁ := by
    intro H hO hS hok hA hK
    have base_of : ∀ {b : Addr} {o : Obj}, s₁.heap.get? b = some o → H b = none → (hidT s₁.heap H).get? b = some o := fun e n => hidT_get e n
    have noA : ∀ {b : Addr} {o : Obj} {es : Array DictEntry} {ep : Nat}, s₁.heap.get? b = some o → o.data = .dict es ep → H b = none := fun {b o es ep} e d => by
      cases q : H b with
      | none => rfl
      | some u =>
        have e' : b = a := hA b (by rw [q]; simp)
        subst e'
        rw [ha] at e; cases e
        have d' : Data.seq vs.toArray _ = Data.dict es ep := d
        cases d'
    have nsK : ∀ {b : Addr} {m : Str → Option Value}, s₁.heap.Ns b m → (hidT s₁.heap H).Ns b m := fun {b m} ⟨o, es, ep, e, d, r⟩ => ⟨o, es, ep, base_of e (noA e d), d, r⟩
    have hKb : K.In (hidT s₁.heap H) := fun b o e => base_of (KX b o e) (by
      cases q : H b with
      | none => rfl
      | some u =>
        have e' : b = a := hA b (by rw [q]; simp)
        subst e'
        rw [hK (by rw [q]; simp)] at e; cases e)
    have hM : Mod K mg (hidT s₁.heap H) := ⟨hKb, nsK hns, ⟨mb, nsK hb, hbb⟩, let ⟨mc, h1, h2⟩ := hlim; ⟨mc, nsK h1, h2⟩⟩
    have e0 : Env0 P w K mg (hidT s₁.heap H) callerA [] s₁ H := ⟨rfl, hM, fun b o e => of_hidT e, Nat.le_of_eq (hidT_size _ _), trivial, fun b hb => absurd (show b ∈ ([] : List Addr) from hb) (by simp), hok, .of_eq hg⟩
    refine codeAny_mono ((F _ hKb (nsK hns)).run callerA [] s₁ H ⟨[.ref a], []⟩ [.ref a] [.ref a] _ _ hr e0 (hbind s₁ (.ref a)) (.cons rfl .nil) (hsp H hO hS)) fun r s' h => ?_
    cases r with
    | error e => exact (hCX H e s' h).elim
    | ok fl =>
      cases fl with
      | next => exact False.elim h
      | brk => exact False.elim h
      | cont => exact False.elim h
      | ret u =>
        obtain ⟨v, H', os, bare, un, hok', r', q⟩ := h
        have q' : v = .bl true := q
        subst q'
        obtain rfl : u = Value.bool true := r'
        refine ⟨rfl, OldK.of_keep fun b o e => ?_, os, bare⟩
        cases q : H b with
        | none => exact un.keep b o e q (by intro z; exact absurd (show b ∈ ([] : List Addr) from z) (by simp)) (by simp)
        | some u =>
          rcases hO b with z | ⟨ob, xs, z⟩
          · rw [q] at z; cases z
          · have z2 := un.frzs b ob _ z
            obtain ⟨e1, _⟩ := hok b _ z
            obtain ⟨e2, _⟩ := hok' b _ z2
            rw [e] at e1; cases e1
            exact e2
  cases hk : K.lookup a with
  | some o =>
    -- the script is one of the module's own objects
    have e := KX a o hk
    rw [ha] at e
    cases e
    refine core (fun _ => none) (fun _ => .inl rfl) (.inr ⟨_, vs.toArray, _, hk, rfl, rfl, rfl, by rw [List.size_toArray, lenV]; exact hl, by simpa using rv⟩) (fun b u z => by have z' : (none : Option HO) = some u := z; cases z') (fun b z => absurd rfl z) fun z => absurd rfl z
  | none =>
    refine core (fun b => if b = a then some (.frz { cls := .type "list", data := .seq vs.toArray } (.lst (ns.map V.int))) else none) (fun b => ?_) (.inl (.inr ⟨{ cls := .type "list", data := .seq vs.toArray }, if_pos rfl⟩)) (fun b u z => ?_) (fun b z => ?_) fun _ => hk
    · by_cases hb : b = a
      · exact .inr ⟨_, _, if_pos hb⟩
      · exact .inl (if_neg hb)
    · by_cases hb : b = a
      · have z' := (if_pos hb).symm.trans z
        cases z'
        subst hb
        exact ⟨ha, by rw [List.length_map]; exact hl, vs, _, rv, ha⟩
      · have z' := (if_neg hb).symm.trans z
        cases z'
    · by_cases hb : b = a
      · exact hb
      · exact absurd (if_neg hb) z
/-- the same, the loose constants told -/
theorem walkX {l : PySem.W.OpenLaw} {q : Program} {loose : List Str} {XP : (Str → Option Value) → Heap → Prop} {YP : World → Heap → Prop} {d : DefRec} {K : Params → PySem.W.Frag} {k : Nat} {x : Str} {fn : Fn} (law : LawTrue fn) (hn : l.most = some 63) (hdf : d.params.defaults = []) (hr : RoomG k callerA)
    (hY : ∀ (w : World) (h : Heap), YP w h → (K w.params).In h)
    (F : ∀ (w : World) (mg : Str → Option Value) (fa : Addr) (h : Heap), (K w.params).In h → h.Ns mainGlobals mg → mg d.name = some (.ref fa) → XP mg h →
      ∃ fd : FuncData, (∀ (s : Shared) (u : Value), BindsTo s fd ⟨[u], []⟩ [(x, u)]) ∧ ∀ base : Heap, (K w.params).In base → base.Ns mainGlobals mg → FnG l.prog w (K w.params) mg base CX0 k fa fd [x] (spOf (K w.params) mg 1 fn)) :
    PySem.W.WalkO q loose XP YP l.row.toRowW d [] (fun f vs => PySem.call f vs) := by
  refine Att.attach_callB hn hdf fun w s₀ s₁ mg mb fa o pm cd doc a vs ns G Y ho hd hcd hmg hobj hints hlen hbits hg => ?_
  have KX := hY w _ Y
  obtain ⟨fd, hb, hF⟩ := F w mg fa _ KX G.T.g hmg G.X
  exact lawG_call KX G.T.g G.T.b G.T.builtins G.T.nolimit hg hobj hints (Nat.le_trans hlen (by decide)) hr (fun base h1 h2 => (hF base h1 h2).imp (law_imp law)) hb (fun H hO hS => ⟨a, ns, rfl, hS, hlen, hbits, fun _ => rfl⟩) fun H e s' z => z
theorem loose_int {lv : List (Str × PySem.W.WData)} {p : Program} {mg : Str → Option Value} {h : Heap} {x : Str} {i : Int} (X : PySem.W.XL p lv mg h) (hm : (x, PySem.W.WData.int i) ∈ lv) : ∃ t, mg x = some (.int i t) := by
  obtain ⟨v, e, r⟩ := X.2.val _ hm
  cases r with
  | int _ t => exact ⟨t, e⟩
section
variable {P : Program} {w : World} {K : PySem.W.Frag} {mg : Str → Option Value} {base : Heap}
/-- the law's own def -/
theorem law_ok {x qual : Str} {st : Stmt} {f : Addr} {fd : FuncData} {N ps : List Str} {k np : Nat} {body : MS} (F : Fun K x qual st f fd) (S : FnScope N ps (defScope st)) (hp : ps.length = np)
    (hbody : ∀ (cdv : Value) (A : Around) (outer : List Env) (s : Shared) (H : Hp) (E : XK) (n : En), RoomG k (A.deeper (envOfC qual (defScope st) s.heap.objs.size f cdv)) →
      DSs (cxOf CX0 P w K mg base N qual (defScope st) f cdv A outer s H E).nox n WN body (defBody st)) :
    FnG P w K mg base CX0 (k + 1) f fd ps (spOf K mg np (runFn0 N.length body)) := by
  subst hp
  refine fnG_of F S (fun vs H Q E h => h.1) (fun cdv A outer s H vs Q E hr h => ?_)
  obtain ⟨hl, F0, ρ, S0, ds, w0, r, o⟩ := h
  exact ⟨_, hbody cdv A outer s H E ⟨H, F0, ρ⟩ hr, F0, ρ, _, S0, rs_start w0 r, fn_out0 o⟩
end
end PL

set_option Elab.async false
set_option linter.all false
set_option maxRecDepth 100000
set_option maxHeartbeats 4000000
namespace PL
open PySem PySem.Spec PyProof.Rows L2
def varK : Option Sl → Store → R D
  | some (.val d), S => .ok d S
  | _, _ => .bad
def binK2 (g : Store → D → D → Option D) (x : D) (r : R D) : R D := r.bind fun y S2 => R.of (g S2 x y) S2
def binK (g : Store → D → D → Option D) (r : R D) (b : M) (σ : Sls) : R D := r.bind fun x S1 => binK2 g x (b σ S1)
def unK (g : Store → D → Option D) (r : R D) : R D := r.bind fun x S1 => R.of (g S1 x) S1
def bK (r : R D) : R Bool := r.bind fun d S1 => match d with
  | .bl b => .ok b S1
  | _ => .bad
def truK (r : R D) : R Bool := r.bind fun d S1 => R.of (truD S1 d) S1
def andK (r : R Bool) (b : MB) (σ : Sls) : R Bool := r.bind fun x S1 => if x = true then b σ S1 else .ok false S1
def orK (r : R Bool) (b : MB) (σ : Sls) : R Bool := r.bind fun x S1 => if x = true then .ok true S1 else b σ S1
def notK (r : R Bool) : R Bool := r.bind fun x S1 => .ok (!x) S1
def andV (r : R Bool) (b : M) (σ : Sls) : R D := r.bind fun x S1 => if x = true then b σ S1 else .ok (.bl false) S1
def orV (r : R Bool) (b : M) (σ : Sls) : R D := r.bind fun x S1 => if x = true then .ok (.bl true) S1 else b σ S1
def notV (r : R Bool) : R D := r.bind fun x S1 => .ok (.bl (!x)) S1
def ifK (r : R Bool) (a b : M) (σ : Sls) : R D := r.bind fun x S1 => if x = true then a σ S1 else b σ S1
def chK4 (g' : Store → D → D → Option D) (y : D) (r : R D) : R D := r.bind fun z S3 => R.of (g' S3 y z) S3
def chK3 (o : Option D) (g' : Store → D → D → Option D) (y : D) (c : M) (σ : Sls) (S2 : Store) : R D := match o with
  | some (.bl true) => chK4 g' y (c σ S2)
  | some (.bl false) => .ok (.bl false) S2
  | _ => .bad
def chK2 (g g' : Store → D → D → Option D) (x : D) (r : R D) (c : M) (σ : Sls) : R D := r.bind fun y S2 => chK3 (g S2 x y) g' y c σ S2
def chK1 (g g' : Store → D → D → Option D) (r : R D) (b c : M) (σ : Sls) : R D := r.bind fun x S1 => chK2 g g' x (b σ S1) c σ
def consK2 (x : D) (r : R (List D)) : R (List D) := r.bind fun xs S2 => .ok (x :: xs) S2
def consK (r : R D) (m : MA) (σ : Sls) : R (List D) := r.bind fun x S1 => consK2 x (m σ S1)
def tupK (r : R (List D)) : R D := r.bind fun ds S1 => .ok (.tup ds) S1
def lstK (r : R (List D)) : R D := r.bind fun ds S1 => .ok (.lst ds) S1
def refK (r : R (List D)) : R D := r.bind fun ds S1 => .ok (.ref S1.length) (S1 ++ [.lst ds])
def bltK (g : Store → List D → Option D) (r : R (List D)) : R D := r.bind fun ds S1 => R.of (g S1 ds) S1
def callK (fn : Fn) (r : R (List D)) : R D := r.bind fun ds S1 => fn ds S1
def sliK3 (x : D) (l : Option Int) (r : R (Option Int)) : R D := r.bind fun h S3 => R.of (sliD S3 x l h) S3
def sliK2 (x : D) (r : R (Option Int)) (hi : MO) (σ : Sls) : R D := r.bind fun l S2 => sliK3 x l (hi σ S2)
def sliK1 (r : R D) (lo hi : MO) (σ : Sls) : R D := r.bind fun x S1 => sliK2 x (lo σ S1) hi σ
def osK (r : R D) : R (Option Int) := r.bind fun d S1 => match d with
  | .int i => .ok (some i) S1
  | _ => .bad
def isiK2 (Ts : List Ty) (o : Option Ty) (S : Store) : R D := match o with
  | some t => .ok (.bl (Ts.any fun T => t.isA T)) S
  | none => .bad
def isiK (Ts : List Ty) (r : R D) : R D := r.bind fun d S1 => isiK2 Ts (tyOf S1 d) S1
def setK (i : Nat) (r : R D) (σ : Sls) : Fl := Fl.of r σ fun d S1 => .nx (σ.set i (.val d)) S1
def setUK (i : Nat) (r : R (List D)) (σ : Sls) : Fl := match r with
  | .ok ds S1 => .nx (σ.set i (.uq ds)) S1
  | .exc c d S1 => .exc c d σ S1
  | .bad => .bad
def dropK (r : R D) (σ : Sls) : Fl := Fl.of r σ fun _ S1 => .nx σ S1
def retK (r : R D) (σ : Sls) : Fl := Fl.of r σ fun d S1 => .ret d S1
def ifSK (r : R Bool) (a b : MS) (σ : Sls) : Fl := match r with
  | .ok true S1 => a σ S1
  | .ok false S1 => b σ S1
  | .exc c d S1 => .exc c d σ S1
  | .bad => .bad
def asgK2 (o : Option Sls) (S : Store) : Fl := match o with
  | some σ1 => .nx σ1 S
  | none => .bad
def asgK (g : MG) (r : R D) (σ : Sls) : Fl := Fl.of r σ fun d S1 => asgK2 (g d σ) S1
def parK (i j : Nat) (r : R (List D)) (σ : Sls) : Fl := match r with
  | .ok [d, e] S1 => .nx ((σ.set i (.val d)).set j (.val e)) S1
  | .ok _ _ => .bad
  | .exc c d S1 => .exc c d σ S1
  | .bad => .bad
def stK4 (o : Option Store) (σ : Sls) : Fl := match o with
  | some S => .nx σ S
  | none => .bad
def stK3 (d x : D) (r : R D) (σ : Sls) : Fl := Fl.of r σ fun k S3 => stK4 (setS S3 x k d) σ
def stK2 (d : D) (r : R D) (i : M) (σ : Sls) : Fl := Fl.of r σ fun x S2 => stK3 d x (i σ S2) σ
def stK1 (r : R D) (a i : M) (σ : Sls) : Fl := Fl.of r σ fun d S1 => stK2 d (a σ S1) i σ
def appK2 (i : Nat) (ds : List D) (r : R D) (σ : Sls) : Fl := Fl.of r σ fun d S1 => if ds.length < sizeLine then .nx (σ.set i (.uq (ds ++ [d]))) S1 else .bad
def appK (i : Nat) (o : Option Sl) (e : M) (σ : Sls) (S : Store) : Fl := match o with
  | some (.uq ds) => appK2 i ds (e σ S) σ
  | _ => .bad
def frzK (i : Nat) (o : Option Sl) (σ : Sls) (S : Store) : Fl := match o with
  | some s => .nx (σ.set i (frzSl s)) S
  | none => .bad
def forK (r : R (List D)) (g : MG) (b : MS) (σ : Sls) : Fl := match r with
  | .ok ds S1 => forL g b ds σ S1
  | .exc c d S1 => .exc c d σ S1
  | .bad => .bad
def forK2 (r : Fl) (g : MG) (b : MS) (ds : List D) : Fl := match r with
  | .nx σ2 S2 => forL g b ds σ2 S2
  | .ct σ2 S2 => forL g b ds σ2 S2
  | .bk σ2 S2 => .nx σ2 S2
  | .ret d S2 => .ret d S2
  | .exc c d σ2 S2 => .exc c d σ2 S2
  | .bad => .bad
def forK1 (o : Option Sls) (g : MG) (b : MS) (ds : List D) (S : Store) : Fl := match o with
  | none => .bad
  | some σ1 => forK2 (b σ1 S) g b ds
def wK2 (r : Fl) (c : MB) (b : MS) (f : Nat) : Fl := match r with
  | .nx σ2 S2 => whileF c b f σ2 S2
  | .ct σ2 S2 => whileF c b f σ2 S2
  | .bk σ2 S2 => .nx σ2 S2
  | .ret d S2 => .ret d S2
  | .exc c d σ2 S2 => .exc c d σ2 S2
  | .bad => .bad
def wK (r : R Bool) (c : MB) (b : MS) (f : Nat) (σ : Sls) : Fl := match r with
  | .ok true S1 => wK2 (b σ S1) c b f
  | .ok false S1 => .nx σ S1
  | .exc c d S1 => .exc c d σ S1
  | .bad => .bad
def itK (r : R D) : R (List D) := r.bind fun d S1 => R.of (itemsD d) S1
def r1K (r : R (List D)) : R (List D) := r.bind fun ds S1 => match ds with
  | [.int j] => if -(2 ^ 62) ≤ j ∧ j ≤ 16777216 then .ok (rangeL 0 j.toNat) S1 else .bad
  | _ => .bad
def r2K (r : R (List D)) : R (List D) := r.bind fun ds S1 => match ds with
  | [.int i, .int j] => if j - i ≤ 16777216 ∧ -(2 ^ 62) ≤ i ∧ i < 2 ^ 62 ∧ -(2 ^ 62) ≤ j ∧ j < 2 ^ 62 then .ok (rangeL i (j - i).toNat) S1 else .bad
  | _ => .bad
def lcK2 (r : R (List D)) : R D := match r with
  | .ok ys S2 => .ok (.lst ys) S2
  | _ => .bad
def lcK (r : R (List D)) (own : List Nat) (g : MG) (c : MB) (e : M) (σ : Sls) : R D := r.bind fun ds S1 => lcK2 (lcL g c e (wipeS σ own) ds S1)
def lcY3 (y : D) (r : R (List D)) : R (List D) := match r with
  | .ok ys S3 => .ok (y :: ys) S3
  | _ => .bad
def lcY2 (r : R D) (g : MG) (c : MB) (e : M) (σ : Sls) (ds : List D) : R (List D) := match r with
  | .ok y S2 => lcY3 y (lcL g c e σ ds S2)
  | _ => .bad
def lcY1 (r : R Bool) (g : MG) (c : MB) (e : M) (σ σ1 : Sls) (ds : List D) : R (List D) := match r with
  | .ok true S1 => lcY2 (e σ1 S1) g c e σ ds
  | .ok false S1 => lcL g c e σ ds S1
  | _ => .bad
def lcY (o : Option Sls) (g : MG) (c : MB) (e : M) (σ : Sls) (ds : List D) (S : Store) : R (List D) := match o with
  | none => .bad
  | some σ1 => lcY1 (c σ1 S) g c e σ σ1 ds
def runK (r : Fl) : R D := match r with
  | .nx _ S' => .ok .non S'
  | .ret d S' => .ok d S'
  | _ => .bad
def idxR (o : Option Cell) (k : Int) : Option D := match o with
  | some (.lst ds) => atI ds k
  | _ => none
def setR (o : Option Cell) (S : Store) (m : Nat) (k : Int) (d : D) : Option Store := match o with
  | some (.lst ds) => (ixN ds.length k).map fun j => S.set m (.lst (ds.set j d))
  | _ => none
section
variable {σ σ1 σ2 : Sls} {S S1 S2 : Store} {a b c e : M} {g g' : Store → D → D → Option D} {g1 : Store → D → Option D} {gb : Store → List D → Option D} {x y z d : D} {ds xs : List D} {i j : Nat} {ma mr : MA} {ca cb : MB} {sa sb : MS} {fn : Fn} {tg : MG} {it : MI} {lo hi : MO} {v : Sl} {n : Nat} {t : Ty} {Ts : List Ty} {p : Bool} {α β : Type}
theorem e_C : mC d σ S = .ok d S := rfl
theorem e_V : mV i σ S = varK σ[i]? S := by
  unfold mV
  cases σ[i]? with
  | none => rfl
  | some s => cases s <;> rfl
theorem e_var : varK (some (.val d)) S = .ok d S := rfl
theorem e_of : (R.of (some d) S : R D) = .ok d S := rfl
theorem e_ofb : (R.of (some p) S : R Bool) = .ok p S := rfl
theorem e_bin : mBin g a b σ S = binK g (a σ S) b σ := rfl
theorem e_bin1 : binK g (.ok x S) b σ = binK2 g x (b σ S) := rfl
theorem e_bin2 : binK2 g x (.ok y S) = R.of (g S x y) S := rfl
theorem e_un : mUn g1 a σ S = unK g1 (a σ S) := rfl
theorem e_un1 : unK g1 (.ok x S) = R.of (g1 S x) S := rfl
theorem e_B : mB a σ S = bK (a σ S) := rfl
theorem e_B1 : bK (.ok (.bl p) S) = .ok p S := rfl
theorem e_tru : mTru a σ S = truK (a σ S) := rfl
theorem e_tru1 : truK (.ok d S) = R.of (truD S d) S := rfl
theorem e_and : mAndB ca cb σ S = andK (ca σ S) cb σ := rfl
theorem e_and1 : andK (.ok true S) cb σ = cb σ S := rfl
theorem e_and2 : andK (.ok false S) cb σ = .ok false S := rfl
theorem e_or : mOrB ca cb σ S = orK (ca σ S) cb σ := rfl
theorem e_or1 : orK (.ok true S) cb σ = .ok true S := rfl
theorem e_or2 : orK (.ok false S) cb σ = cb σ S := rfl
theorem e_not : mNotB ca σ S = notK (ca σ S) := rfl
theorem e_not1 : notK (.ok p S) = .ok (!p) S := rfl
theorem e_andv : mAnd a b σ S = andV (bK (a σ S)) b σ := rfl
theorem e_andv1 : andV (.ok true S) b σ = b σ S := rfl
theorem e_andv2 : andV (.ok false S) b σ = .ok (.bl false) S := rfl
theorem e_orv : mOr a b σ S = orV (bK (a σ S)) b σ := rfl
theorem e_orv1 : orV (.ok true S) b σ = .ok (.bl true) S := rfl
theorem e_orv2 : orV (.ok false S) b σ = b σ S := rfl
theorem e_notv : mNot a σ S = notV (bK (a σ S)) := rfl
theorem e_notv1 : notV (.ok p S) = .ok (.bl (!p)) S := rfl
theorem e_if : mIf ca a b σ S = ifK (ca σ S) a b σ := rfl
theorem e_if1 : ifK (.ok true S) a b σ = a σ S := rfl
theorem e_if2 : ifK (.ok false S) a b σ = b σ S := rfl
theorem e_ch : mChain g g' a b c σ S = chK1 g g' (a σ S) b c σ := rfl
theorem e_ch1 : chK1 g g' (.ok x S) b c σ = chK2 g g' x (b σ S) c σ := rfl
theorem e_ch2 : chK2 g g' x (.ok y S) c σ = chK3 (g S x y) g' y c σ S := rfl
theorem e_ch3 : chK3 (some (.bl true)) g' y c σ S = chK4 g' y (c σ S) := rfl
theorem e_ch4 : chK3 (some (.bl false)) g' y c σ S = .ok (.bl false) S := rfl
theorem e_ch5 : chK4 g' y (.ok z S) = R.of (g' S y z) S := rfl
theorem e_nil : mNil σ S = .ok [] S := rfl
theorem e_cons : mCons a mr σ S = consK (a σ S) mr σ := rfl
theorem e_cons1 : consK (.ok x S) mr σ = consK2 x (mr σ S) := rfl
theorem e_cons2 : consK2 x (.ok xs S) = .ok (x :: xs) S := rfl
theorem e_tup : mTup ma σ S = tupK (ma σ S) := rfl
theorem e_tup1 : tupK (.ok ds S) = .ok (.tup ds) S := rfl
theorem e_lst : mLst ma σ S = lstK (ma σ S) := rfl
theorem e_lst1 : lstK (.ok ds S) = .ok (.lst ds) S := rfl
theorem e_ref : mRefL ma σ S = refK (ma σ S) := rfl
theorem e_ref1 : refK (.ok ds S) = .ok (.ref S.length) (S ++ [.lst ds]) := rfl
theorem e_blt : mBlt gb ma σ S = bltK gb (ma σ S) := rfl
theorem e_blt1 : bltK gb (.ok ds S) = R.of (gb S ds) S := rfl
theorem e_call : mCall fn ma σ S = callK fn (ma σ S) := rfl
theorem e_call1 : callK fn (.ok ds S) = fn ds S := rfl
theorem e_sli : mSli a lo hi σ S = sliK1 (a σ S) lo hi σ := rfl
theorem e_sli1 : sliK1 (.ok x S) lo hi σ = sliK2 x (lo σ S) hi σ := rfl
theorem e_sli2 {l : Option Int} : sliK2 x (.ok l S) hi σ = sliK3 x l (hi σ S) := rfl
theorem e_sli3 {l h : Option Int} : sliK3 x l (.ok h S) = R.of (sliD S x l h) S := rfl
theorem e_on : mON σ S = .ok none S := rfl
theorem e_os : mOS a σ S = osK (a σ S) := rfl
theorem e_os1 {k : Int} : osK (.ok (.int k) S) = .ok (some k) S := rfl
theorem e_isi : mIsi Ts a σ S = isiK Ts (a σ S) := rfl
theorem e_isi1 : isiK Ts (.ok d S) = isiK2 Ts (tyOf S d) S := rfl
theorem e_isi2 : isiK2 Ts (some t) S = .ok (.bl (Ts.any fun T => t.isA T)) S := rfl
theorem e_seq : mSeq sa sb σ S = (sa σ S).next sb := rfl
theorem e_nx : (Fl.nx σ S).next sb = sb σ S := rfl
theorem e_nret : (Fl.ret d S).next sb = .ret d S := rfl
theorem e_nbk : (Fl.bk σ S).next sb = .bk σ S := rfl
theorem e_nct : (Fl.ct σ S).next sb = .ct σ S := rfl
theorem e_skip : mSkip σ S = .nx σ S := rfl
theorem e_set : mSet i a σ S = setK i (a σ S) σ := rfl
theorem e_set1 : setK i (.ok d S) σ = .nx (σ.set i (.val d)) S := rfl
theorem e_setU : mSetU i ma σ S = setUK i (ma σ S) σ := rfl
theorem e_setU1 : setUK i (.ok ds S) σ = .nx (σ.set i (.uq ds)) S := rfl
theorem e_drop : mDrop a σ S = dropK (a σ S) σ := rfl
theorem e_drop1 : dropK (.ok d S) σ = .nx σ S := rfl
theorem e_ret : mRet a σ S = retK (a σ S) σ := rfl
theorem e_ret1 : retK (.ok d S) σ = .ret d S := rfl
theorem e_retN : mRetN σ S = .ret .non S := rfl
theorem e_ifS : mIfS ca sa sb σ S = ifSK (ca σ S) sa sb σ := rfl
theorem e_ifS1 : ifSK (.ok true S) sa sb σ = sa σ S := rfl
theorem e_ifS2 : ifSK (.ok false S) sa sb σ = sb σ S := rfl
theorem e_brk : mBrk σ S = .bk σ S := rfl
theorem e_cont : mCont σ S = .ct σ S := rfl
theorem e_asg : mAsg tg a σ S = asgK tg (a σ S) σ := rfl
theorem e_asg1 : asgK tg (.ok d S) σ = asgK2 (tg d σ) S := rfl
theorem e_asg2 : asgK2 (some σ1) S = .nx σ1 S := rfl
theorem e_gN : gN i d σ = some (σ.set i (.val d)) := rfl
theorem e_gT {r : MGs} : gT r (.tup ds) σ = r ds σ := rfl
theorem e_gC {r : MGs} : gsCons tg r (d :: ds) σ = (tg d σ).bind (r ds) := rfl
theorem e_g0 : gsNil [] σ = some σ := rfl
theorem e_par : mPar i j ma σ S = parK i j (ma σ S) σ := rfl
theorem e_par1 : parK i j (.ok [x, y] S) σ = .nx ((σ.set i (.val x)).set j (.val y)) S := rfl
theorem e_st : mStI a b e σ S = stK1 (e σ S) a b σ := rfl
theorem e_st1 : stK1 (.ok d S) a b σ = stK2 d (a σ S) b σ := rfl
theorem e_st2 : stK2 d (.ok x S) b σ = stK3 d x (b σ S) σ := rfl
theorem e_st3 : stK3 d x (.ok y S) σ = stK4 (setS S x y d) σ := rfl
theorem e_st4 : stK4 (some S) σ = .nx σ S := rfl
theorem e_app : mApp i e σ S = appK i σ[i]? e σ S := rfl
theorem e_app1 : appK i (some (.uq ds)) e σ S = appK2 i ds (e σ S) σ := rfl
theorem e_app2 : appK2 i ds (.ok d S) σ = if ds.length < sizeLine then .nx (σ.set i (.uq (ds ++ [d]))) S else .bad := rfl
theorem e_frz : mFrz i σ S = frzK i σ[i]? σ S := rfl
theorem e_frz1 : frzK i (some v) σ S = .nx (σ.set i (frzSl v)) S := rfl
theorem e_frz2 : frzSl (.uq ds) = .val (.lst ds) := rfl
theorem e_frz3 : frzSl (.val d) = .val d := rfl
theorem e_for : mFor it tg sb σ S = forK (it σ S) tg sb σ := rfl
theorem e_for1 : forK (.ok ds S) tg sb σ = forL tg sb ds σ S := rfl
theorem e_fl0 : forL tg sb [] σ S = .nx σ S := rfl
theorem e_fl : forL tg sb (d :: ds) σ S = forK1 (tg d σ) tg sb ds S := by
  rw [forL]
  cases tg d σ with
  | none => rfl
  | some σ1 =>
    unfold forK1 forK2
    cases sb σ1 S <;> rfl
theorem e_fl1 : forK1 (some σ1) tg sb ds S = forK2 (sb σ1 S) tg sb ds := rfl
theorem e_fl2 : forK2 (.nx σ S) tg sb ds = forL tg sb ds σ S := rfl
theorem e_fl3 : forK2 (.ct σ S) tg sb ds = forL tg sb ds σ S := rfl
theorem e_fl4 : forK2 (.bk σ S) tg sb ds = .nx σ S := rfl
theorem e_fl5 : forK2 (.ret d S) tg sb ds = .ret d S := rfl
theorem w_unf : whileF ca sb (n + 1) σ S = wK (ca σ S) ca sb n σ := by
  rw [whileF]
  unfold wK wK2
  cases ca σ S with
  | ok t S1 => cases t with
    | true =>
      cases sb σ S1 <;> rfl
    | false => rfl
  | exc _ _ _ => rfl
  | bad => rfl
theorem e_w1 : wK (.ok true S) ca sb n σ = wK2 (sb σ S) ca sb n := rfl
theorem e_w2 : wK (.ok false S) ca sb n σ = .nx σ S := rfl
theorem e_w3 : wK2 (.nx σ S) ca sb n = whileF ca sb n σ S := rfl
theorem e_w4 : wK2 (.ct σ S) ca sb n = whileF ca sb n σ S := rfl
theorem e_w5 : wK2 (.bk σ S) ca sb n = .nx σ S := rfl
theorem e_w6 : wK2 (.ret d S) ca sb n = .ret d S := rfl
theorem e_wh : mWhile n ca sb σ S = whileF ca sb n σ S := rfl
theorem e_it : mIt a σ S = itK (a σ S) := rfl
theorem e_it1 : itK (.ok (.lst ds) S) = .ok ds S := rfl
theorem e_it2 : itK (.ok (.tup ds) S) = .ok ds S := rfl
theorem e_r1 : mR1 ma σ S = r1K (ma σ S) := rfl
theorem r1_ok {k : Int} (h1 : -(2 ^ 62) ≤ k) (h2 : k ≤ 16777216) : r1K (.ok [.int k] S) = .ok (rangeL 0 k.toNat) S := if_pos ⟨h1, h2⟩
theorem e_r2 : mR2 ma σ S = r2K (ma σ S) := rfl
theorem r2_ok {k l : Int} (h1 : l - k ≤ 16777216) (h2 : -(2 ^ 62) ≤ k) (h3 : k < 2 ^ 62) (h4 : -(2 ^ 62) ≤ l) (h5 : l < 2 ^ 62) : r2K (.ok [.int k, .int l] S) = .ok (rangeL k (l - k).toNat) S := if_pos ⟨h1, h2, h3, h4, h5⟩
theorem e_lc {own : List Nat} : mLc it own tg ca e σ S = lcK (it σ S) own tg ca e σ := rfl
theorem e_lc1 {own : List Nat} : lcK (.ok ds S) own tg ca e σ = lcK2 (lcL tg ca e (wipeS σ own) ds S) := rfl
theorem e_lc2 : lcK2 (.ok ds S) = .ok (.lst ds) S := rfl
theorem e_ll0 : lcL tg ca e σ [] S = .ok [] S := rfl
theorem e_ll : lcL tg ca e σ (d :: ds) S = lcY (tg d σ) tg ca e σ ds S := by
  rw [lcL]
  cases tg d σ with
  | none => rfl
  | some σ1 =>
    unfold lcY lcY1
    cases ca σ1 S with
    | ok t S1 => cases t with
      | true =>
        unfold lcY2
        cases e σ1 S1 with
        | ok y S2 =>
          unfold lcY3
          cases lcL tg ca e σ ds S2 <;> rfl
        | exc _ _ _ => rfl
        | bad => rfl
      | false => rfl
    | exc _ _ _ => rfl
    | bad => rfl
theorem e_ll1 : lcY (some σ1) tg ca e σ ds S = lcY1 (ca σ1 S) tg ca e σ σ1 ds := rfl
theorem e_ll2 : lcY1 (.ok true S) tg ca e σ σ1 ds = lcY2 (e σ1 S) tg ca e σ ds := rfl
theorem e_ll3 : lcY1 (.ok false S) tg ca e σ σ1 ds = lcL tg ca e σ ds S := rfl
theorem e_ll4 : lcY2 (.ok y S) tg ca e σ ds = lcY3 y (lcL tg ca e σ ds S) := rfl
theorem e_ll5 : lcY3 y (.ok ds S) = .ok (y :: ds) S := rfl
theorem e_yes : mYes σ S = .ok true S := rfl
theorem e_w0 : wipeS σ [] = σ := rfl
theorem e_w01 {is : List Nat} : wipeS σ (i :: is) = (wipeS σ is).set i .no := rfl
theorem e_run : runFn0 n sb ds S = runK (sb (ds.map .val ++ List.replicate (n - ds.length) .no) S) := rfl
theorem e_run1 : runK (.nx σ S) = .ok .non S := rfl
theorem e_run2 : runK (.ret d S) = .ok d S := rfl
theorem o_add {p q : Int} : addD S (.int p) (.int q) = some (.int (p + q)) := rfl
theorem o_sub {p q : Int} : subD S (.int p) (.int q) = some (.int (p - q)) := rfl
theorem o_neg {p : Int} : negD S (.int p) = some (.int (-p)) := rfl
theorem o_lt {p q : Int} : ltD S (.int p) (.int q) = some (.bl (decide (p < q))) := rfl
theorem o_le {p q : Int} : leD S (.int p) (.int q) = some (.bl (decide (p ≤ q))) := rfl
theorem o_gt {p q : Int} : gtD S (.int p) (.int q) = some (.bl (decide (q < p))) := rfl
theorem o_ge {p q : Int} : geD S (.int p) (.int q) = some (.bl (decide (q ≤ p))) := rfl
theorem o_eqb : eqB S x y = (eqD S x y).map .bl := rfl
theorem o_neb : neB S x y = (eqD S x y).map fun b => .bl (!b) := rfl
theorem o_eqi {p q : Int} : eqD S (.int p) (.int q) = some (decide (p = q)) := rfl
theorem o_eqs {p q : Str} : eqD S (.str p) (.str q) = some (decide (p = q)) := rfl
theorem o_eqbl {p q : Bool} : eqD S (.bl p) (.bl q) = some (decide (p = q)) := rfl
theorem o_eqn : eqD S .non .non = some true := rfl
theorem o_eqni {q : Int} : eqD S .non (.int q) = some false := rfl
theorem o_eqin {q : Int} : eqD S (.int q) .non = some false := rfl
theorem o_is : isB S x .non = some (.bl (isNonD x)) := by unfold isB; cases x <;> rfl
theorem o_isn : isnotB S x .non = some (.bl (!isNonD x)) := by unfold isnotB; cases x <;> rfl
theorem o_nn161 : isNonD .non = true := rfl
theorem o_nn162 {q : Int} : isNonD (.int q) = false := rfl
theorem o_nn163 {q : Bool} : isNonD (.bl q) = false := rfl
theorem o_nn164 {q : Str} : isNonD (.str q) = false := rfl
theorem o_nn165 {q : List D} : isNonD (.tup q) = false := rfl
theorem o_nn166 {q : List D} : isNonD (.lst q) = false := rfl
theorem o_nn167 {q : Nat} : isNonD (.ref q) = false := rfl
theorem o_idx {k : Int} : idxD S (.lst ds) (.int k) = atI ds k := rfl
theorem o_idxt {k : Int} : idxD S (.tup ds) (.int k) = atI ds k := rfl
theorem o_idxr {k : Int} : idxD S (.ref i) (.int k) = idxR S[i]? k := by
  unfold idxD seqOf lstOf idxR
  cases h : S[i]? with
  | none => simp only [h]
  | some c => cases c <;> simp only [h]
theorem o_idxr1 {k : Int} : idxR (some (.lst ds)) k = atI ds k := rfl
theorem o_set {k : Int} : setS S (.ref i) (.int k) d = setR S[i]? S i k d := rfl
theorem o_set1 {k : Int} : setR (some (.lst ds)) S i k d = (ixN ds.length k).map fun j => S.set i (.lst (ds.set j d)) := rfl
theorem o_tru174 {q : Bool} : truD S (.bl q) = some q := rfl
theorem o_tru175 : truD S .non = some false := rfl
theorem o_trui {q : Int} : truD S (.int q) = some (q != 0) := rfl
theorem o_trul : truD S (.lst ds) = some (!ds.isEmpty) := rfl
theorem o_trut : truD S (.tup ds) = some (!ds.isEmpty) := rfl
theorem o_lenl : lenD S [.lst ds] = some (.int ds.length) := rfl
theorem o_lent : lenD S [.tup ds] = some (.int ds.length) := rfl
theorem o_abs {q : Int} : absD S [.int q] = some (.int (if q < 0 then -q else q)) := rfl
theorem o_int {q : Int} : intD S [.int q] = some (.int q) := rfl
theorem o_intb : intD S [.bl p] = some (.int (if p = true then 1 else 0)) := rfl
theorem o_max {q r : Int} : maxD S [.int q, .int r] = some (.int (if r > q then r else q)) := rfl
theorem o_min {q r : Int} : minD S [.int q, .int r] = some (.int (if r < q then r else q)) := rfl
theorem o_tupt : tupleD S [.tup ds] = some (.tup ds) := rfl
theorem o_tupl : tupleD S [.lst ds] = some (.tup ds) := rfl
theorem o_listt : listD S [.tup ds] = some (.lst ds) := rfl
theorem o_listl : listD S [.lst ds] = some (.lst ds) := rfl
theorem o_slil {l h : Option Int} : sliD S (.lst ds) l h = some (.lst (cutL ds l h)) := rfl
theorem o_slit {l h : Option Int} : sliD S (.tup ds) l h = some (.tup (cutL ds l h)) := rfl
theorem o_ty192 : tyOf S .non = some .non := rfl
theorem o_ty193 {q : Int} : tyOf S (.int q) = some .int := rfl
theorem o_ty194 {q : Bool} : tyOf S (.bl q) = some .bool := rfl
theorem o_ty195 {q : Str} : tyOf S (.str q) = some .str := rfl
theorem o_ty196 {q : List D} : tyOf S (.tup q) = some .tuple := rfl
theorem o_ty197 {q : List D} : tyOf S (.lst q) = some .list := rfl
end
section
variable {α : Type} {x y z u v : α} {l : List α}
theorem atI0 : atI (x :: l) 0 = some x := atI_nat (j := 0) rfl
theorem atI1 : atI (x :: y :: l) 1 = some y := atI_nat (j := 1) rfl
theorem atI2 : atI (x :: y :: z :: l) 2 = some z := atI_nat (j := 2) rfl
theorem atI3 : atI (x :: y :: z :: u :: l) 3 = some u := atI_nat (j := 3) rfl
theorem atI4 : atI (x :: y :: z :: u :: v :: l) 4 = some v := atI_nat (j := 4) rfl
theorem ix0 {n : Nat} : ixN (n + 1) 0 = some 0 := by
  unfold ixN
  rw [if_pos (Int.le_refl 0), if_pos (by omega)]
  rfl
theorem ix1 {n : Nat} : ixN (n + 2) 1 = some 1 := by
  unfold ixN
  rw [if_pos (by omega), if_pos (by omega)]
  rfl
theorem ix2 {n : Nat} : ixN (n + 3) 2 = some 2 := by
  unfold ixN
  rw [if_pos (by omega), if_pos (by omega)]
  rfl
end
theorem get_set {S : Store} {n : Nat} {c d : Cell} (h : S[n]? = some c) : (S.set n d)[n]? = some d := List.getElem?_set_self (List.getElem?_eq_some_iff.mp h).1
theorem get_ne {S : Store} {n m : Nat} {d : Cell} (h : n ≠ m) : (S.set n d)[m]? = S[m]? := List.getElem?_set_ne h
theorem get_app {S : Store} {c : Cell} : (S ++ [c])[S.length]? = some c := by rw [List.getElem?_append_right (Nat.le_refl _), Nat.sub_self]; rfl
theorem get_old {S : Store} {n : Nat} {c d : Cell} (h : S[n]? = some c) : (S ++ [d])[n]? = some c := by rw [List.getElem?_append_left (List.getElem?_eq_some_iff.mp h).1]; exact h
theorem mulOk_l {i j : Int} (h1 : -(2 ^ 64) < i) (h2 : i < 2 ^ 64) : MulOk i j := .inl (.inl ⟨h1, h2⟩)
theorem mulOk_r {i j : Int} (h1 : -(2 ^ 64) < j) (h2 : j < 2 ^ 64) : MulOk i j := .inl (.inr ⟨h1, h2⟩)
theorem divOk_s {j : Int} (h1 : 0 < j) (h2 : j ≤ 10 ^ 60) : DivOk j := by
  refine ⟨h1, .inr ?_⟩
  have h3 : j.natAbs < 2 ^ 200 := by
    have e : (10 : Int) ^ 60 = ((10 ^ 60 : Nat) : Int) := by norm_cast
    rw [e] at h2
    have e2 : (10 : Nat) ^ 60 < 2 ^ 200 := by decide
    omega
  exact Nat.lt_of_lt_of_le (PySem.Flt.log2_lt_of (by decide) h3) (by decide)
theorem mul_ok {S : Store} {i j : Int} (h : MulOk i j) : mulD S (.int i) (.int j) = some (.int (i * j)) := if_pos h
theorem div_ok {S : Store} {i j : Int} (h : DivOk j) : divD S (.int i) (.int j) = some (.int (i / j)) := if_pos h
theorem mod_ok {S : Store} {i j : Int} (h : 0 < j) : modD S (.int i) (.int j) = some (.int (i % j)) := if_pos h
theorem pow_ok {S : Store} {i j : Int} (h : PowOk i j) : powD S (.int i) (.int j) = some (.int (i ^ j.toNat)) := if_pos h
end PL

set_option Elab.async false
set_option linter.all false
set_option maxRecDepth 100000
set_option maxHeartbeats 4000000
namespace PL
open PySem PySem.Spec PyProof.Rows L2
theorem str_inj {a b : String} : (Str.ofString a = Str.ofString b) = (a = b) := by
  apply propext
  constructor
  · intro h
    rw [PySem.Str.ofString_eq_toList, PySem.Str.ofString_eq_toList] at h
    injection h with h1
    have h2 : a.toList.map Char.toNat = b.toList.map Char.toNat := by simpa using h1
    have h3 : a.toList = b.toList := by
      refine (List.map_inj_right (f := Char.toNat) ?_).mp h2
      intro x y hxy
      exact Char.ext (UInt32.toNat.inj hxy)
    exact String.ext h3
  · intro h; rw [h]
section
variable {S : Store} {x y : D} {ds : List D}
theorem o_in : inB S x y = (inD S x y).map .bl := rfl
theorem o_nin : notinB S x y = (inD S x y).map fun b => .bl (!b) := rfl
def inT (c : Bool) (S : Store) (x : D) (y : D) (ds : List D) : Option Bool := if c = true then some (ds.any fun z => eqF z x) else inD S x y
theorem in_t : inD S x (.tup ds) = inT (flatD x && ds.all flatD) S x (.tup ds) ds := by
  unfold inT
  split
  · rename_i h
    rw [Bool.and_eq_true] at h
    unfold inD seqOf lstOf
    simp only
    rw [if_pos h]
  · rfl
theorem in_l : inD S x (.lst ds) = inT (flatD x && ds.all flatD) S x (.lst ds) ds := by
  unfold inT
  split
  · rename_i h
    rw [Bool.and_eq_true] at h
    unfold inD seqOf lstOf
    simp only
    rw [if_pos h]
  · rfl
theorem in_1 : inT true S x y ds = some (ds.any fun z => eqF z x) := rfl
theorem f_non : flatD .non = true := rfl
theorem f_bl {b : Bool} : flatD (.bl b) = true := rfl
theorem f_int {i : Int} : flatD (.int i) = true := rfl
theorem f_str {s : Str} : flatD (.str s) = true := rfl
theorem q_int {i j : Int} : eqF (.int i) (.int j) = (i == j) := rfl
theorem q_str {i j : Str} : eqF (.str i) (.str j) = (i == j) := rfl
theorem all_l : allD S [.lst ds] = (boolsOf ds).map fun ns => .bl (ns.all id) := rfl
theorem any_l : anyD S [.lst ds] = (boolsOf ds).map fun ns => .bl (ns.any id) := rfl
theorem b_0 : boolsOf [] = some [] := rfl
theorem b_1 {b : Bool} : boolsOf (.bl b :: ds) = (boolsOf ds).map (b :: ·) := rfl
theorem cut_0n {α : Type} {xs : List α} {k : Int} (h : 0 ≤ k) : cutL xs none (some k) = xs.take k.toNat := by
  unfold cutL HT.sIx
  simp only [Nat.sub_zero, List.drop_zero]
  rw [if_neg (by omega)]
  by_cases h1 : k.toNat ≤ xs.length
  · rw [Nat.min_eq_left h1]
  · rw [Nat.min_eq_right (by omega), List.take_of_length_le (Nat.le_refl _), List.take_of_length_le (by omega)]
theorem cut_n0 {α : Type} {xs : List α} {k : Int} (h : 0 ≤ k) : cutL xs (some k) none = xs.drop k.toNat := by
  unfold cutL HT.sIx
  simp only
  rw [if_neg (by omega)]
  by_cases h1 : k.toNat ≤ xs.length
  · rw [Nat.min_eq_left h1, List.take_of_length_le (by rw [List.length_drop]; omega)]
  · rw [Nat.min_eq_right (by omega), List.drop_of_length_le (Nat.le_refl _), List.drop_of_length_le (by omega), List.take_nil]
theorem cut_00 {α : Type} {xs : List α} : cutL xs none none = xs := by
  unfold cutL HT.sIx
  simp only [Nat.sub_zero, List.drop_zero]
  exact List.take_of_length_le (Nat.le_refl _)
theorem cut_nn {α : Type} {xs : List α} {k l : Int} (h : 0 ≤ k) (h2 : 0 ≤ l) : cutL xs (some k) (some l) = (xs.take l.toNat).drop k.toNat := by
  unfold cutL HT.sIx
  simp only
  rw [if_neg (by omega), if_neg (by omega), List.drop_take]
  by_cases h1 : k.toNat ≤ xs.length
  · rw [Nat.min_eq_left h1]
    by_cases h3 : l.toNat ≤ xs.length
    · rw [Nat.min_eq_left h3]
    · rw [Nat.min_eq_right (by omega), List.take_of_length_le (by rw [List.length_drop]; omega), List.take_of_length_le (by rw [List.length_drop]; omega)]
  · rw [Nat.min_eq_right (a := k.toNat) (b := xs.length) (by omega), List.drop_of_length_le (Nat.le_refl _), List.drop_of_length_le (i := k.toNat) (by omega), List.take_nil, List.take_nil]
theorem rangeL_0 {lo : Int} : rangeL lo 0 = [] := rfl
theorem rangeL_s {lo : Int} {n : Nat} : rangeL lo (n + 1) = .int lo :: rangeL (lo + 1) n := by
  unfold rangeL
  rw [List.range_succ_eq_map, List.map_cons, List.map_map]
  congr 1
  · simp
  · apply List.map_congr_left
    intro a ha
    simp only [Function.comp_apply]
    congr 1
    omega
theorem add_ll {a b : List D} (h : a.length + b.length ≤ 1000000) : addD S (.lst a) (.lst b) = some (.lst (a ++ b)) := if_pos (Nat.le_trans h (by decide))
theorem add_tt {a b : List D} (h : a.length + b.length ≤ 1000000) : addD S (.tup a) (.tup b) = some (.tup (a ++ b)) := if_pos (Nat.le_trans h (by decide))
theorem powOk_10 {k : Int} (h1 : 0 ≤ k) (h2 : k ≤ 1000000) : PowOk 10 k := ⟨h1, h2, by decide⟩
theorem forL_inv {tg : MG} {sb : MS} (P : Nat → Sls → Store → Prop) : ∀ (ds : List D) (i : Nat) {σ : Sls} {S : Store}, P i σ S →
    (∀ k d σ S, ds[k]? = some d → P (i + k) σ S → ∃ σ1 σ2 S2, tg d σ = some σ1 ∧ (sb σ1 S = .nx σ2 S2 ∨ sb σ1 S = .ct σ2 S2) ∧ P (i + k + 1) σ2 S2) →
    ∃ σ2 S2, forL tg sb ds σ S = .nx σ2 S2 ∧ P (i + ds.length) σ2 S2
  | [], i, σ, S, h, _ => ⟨σ, S, rfl, h⟩
  | d :: ds, i, σ, S, h, st => by
    obtain ⟨σ1, σ2, S2, e1, e2, e3⟩ := st 0 d σ S rfl h
    obtain ⟨σ3, S3, e4, e5⟩ := forL_inv P ds (i + 1) (σ := σ2) (S := S2) e3 (fun k d σ S hk hp => by
      have := st (k + 1) d σ S hk (by rw [show i + (k + 1) = i + 1 + k by omega]; exact hp)
      rw [show i + 1 + k + 1 = i + (k + 1) + 1 by omega]
      exact this)
    refine ⟨σ3, S3, ?_, by rw [List.length_cons, show i + (ds.length + 1) = i + 1 + ds.length by omega]; exact e5⟩
    rw [e_fl, e1, e_fl1]
    rcases e2 with e2 | e2
    · rw [e2, e_fl2, e4]
    · rw [e2, e_fl3, e4]
theorem forL_mem {tg : MG} {sb : MS} (P : Sls → Store → Prop) (ds : List D) {σ : Sls} {S : Store} (h : P σ S)
    (st : ∀ d σ S, d ∈ ds → P σ S → ∃ σ1 σ2 S2, tg d σ = some σ1 ∧ (sb σ1 S = .nx σ2 S2 ∨ sb σ1 S = .ct σ2 S2) ∧ P σ2 S2) :
    ∃ σ2 S2, forL tg sb ds σ S = .nx σ2 S2 ∧ P σ2 S2 :=
  forL_inv (fun _ => P) ds 0 h fun k d σ S e p => st d σ S (List.mem_of_getElem? e) p
def Stp (P : Sls → Store → Prop) : Fl → Prop
  | .nx σ S => P σ S
  | .ct σ S => P σ S
  | _ => False
def StpG (P : Sls → Store → Prop) (sb : MS) (S : Store) : Option Sls → Prop
  | some σ => Stp P (sb σ S)
  | none => False
theorem e_sg {P : Sls → Store → Prop} {sb : MS} {S : Store} {σ : Sls} : StpG P sb S (some σ) = Stp P (sb σ S) := rfl
theorem stp_nx {P : Sls → Store → Prop} {S : Store} {σ : Sls} (h : P σ S) : Stp P (.nx σ S) := h
theorem stp_ct {P : Sls → Store → Prop} {S : Store} {σ : Sls} (h : P σ S) : Stp P (.ct σ S) := h
theorem stpG_ex {P : Sls → Store → Prop} {sb : MS} {S : Store} {o : Option Sls} (h : StpG P sb S o) : ∃ σ1 σ2 S2, o = some σ1 ∧ (sb σ1 S = .nx σ2 S2 ∨ sb σ1 S = .ct σ2 S2) ∧ P σ2 S2 := by
  unfold StpG at h
  split at h
  · rename_i σ1
    unfold Stp at h
    split at h
    · rename_i e; exact ⟨_, _, _, rfl, .inl e, h⟩
    · rename_i e; exact ⟨_, _, _, rfl, .inr e, h⟩
    · exact h.elim
  · exact h.elim
theorem forL_to (P : Sls → Store → Prop) (G : Fl → Prop) {tg : MG} {sb : MS} {ds : List D} {σ : Sls} {S : Store} (h : P σ S)
    (st : ∀ d σ S, d ∈ ds → P σ S → StpG P sb S (tg d σ))
    (fin : ∀ σ2 S2, P σ2 S2 → G (.nx σ2 S2)) : G (forL tg sb ds σ S) := by
  obtain ⟨σ2, S2, e, p⟩ := forL_mem P ds h (fun d σ S hd hp => stpG_ex (st d σ S hd hp))
  rw [e]
  exact fin σ2 S2 p
theorem forL_toI (P : Nat → Sls → Store → Prop) (G : Fl → Prop) {tg : MG} {sb : MS} {ds : List D} {σ : Sls} {S : Store} (h : P 0 σ S)
    (st : ∀ k d σ S, ds[k]? = some d → P k σ S → StpG (P (k + 1)) sb S (tg d σ))
    (fin : ∀ σ2 S2, P ds.length σ2 S2 → G (.nx σ2 S2)) : G (forL tg sb ds σ S) := by
  obtain ⟨σ2, S2, e, p⟩ := forL_inv P ds 0 h (fun k d σ S e q => by
    rw [Nat.zero_add] at q ⊢
    exact stpG_ex (st k d σ S e q))
  rw [e]
  rw [Nat.zero_add] at p
  exact fin σ2 S2 p
theorem whileF_inv {ca : MB} {sb : MS} (P : Nat → Sls → Store → Prop) (n : Nat) : ∀ (k fuel : Nat) {σ : Sls} {S : Store}, P k σ S → k < fuel →
    (∀ k σ S, P (k + 1) σ S → ∃ σ2 S2, ca σ S = .ok true S ∧ (sb σ S = .nx σ2 S2 ∨ sb σ S = .ct σ2 S2) ∧ P k σ2 S2) →
    (∀ σ S, P 0 σ S → ca σ S = .ok false S) →
    ∃ σ2 S2, whileF ca sb fuel σ S = .nx σ2 S2 ∧ P 0 σ2 S2
  | 0, fuel, σ, S, h, hf, _, fin => by
    obtain ⟨f, rfl⟩ : ∃ f, fuel = f + 1 := ⟨fuel - 1, by omega⟩
    refine ⟨σ, S, ?_, h⟩
    rw [w_unf, fin σ S h, e_w2]
  | k + 1, fuel, σ, S, h, hf, st, fin => by
    obtain ⟨f, rfl⟩ : ∃ f, fuel = f + 1 := ⟨fuel - 1, by omega⟩
    obtain ⟨σ2, S2, e1, e2, e3⟩ := st k σ S h
    obtain ⟨σ3, S3, e4, e5⟩ := whileF_inv P n k f e3 (by omega) st fin
    refine ⟨σ3, S3, ?_, e5⟩
    rw [w_unf, e1, e_w1]
    rcases e2 with e2 | e2
    · rw [e2, e_w3, e4]
    · rw [e2, e_w4, e4]
theorem whileF_to {ca : MB} {sb : MS} (P : Nat → Sls → Store → Prop) (G : Fl → Prop) (k : Nat) {fuel : Nat} {σ : Sls} {S : Store} (h : P k σ S) (hf : k < fuel)
    (st : ∀ k σ S, P (k + 1) σ S → ∃ σ2 S2, ca σ S = .ok true S ∧ (sb σ S = .nx σ2 S2 ∨ sb σ S = .ct σ2 S2) ∧ P k σ2 S2)
    (f0 : ∀ σ S, P 0 σ S → ca σ S = .ok false S)
    (fin : ∀ σ2 S2, P 0 σ2 S2 → G (.nx σ2 S2)) : G (whileF ca sb fuel σ S) := by
  obtain ⟨σ2, S2, e, p⟩ := whileF_inv P 0 k fuel h hf st f0
  rw [e]
  exact fin σ2 S2 p
end
end PL

set_option Elab.async false
set_option linter.all false
set_option maxRecDepth 100000
set_option maxHeartbeats 4000000
namespace PL
open PySem PySem.Spec PyProof.Rows L2
open PySem.Sem (wp)
/-- an iterator over a list (k) or a tuple -/
def SI : Bool → Heap → Addr → Addr → Nat → Prop
  | true, h, it, l, i => h.IsListIter it l i
  | false, h, it, l, i => h.IsTupleIter it l i
def SQ : Bool → Heap → Addr → Array Value → Prop
  | true, h, l, xs => h.IsList l xs
  | false, h, l, xs => h.IsTuple l xs
theorem SI.ext {k : Bool} {h h' : Heap} {it l x : Addr} {i : Nat} (a : SI k h it l i) (e : Heap.ExtBut x h h') (n : it ≠ x) : SI k h' it l i := by
  cases k with
  | true => exact Heap.IsListIter.extBut a e n
  | false => exact Heap.IsTupleIter.extBut a e n
theorem SI.keep {k : Bool} {h h' : Heap} {it l : Addr} {i : Nat} (a : SI k h it l i) (e : ∀ o, h.get? it = some o → h'.get? it = some o) : SI k h' it l i := by
  cases k with
  | true => exact Heap.IsListIter.at a e
  | false => exact Heap.IsTupleIter.at a e
theorem SI.obj {k : Bool} {h : Heap} {it l : Addr} {i : Nat} (a : SI k h it l i) : ∃ o, h.get? it = some o ∧ ∀ v, o.data ≠ .cell v := by
  cases k with
  | true => obtain ⟨o, e, _, d⟩ := a; exact ⟨o, e, fun v q => by rw [d] at q; cases q⟩
  | false => obtain ⟨o, e, _, d⟩ := a; exact ⟨o, e, fun v q => by rw [d] at q; cases q⟩
theorem SI.lt {k : Bool} {h : Heap} {it l : Addr} {i : Nat} (a : SI k h it l i) : it < h.objs.size := by
  obtain ⟨o, e, _⟩ := a.obj
  exact Heap.lt_size e
theorem SQ.ext {k : Bool} {h h' : Heap} {l x : Addr} {xs : Array Value} (a : SQ k h l xs) (e : Heap.ExtBut x h h') (n : l ≠ x) : SQ k h' l xs := by
  cases k with
  | true => exact Heap.IsList.extBut a e n
  | false => exact Heap.IsTuple.extBut a e n
section
variable {prog : Program} {w : World} {A : Around} {E : Value → Shared → Prop} {s : Shared}
theorem sq_next {k : Bool} {it l : Addr} {i : Nat} {xs : Array Value} {x : Value} {Q : Value → Shared → Prop} (a : SI k s.heap it l i) (b : SQ k s.heap l xs) (hx : xs[i]? = some x)
    (q : ∀ h', SI k h' it l (i + 1) → Heap.SameBut it s.heap h' → Q x { s with heap := h' }) : wpAny (model prog w) A (Builtin.SmallTypes.nextOf (.ref it)) Q E s := by
  cases k with
  | true => exact wpAny_nextOf_list_item a b hx q
  | false => exact RZ.nextOf_tuple_item a b hx q
theorem sq_stop {k : Bool} {it l : Addr} {i : Nat} {xs : Array Value} {Q : Value → Shared → Prop} (hh : A.handled = none) (a : SI k s.heap it l i) (b : SQ k s.heap l xs) (hx : xs[i]? = none)
    (q : ∀ h' e, Heap.ExtBut it s.heap h' → (∃ o, h'.get? e = some o ∧ o.cls = .type "StopIteration") → E (.ref e) { s with heap := h' }) : wpAny (model prog w) A (Builtin.SmallTypes.nextOf (.ref it)) Q E s := by
  cases k with
  | true => exact wpAny_nextOf_list_end hh a b hx q
  | false => exact RZ.nextOf_tuple_end hh a b hx q
theorem sq_nextE {k : Bool} {it l : Addr} {i : Nat} {xs : Array Value} {x : Value} {Q : Option Value → Shared → Prop} (a : SI k s.heap it l i) (b : SQ k s.heap l xs) (hx : xs[i]? = some x)
    (q : ∀ h', SI k h' it l (i + 1) → Heap.SameBut it s.heap h' → Q (some x) { s with heap := h' }) : wpAny (model prog w) A (Builtin.SmallTypes.nextOrEnd (.ref it)) Q E s := by
  unfold Builtin.SmallTypes.nextOrEnd
  exact wpAny_bind (wpAny_attempt (sq_next a b hx fun h' c d => wpAny_pure (q h' c d)))
theorem sq_stopE {k : Bool} {it l : Addr} {i : Nat} {xs : Array Value} {Q : Option Value → Shared → Prop} (hh : A.handled = none) (a : SI k s.heap it l i) (b : SQ k s.heap l xs) (hx : xs[i]? = none)
    (q : ∀ h', Heap.ExtBut it s.heap h' → Q none { s with heap := h' }) : wpAny (model prog w) A (Builtin.SmallTypes.nextOrEnd (.ref it)) Q E s := by
  unfold Builtin.SmallTypes.nextOrEnd
  refine wpAny_bind (wpAny_attempt (sq_stop hh a b hx fun h' e d c => ?_))
  obtain ⟨o, ho, hc⟩ := c
  refine wpAny_bind (wpAny_isInstance (T := "StopIteration") (b := true) ⟨o, ho, hc⟩ isSubtype_stop ?_)
  exact wpAny_pure (q _ d)
end
/-- the record of a zip, strict or not -/
abbrev ZS (b : Bool) (h : Heap) (z TI TO : Addr) (f0 : Value) : Prop :=
  h.get? z = some { cls := .type "zip", dict := none, data := .fields #[f0, .bool false, .bool b, .ref TI, .ref TO], slots := #[] }
theorem sq_lt {xs : Array Value} {n : Nat} {x : Value} (h : xs[n]? = some x) : n < xs.size := by
  obtain ⟨h, _⟩ := Array.getElem?_eq_some_iff.mp h
  exact h
section
variable {prog : Program} {w : World} {A : Around} {E : Value → Shared → Prop} {s : Shared} {z TI TO i1 i2 l1 l2 : Addr} {n1 n2 : Nat} {xs ys : Array Value} {x y a b : Value} {k1 k2 : Bool}
theorem zs_item_t {Q : Value → Shared → Prop} (D : ZipApart z TI TO i1 i2 l1 l2)
    (hz : ZS true s.heap z TI TO .none) (ht : IsPair s.heap TI (.ref i1) (.ref i2)) (ho : IsPair s.heap TO a b)
    (c1 : SI k1 s.heap i1 l1 n1) (c2 : SI k2 s.heap i2 l2 n2) (q1 : SQ k1 s.heap l1 xs) (q2 : SQ k2 s.heap l2 ys) (hx : xs[n1]? = some x) (hy : ys[n2]? = some y)
    (fin : ∀ h', ZS true h' z TI TO (rawInt s.heap.objs.size) → IsPair h' TO x y → SI k1 h' i1 l1 (n1 + 1) → SI k2 h' i2 l2 (n2 + 1) → IsPair h' s.heap.objs.size x y → h'.objs.size = s.heap.objs.size + 1 →
      (∀ c o, c ≠ z → c ≠ TO → c ≠ i1 → c ≠ i2 → s.heap.get? c = some o → h'.get? c = some o) → Q (.ref s.heap.objs.size) { s with heap := h' }) :
    wpAny (model prog w) A (Builtin.«zip.__next__» ⟨[.ref z], []⟩) (fun fin s' => ∃ v, fin = .done (.ret v) ∧ Q v s') E s := by
  show wpAny _ _ (field (.ref z) 2 >>= _) _ _ _
  refine wpAny_bind (wpAny_field hz rfl (x := .bool true) rfl ?_)
  show wpAny _ _ (field (.ref z) 3 >>= _) _ _ _
  refine wpAny_bind (wpAny_field hz rfl (x := .ref TI) rfl (wpAny_bind (wpAny_seqItems ht rfl ?_)))
  show wpAny _ _ (Builtin.SmallTypes.ownedTupleIsFree (.ref z) >>= _) _ _ _
  unfold Builtin.SmallTypes.ownedTupleIsFree
  refine wpAny_bind (wpAny_bind (wpAny_field hz rfl (x := .none) rfl (wpAny_pure ?_)))
  simp only [if_true]
  refine wpAny_bind (wpAny_rule (wpAny_bind (wpAny_field hz rfl (x := .ref TO) rfl ?_)))
  refine wpAny_bind (wpAny_setField_rec hz (by simp) fun g1 z1 e1 => wpAny_bind ?_)
  replace z1 : ZS true g1 z TI TO .ellipsis := z1
  simp only [List.zipIdx_cons, List.zipIdx_nil, List.forIn_cons, List.forIn_nil]
  refine wpAny_bind (wpAny_bind (wpAny_onRaise ?_))
  show wpAny _ _ (Builtin.SmallTypes.nextOrEnd (.ref i1)) _ _ _
  refine sq_nextE (c1.ext e1.extBut D.i1z) (q1.ext e1.extBut D.l1z) hx fun g2 c1' e2 => ?_
  have o2 : IsPair g2 TO a b := e2.extBut _ _ D.TOi1 (e1.extBut _ _ D.TOz ho)
  refine wpAny_bind (wpAny_seqItems o2 rfl (wpAny_bind (wpAny_updateSeq_pair o2 fun g3 o3 e3 => wpAny_bind (wpAny_letGo (wpAny_pure ?_)))))
  replace o3 : IsPair g3 TO x b := o3
  refine wpAny_bind (wpAny_bind (wpAny_onRaise ?_))
  show wpAny _ _ (Builtin.SmallTypes.nextOrEnd (.ref i2)) _ _ _
  refine sq_nextE (((c2.ext e1.extBut D.i2z).ext e2.extBut D.i12.symm).ext e3.extBut D.TOi2.symm) (((q2.ext e1.extBut D.l2z).ext e2.extBut D.l2i1).ext e3.extBut D.l2TO) hy fun g4 c2' e4 => ?_
  have o4 : IsPair g4 TO x b := e4.extBut _ _ D.TOi2 o3
  refine wpAny_bind (wpAny_seqItems o4 rfl (wpAny_bind (wpAny_updateSeq_pair o4 fun g5 o5 e5 => wpAny_bind (wpAny_letGo (wpAny_pure (wpAny_pure ?_))))))
  replace o5 : IsPair g5 TO x y := o5
  refine wpAny_bind (wpAny_seqItems o5 rfl (wpAny_bind (wpAny_newTuple ?_)))
  have sz : g5.objs.size = s.heap.objs.size := by rw [e5.1, e4.1, e3.1, e2.1, e1.1]
  have z5 : ZS true g5 z TI TO .ellipsis := e5.extBut _ _ D.TOz.symm (e4.extBut _ _ D.i2z.symm (e3.extBut _ _ D.TOz.symm (e2.extBut _ _ D.i1z.symm z1)))
  have kp : ∀ c o, c ≠ z → c ≠ TO → c ≠ i1 → c ≠ i2 → s.heap.get? c = some o → g5.get? c = some o := fun c o m1 m2 m3 m4 q =>
    e5.extBut _ _ m2 (e4.extBut _ _ m4 (e3.extBut _ _ m2 (e2.extBut _ _ m3 (e1.extBut _ _ m1 q))))
  have c15 : SI k1 g5 i1 l1 (n1 + 1) := ((c1'.ext e3.extBut D.TOi1.symm).ext e4.extBut D.i12).ext e5.extBut D.TOi1.symm
  have c25 : SI k2 g5 i2 l2 (n2 + 1) := c2'.ext e5.extBut D.TOi2.symm
  have zl : z < g5.objs.size := Heap.lt_size z5
  show wpAny _ _ (Builtin.SmallTypes.ownedTupleHandOut (.ref z) (.ref g5.objs.size) >>= _) _ _ _
  unfold Builtin.SmallTypes.ownedTupleHandOut
  have z6 : ZS true (g5.push { cls := .type "tuple", data := .seq #[x, y] }) z TI TO .ellipsis := Heap.get?_push_of_some _ z5
  refine wpAny_bind (wpAny_bind (wpAny_setField_rec z6 (by simp) fun g7 z7 e7 => ?_))
  replace z7 : ZS true g7 z TI TO (rawInt g5.objs.size) := z7
  refine wpAny_setField_rec z7 (by simp) fun g8 z8 e8 => wpAny_pure ⟨_, rfl, ?_⟩
  replace z8 : ZS true g8 z TI TO (rawInt g5.objs.size) := z8
  have up : ∀ c o, c ≠ z → g5.get? c = some o → g8.get? c = some o := fun c o m1 q => e8.extBut _ _ m1 (e7.extBut _ _ m1 (Heap.get?_push_of_some _ q))
  have t8 : IsPair g8 g5.objs.size x y := e8.extBut _ _ (Nat.ne_of_gt zl) (e7.extBut _ _ (Nat.ne_of_gt zl) (Heap.get?_push_size _ rfl))
  have s8 : g8.objs.size = g5.objs.size + 1 := by rw [e8.1, e7.1, Heap.size_push]
  rw [sz] at z8 t8 s8
  show Q (.ref g5.objs.size) _
  rw [sz]
  exact fin g8 z8 (up _ _ D.TOz o5) (c15.keep fun o q => up _ o D.i1z q) (c25.keep fun o q => up _ o D.i2z q) t8 s8 fun c o m1 m2 m3 m4 q => up c o m1 (kp c o m1 m2 m3 m4 q)
theorem zs_item_f {Q : Value → Shared → Prop} (D : ZipApart z TI TO i1 i2 l1 l2)
    (hz : ZS false s.heap z TI TO .none) (ht : IsPair s.heap TI (.ref i1) (.ref i2)) (ho : IsPair s.heap TO a b)
    (c1 : SI k1 s.heap i1 l1 n1) (c2 : SI k2 s.heap i2 l2 n2) (q1 : SQ k1 s.heap l1 xs) (q2 : SQ k2 s.heap l2 ys) (hx : xs[n1]? = some x) (hy : ys[n2]? = some y)
    (fin : ∀ h', ZS false h' z TI TO (rawInt s.heap.objs.size) → IsPair h' TO x y → SI k1 h' i1 l1 (n1 + 1) → SI k2 h' i2 l2 (n2 + 1) → IsPair h' s.heap.objs.size x y → h'.objs.size = s.heap.objs.size + 1 →
      (∀ c o, c ≠ z → c ≠ TO → c ≠ i1 → c ≠ i2 → s.heap.get? c = some o → h'.get? c = some o) → Q (.ref s.heap.objs.size) { s with heap := h' }) :
    wpAny (model prog w) A (Builtin.«zip.__next__» ⟨[.ref z], []⟩) (fun fin s' => ∃ v, fin = .done (.ret v) ∧ Q v s') E s := by
  show wpAny _ _ (field (.ref z) 2 >>= _) _ _ _
  refine wpAny_bind (wpAny_field hz rfl (x := .bool false) rfl ?_)
  show wpAny _ _ (field (.ref z) 3 >>= _) _ _ _
  refine wpAny_bind (wpAny_field hz rfl (x := .ref TI) rfl (wpAny_bind (wpAny_seqItems ht rfl ?_)))
  show wpAny _ _ (Builtin.SmallTypes.ownedTupleIsFree (.ref z) >>= _) _ _ _
  unfold Builtin.SmallTypes.ownedTupleIsFree
  refine wpAny_bind (wpAny_bind (wpAny_field hz rfl (x := .none) rfl (wpAny_pure ?_)))
  simp only [if_true]
  refine wpAny_bind (wpAny_rule (wpAny_bind (wpAny_field hz rfl (x := .ref TO) rfl ?_)))
  refine wpAny_bind (wpAny_setField_rec hz (by simp) fun g1 z1 e1 => wpAny_bind ?_)
  replace z1 : ZS false g1 z TI TO .ellipsis := z1
  simp only [List.zipIdx_cons, List.zipIdx_nil, List.forIn_cons, List.forIn_nil]
  refine wpAny_bind (wpAny_bind (wpAny_onRaise ?_))
  show wpAny _ _ (Builtin.SmallTypes.nextOf (.ref i1) >>= _) _ _ _
  refine wpAny_bind (sq_next (c1.ext e1.extBut D.i1z) (q1.ext e1.extBut D.l1z) hx fun g2 c1' e2 => wpAny_pure ?_)
  have o2 : IsPair g2 TO a b := e2.extBut _ _ D.TOi1 (e1.extBut _ _ D.TOz ho)
  refine wpAny_bind (wpAny_seqItems o2 rfl (wpAny_bind (wpAny_updateSeq_pair o2 fun g3 o3 e3 => wpAny_bind (wpAny_letGo (wpAny_pure ?_)))))
  replace o3 : IsPair g3 TO x b := o3
  refine wpAny_bind (wpAny_bind (wpAny_onRaise ?_))
  show wpAny _ _ (Builtin.SmallTypes.nextOf (.ref i2) >>= _) _ _ _
  refine wpAny_bind (sq_next (((c2.ext e1.extBut D.i2z).ext e2.extBut D.i12.symm).ext e3.extBut D.TOi2.symm) (((q2.ext e1.extBut D.l2z).ext e2.extBut D.l2i1).ext e3.extBut D.l2TO) hy fun g4 c2' e4 => wpAny_pure ?_)
  have o4 : IsPair g4 TO x b := e4.extBut _ _ D.TOi2 o3
  refine wpAny_bind (wpAny_seqItems o4 rfl (wpAny_bind (wpAny_updateSeq_pair o4 fun g5 o5 e5 => wpAny_bind (wpAny_letGo (wpAny_pure (wpAny_pure ?_))))))
  replace o5 : IsPair g5 TO x y := o5
  refine wpAny_bind (wpAny_seqItems o5 rfl (wpAny_bind (wpAny_newTuple ?_)))
  have sz : g5.objs.size = s.heap.objs.size := by rw [e5.1, e4.1, e3.1, e2.1, e1.1]
  have z5 : ZS false g5 z TI TO .ellipsis := e5.extBut _ _ D.TOz.symm (e4.extBut _ _ D.i2z.symm (e3.extBut _ _ D.TOz.symm (e2.extBut _ _ D.i1z.symm z1)))
  have kp : ∀ c o, c ≠ z → c ≠ TO → c ≠ i1 → c ≠ i2 → s.heap.get? c = some o → g5.get? c = some o := fun c o m1 m2 m3 m4 q =>
    e5.extBut _ _ m2 (e4.extBut _ _ m4 (e3.extBut _ _ m2 (e2.extBut _ _ m3 (e1.extBut _ _ m1 q))))
  have c15 : SI k1 g5 i1 l1 (n1 + 1) := ((c1'.ext e3.extBut D.TOi1.symm).ext e4.extBut D.i12).ext e5.extBut D.TOi1.symm
  have c25 : SI k2 g5 i2 l2 (n2 + 1) := c2'.ext e5.extBut D.TOi2.symm
  have zl : z < g5.objs.size := Heap.lt_size z5
  show wpAny _ _ (Builtin.SmallTypes.ownedTupleHandOut (.ref z) (.ref g5.objs.size) >>= _) _ _ _
  unfold Builtin.SmallTypes.ownedTupleHandOut
  have z6 : ZS false (g5.push { cls := .type "tuple", data := .seq #[x, y] }) z TI TO .ellipsis := Heap.get?_push_of_some _ z5
  refine wpAny_bind (wpAny_bind (wpAny_setField_rec z6 (by simp) fun g7 z7 e7 => ?_))
  replace z7 : ZS false g7 z TI TO (rawInt g5.objs.size) := z7
  refine wpAny_setField_rec z7 (by simp) fun g8 z8 e8 => wpAny_pure ⟨_, rfl, ?_⟩
  replace z8 : ZS false g8 z TI TO (rawInt g5.objs.size) := z8
  have up : ∀ c o, c ≠ z → g5.get? c = some o → g8.get? c = some o := fun c o m1 q => e8.extBut _ _ m1 (e7.extBut _ _ m1 (Heap.get?_push_of_some _ q))
  have t8 : IsPair g8 g5.objs.size x y := e8.extBut _ _ (Nat.ne_of_gt zl) (e7.extBut _ _ (Nat.ne_of_gt zl) (Heap.get?_push_size _ rfl))
  have s8 : g8.objs.size = g5.objs.size + 1 := by rw [e8.1, e7.1, Heap.size_push]
  rw [sz] at z8 t8 s8
  show Q (.ref g5.objs.size) _
  rw [sz]
  exact fin g8 z8 (up _ _ D.TOz o5) (c15.keep fun o q => up _ o D.i1z q) (c25.keep fun o q => up _ o D.i2z q) t8 s8 fun c o m1 m2 m3 m4 q => up c o m1 (kp c o m1 m2 m3 m4 q)
theorem stop_raise {α : Type} {Q : α → Shared → Prop} (hh : A.handled = none) (q : ∀ h' e, (∀ c o, s.heap.get? c = some o → h'.get? c = some o) → (∃ o, h'.get? e = some o ∧ o.cls = .type "StopIteration") → E (.ref e) { s with heap := h' }) :
    wpAny (model prog w) A (Builtin.SmallTypes.stopIteration : Sem α) Q E s := by
  unfold Builtin.SmallTypes.stopIteration
  refine wpAny_bind ?_
  simp only [newExc, newTuple]
  refine wpAny_bind (wpAny_newObj_type ?_ (by size_fits))
  refine wpAny_bind (m := firstArgMember _ _) (wpAny_of_eq (a := Value.none) (by first | rfl | (simp only [firstArgMember]; rfl)) ?_)
  refine wpAny_newObj_type ?_ (by size_fits)
  simp only [raiseNew]
  refine wpAny_bind (wpAny_handled ?_)
  first | rw [show A.in1.handled = none from hh] | rw [hh]
  refine wpAny_bind (wpAny_pure (wpAny_throw ?_))
  exact q _ _ (fun c o e => Heap.get?_push_of_some _ (Heap.get?_push_of_some _ e)) ⟨_, Heap.get?_push_size _ rfl, rfl⟩
theorem zs_end_t {Q : Fin → Shared → Prop} (hh : A.handled = none) (D : ZipApart z TI TO i1 i2 l1 l2)
    (hz : ZS true s.heap z TI TO .none) (ht : IsPair s.heap TI (.ref i1) (.ref i2)) (ho : IsPair s.heap TO a b)
    (c1 : SI k1 s.heap i1 l1 n1) (c2 : SI k2 s.heap i2 l2 n2) (q1 : SQ k1 s.heap l1 xs) (q2 : SQ k2 s.heap l2 ys) (hx : xs[n1]? = none) (hy : ys[n2]? = none)
    (fin : ∀ h' e, (∀ c o, c ≠ z → c ≠ TO → c ≠ i1 → c ≠ i2 → s.heap.get? c = some o → h'.get? c = some o) → (∃ o, h'.get? e = some o ∧ o.cls = .type "StopIteration") → E (.ref e) { s with heap := h' }) :
    wpAny (model prog w) A (Builtin.«zip.__next__» ⟨[.ref z], []⟩) Q E s := by
  show wpAny _ _ (field (.ref z) 2 >>= _) _ _ _
  refine wpAny_bind (wpAny_field hz rfl (x := .bool true) rfl ?_)
  show wpAny _ _ (field (.ref z) 3 >>= _) _ _ _
  refine wpAny_bind (wpAny_field hz rfl (x := .ref TI) rfl (wpAny_bind (wpAny_seqItems ht rfl ?_)))
  show wpAny _ _ (Builtin.SmallTypes.ownedTupleIsFree (.ref z) >>= _) _ _ _
  unfold Builtin.SmallTypes.ownedTupleIsFree
  refine wpAny_bind (wpAny_bind (wpAny_field hz rfl (x := .none) rfl (wpAny_pure ?_)))
  simp only [if_true]
  refine wpAny_bind (wpAny_rule (wpAny_bind (wpAny_field hz rfl (x := .ref TO) rfl ?_)))
  refine wpAny_bind (wpAny_setField_rec hz (by simp) fun g1 z1 e1 => wpAny_bind ?_)
  replace z1 : ZS true g1 z TI TO .ellipsis := z1
  simp only [List.zipIdx_cons, List.zipIdx_nil, List.forIn_cons, List.forIn_nil]
  refine wpAny_bind (wpAny_bind (wpAny_onRaise ?_))
  show wpAny _ _ (Builtin.SmallTypes.nextOrEnd (.ref i1)) _ _ _
  refine sq_stopE hh (c1.ext e1.extBut D.i1z) (q1.ext e1.extBut D.l1z) hx fun g2 e2 => ?_
  have z2 : ZS true g2 z TI TO .ellipsis := e2 _ _ D.i1z.symm z1
  refine wpAny_bind (wpAny_setField_rec z2 (by simp) fun g3 z3 e3 => ?_)
  refine wpAny_bind ?_
  show wpAny _ _ ((forIn [(Value.ref i2, 1)] PUnit.unit _ : Sem PUnit) >>= _) _ _ _
  refine wpAny_bind ?_
  simp only [List.forIn_cons, List.forIn_nil]
  refine wpAny_bind (wpAny_bind (sq_stopE hh (((c2.ext e1.extBut D.i2z).ext e2 D.i12.symm).ext e3.extBut D.i2z) (((q2.ext e1.extBut D.l2z).ext e2 D.l2i1).ext e3.extBut D.l2z) hy fun g4 e4 => ?_))
  simp only [Option.isSome_none, Bool.false_eq_true, if_false]
  refine wpAny_pure (wpAny_pure ?_)
  refine wpAny_bind (wpAny_rule ?_)
  refine stop_raise hh fun g5 e e5 he => fin g5 e (fun c o m1 m2 m3 m4 q => e5 c o (e4 _ _ m4 (e3.extBut _ _ m1 (e2 _ _ m3 (e1.extBut _ _ m1 q))))) he
theorem zs_end_f {Q : Fin → Shared → Prop} (hh : A.handled = none) (D : ZipApart z TI TO i1 i2 l1 l2)
    (hz : ZS false s.heap z TI TO .none) (ht : IsPair s.heap TI (.ref i1) (.ref i2)) (ho : IsPair s.heap TO a b)
    (c1 : SI k1 s.heap i1 l1 n1) (c2 : SI k2 s.heap i2 l2 n2) (q1 : SQ k1 s.heap l1 xs) (q2 : SQ k2 s.heap l2 ys) (hend : xs[n1]? = none ∨ ys[n2]? = none)
    (fin : ∀ h' e, (∀ c o, c ≠ z → c ≠ TO → c ≠ i1 → c ≠ i2 → s.heap.get? c = some o → h'.get? c = some o) → (∃ o, h'.get? e = some o ∧ o.cls = .type "StopIteration") → E (.ref e) { s with heap := h' }) :
    wpAny (model prog w) A (Builtin.«zip.__next__» ⟨[.ref z], []⟩) Q E s := by
  show wpAny _ _ (field (.ref z) 2 >>= _) _ _ _
  refine wpAny_bind (wpAny_field hz rfl (x := .bool false) rfl ?_)
  show wpAny _ _ (field (.ref z) 3 >>= _) _ _ _
  refine wpAny_bind (wpAny_field hz rfl (x := .ref TI) rfl (wpAny_bind (wpAny_seqItems ht rfl ?_)))
  show wpAny _ _ (Builtin.SmallTypes.ownedTupleIsFree (.ref z) >>= _) _ _ _
  unfold Builtin.SmallTypes.ownedTupleIsFree
  refine wpAny_bind (wpAny_bind (wpAny_field hz rfl (x := .none) rfl (wpAny_pure ?_)))
  simp only [if_true]
  refine wpAny_bind (wpAny_rule (wpAny_bind (wpAny_field hz rfl (x := .ref TO) rfl ?_)))
  refine wpAny_bind (wpAny_setField_rec hz (by simp) fun g1 z1 e1 => wpAny_bind ?_)
  replace z1 : ZS false g1 z TI TO .ellipsis := z1
  simp only [List.zipIdx_cons, List.zipIdx_nil, List.forIn_cons, List.forIn_nil]
  refine wpAny_bind (wpAny_bind (wpAny_onRaise ?_))
  show wpAny _ _ (Builtin.SmallTypes.nextOf (.ref i1) >>= _) _ _ _
  cases hx : xs[n1]? with
  | none =>
    refine wpAny_bind (sq_stop hh (c1.ext e1.extBut D.i1z) (q1.ext e1.extBut D.l1z) hx fun g2 e e2 he => ?_)
    obtain ⟨oe, hoe, hce⟩ := he
    have z2 : ZS false g2 z TI TO .ellipsis := e2 _ _ D.i1z.symm z1
    have ne : e ≠ z := fun q => by subst q; rw [z2] at hoe; cases hoe; simp at hce
    exact wpAny_setField_rec z2 (by simp) fun g3 _ e3 => fin g3 e (fun c o m1 _ m3 _ q => e3.extBut _ _ m1 (e2 _ _ m3 (e1.extBut _ _ m1 q))) ⟨oe, e3.extBut _ _ ne hoe, hce⟩
  | some x =>
    have hy : ys[n2]? = none := by
      rcases hend with h | h
      · rw [hx] at h; cases h
      · exact h
    refine wpAny_bind (sq_next (c1.ext e1.extBut D.i1z) (q1.ext e1.extBut D.l1z) hx fun g2 c1' e2 => wpAny_pure ?_)
    have o2 : IsPair g2 TO a b := e2.extBut _ _ D.TOi1 (e1.extBut _ _ D.TOz ho)
    refine wpAny_bind (wpAny_seqItems o2 rfl (wpAny_bind (wpAny_updateSeq_pair o2 fun g3 o3 e3 => wpAny_bind (wpAny_letGo (wpAny_pure ?_)))))
    refine wpAny_bind (wpAny_bind (wpAny_onRaise ?_))
    show wpAny _ _ (Builtin.SmallTypes.nextOf (.ref i2) >>= _) _ _ _
    refine wpAny_bind (sq_stop hh (((c2.ext e1.extBut D.i2z).ext e2.extBut D.i12.symm).ext e3.extBut D.TOi2.symm) (((q2.ext e1.extBut D.l2z).ext e2.extBut D.l2i1).ext e3.extBut D.l2TO) hy fun g4 e e4 he => ?_)
    obtain ⟨oe, hoe, hce⟩ := he
    have z4 : ZS false g4 z TI TO .ellipsis := e4 _ _ D.i2z.symm (e3.extBut _ _ D.TOz.symm (e2.extBut _ _ D.i1z.symm z1))
    have ne : e ≠ z := fun q => by subst q; rw [z4] at hoe; cases hoe; simp at hce
    exact wpAny_setField_rec z4 (by simp) fun g5 _ e5 => fin g5 e (fun c o m1 m2 m3 m4 q => e5.extBut _ _ m1 (e4 _ _ m4 (e3.extBut _ _ m2 (e2.extBut _ _ m3 (e1.extBut _ _ m1 q))))) ⟨oe, e5.extBut _ _ ne hoe, hce⟩
end
section
variable {prog : Program} {w : World} {A : Around} {E : Value → Shared → Prop} {s : Shared} {z TI TO i1 i2 l1 l2 : Addr} {n : Nat} {xs ys : Array Value} {x y a b : Value} {k1 k2 st : Bool}
theorem zs_pyNext_item {Q : Option Value → Shared → Prop} (D : ZipApart z TI TO i1 i2 l1 l2)
    (hz : ZS st s.heap z TI TO .none) (ht : IsPair s.heap TI (.ref i1) (.ref i2)) (ho : IsPair s.heap TO a b)
    (c1 : SI k1 s.heap i1 l1 n) (c2 : SI k2 s.heap i2 l2 n) (q1 : SQ k1 s.heap l1 xs) (q2 : SQ k2 s.heap l2 ys) (hx : xs[n]? = some x) (hy : ys[n]? = some y)
    (fin : ∀ h', ZS st h' z TI TO (rawInt s.heap.objs.size) → IsPair h' TO x y → SI k1 h' i1 l1 (n + 1) → SI k2 h' i2 l2 (n + 1) → IsPair h' s.heap.objs.size x y → h'.objs.size = s.heap.objs.size + 1 →
      (∀ c o, c ≠ z → c ≠ TO → c ≠ i1 → c ≠ i2 → s.heap.get? c = some o → h'.get? c = some o) → Q (some (.ref s.heap.objs.size)) { s with heap := h' }) :
    wpAny (model prog w) A (pyNext (.ref z)) Q E s := by
  have hT : s.TypeIs (.ref z) "zip" := ⟨_, hz, rfl⟩
  unfold pyNext
  refine wpAny_bind (wpAny_attempt (wpAny_callSpecial?_slot (name := Str.ofString "__next__") hT F.slot_zip_next
    (wpAny_call_entry F.slot_zip_next hT F.entry_zip_next ?_ (F.args_zip_next_1 _))))
  cases st with
  | true => exact zs_item_t D hz ht ho c1 c2 q1 q2 hx hy fun h' m1 m2 m3 m4 m5 m6 m7 => wpAny_pure (fin h' m1 m2 m3 m4 m5 m6 m7)
  | false => exact zs_item_f D hz ht ho c1 c2 q1 q2 hx hy fun h' m1 m2 m3 m4 m5 m6 m7 => wpAny_pure (fin h' m1 m2 m3 m4 m5 m6 m7)
theorem zs_pyNext_end {Q : Option Value → Shared → Prop} (hh : A.handled = none) (D : ZipApart z TI TO i1 i2 l1 l2)
    (hz : ZS st s.heap z TI TO .none) (ht : IsPair s.heap TI (.ref i1) (.ref i2)) (ho : IsPair s.heap TO a b)
    (c1 : SI k1 s.heap i1 l1 n) (c2 : SI k2 s.heap i2 l2 n) (q1 : SQ k1 s.heap l1 xs) (q2 : SQ k2 s.heap l2 ys) (hend : (st = true ∧ xs[n]? = none ∧ ys[n]? = none) ∨ (st = false ∧ (xs[n]? = none ∨ ys[n]? = none)))
    (fin : ∀ h', (∀ c o, c ≠ z → c ≠ TO → c ≠ i1 → c ≠ i2 → s.heap.get? c = some o → h'.get? c = some o) → Q none { s with heap := h' }) : wpAny (model prog w) A (pyNext (.ref z)) Q E s := by
  have hT : s.TypeIs (.ref z) "zip" := ⟨_, hz, rfl⟩
  unfold pyNext
  refine wpAny_bind (wpAny_attempt (wpAny_callSpecial?_slot (name := Str.ofString "__next__") hT F.slot_zip_next
    (wpAny_call_entry F.slot_zip_next hT F.entry_zip_next ?_ (F.args_zip_next_1 _))))
  rcases hend with ⟨rfl, hx, hy⟩ | ⟨rfl, hxy⟩
  · refine zs_end_t hh D hz ht ho c1 c2 q1 q2 hx hy fun h' e m he => ?_
    obtain ⟨o, ho, hc⟩ := he
    exact wpAny_bind (wpAny_isInstance (T := "StopIteration") (b := true) ⟨o, ho, hc⟩ isSubtype_stop (wpAny_pure (fin _ m)))
  · refine zs_end_f hh D hz ht ho c1 c2 q1 q2 hxy fun h' e m he => ?_
    obtain ⟨o, ho, hc⟩ := he
    exact wpAny_bind (wpAny_isInstance (T := "StopIteration") (b := true) ⟨o, ho, hc⟩ isSubtype_stop (wpAny_pure (fin _ m)))
theorem zs_letGo {elts : List Expr} {kk : Nat} {pos : Pos} {T : Addr} {Q : Unit → Shared → Prop} (hz : ZS st s.heap z TI TO (rawInt T))
    (q : ∀ h', ZS st h' z TI TO .none → Heap.SameBut z s.heap h' → Q () { s with heap := h' }) :
    wpAny (model prog w) A (letOwnedTupleGo (.Tuple elts kk pos) (.ref z) (.ref T)) Q E s := by
  unfold letOwnedTupleGo
  refine wpAny_bind (wpAny_load hz ?_)
  show wpAny _ _ (if (["enumerate", "zip", "dict_itemiterator", "dict_reverseitemiterator", "odict_iterator", "itertools.zip_longest", "itertools.pairwise"].contains "zip" &&
      (#[rawInt T, .bool false, .bool st, .ref TI, .ref TO] : Array Value)[0]? == some (rawInt T)) = true then _ else _) Q E s
  rw [if_pos (by simp)]
  refine wpAny_bind (wpAny_rule ?_)
  show wpAny _ _ (setField (.ref z) 0 .none) Q E s
  exact wpAny_setField_rec hz (by simp) fun h' m1 m2 => q h' m1 m2
theorem zs_self {f0 : Value} {Q : Value → Shared → Prop} (hz : ZS st s.heap z TI TO f0) (h : Q (.ref z) s) : wpAny (model prog w) A (pyIter (.ref z)) Q E s := by
  have hT : s.TypeIs (.ref z) "zip" := ⟨_, hz, rfl⟩
  refine wpAny_pyIter_slot hT F.slot_zip_iter (wpAny_call_entry F.slot_zip_iter hT F.entry_zip_iter ?_ (F.args_zip_iter_1 _))
  show wpAny _ _ (ret (.ref z)) _ _ s
  exact wpAny_pure ⟨_, rfl, "zip", _, hT, F.slot_zip_next.lookup, h⟩
end
/-! ### a zip is made -/
abbrev itO (k : Bool) (l : Addr) : Obj := { cls := .type (if k then "list_iterator" else "tuple_iterator"), data := .fields #[.ref l, .int 0 0] }
theorem sq_iter {prog : Program} {w : World} {A : Around} {E : Value → Shared → Prop} {s : Shared} {k : Bool} {l : Addr} {xs : Array Value} {Q : Value → Shared → Prop} (b : SQ k s.heap l xs)
    (q : Q (.ref s.heap.objs.size) { s with heap := s.heap.push (itO k l) }) : wpAny (model prog w) A (pyIter (.ref l)) Q E s := by
  cases k with
  | true => exact wpAny_pyIter_list b q
  | false => exact wpAny_pyIter_tuple b q
theorem SQ.push {k : Bool} {h : Heap} {l : Addr} {xs : Array Value} (a : SQ k h l xs) (o : Obj) : SQ k (h.push o) l xs := by
  cases k with
  | true => exact Heap.IsList.push a o
  | false => exact Heap.IsTuple.push a o
theorem si_new (k : Bool) {h' : Heap} {it l : Addr} (e : h'.get? it = some (itO k l)) : SI k h' it l 0 := by
  cases k with
  | true => exact ⟨_, e, rfl, rfl⟩
  | false => exact ⟨_, e, rfl, rfl⟩
abbrev zh1 (h : Heap) (k1 : Bool) (l1 : Addr) : Heap := h.push (itO k1 l1)
abbrev zh2 (h : Heap) (k1 k2 : Bool) (l1 l2 : Addr) : Heap := (zh1 h k1 l1).push (itO k2 l2)
abbrev zh3 (h : Heap) (k1 k2 : Bool) (l1 l2 : Addr) : Heap := (zh2 h k1 k2 l1 l2).push { cls := .type "tuple", data := .seq #[.ref h.objs.size, .ref (zh1 h k1 l1).objs.size] }
abbrev zh4 (h : Heap) (k1 k2 : Bool) (l1 l2 : Addr) : Heap := (zh3 h k1 k2 l1 l2).push { cls := .type "tuple", data := .seq #[.none, .none] }
abbrev zh5 (st : Bool) (h : Heap) (k1 k2 : Bool) (l1 l2 : Addr) : Heap := (zh4 h k1 k2 l1 l2).push { cls := .type "zip", data := .fields #[.none, .bool false, .bool st, .ref (zh2 h k1 k2 l1 l2).objs.size, .ref (zh3 h k1 k2 l1 l2).objs.size] }
def zkw : Bool → List (Str × Value)
  | true => [(Str.ofString "strict", .bool true)]
  | false => []
theorem meets_zs (st k1 k2 : Bool) (l1 l2 : Addr) (xs ys : Array Value) :
    Meets (Builtin.«zip.__new__» ⟨[.type "zip", .ref l1, .ref l2], zkw st⟩) (fun _ R s => SQ k1 s.heap l1 xs ∧ SQ k2 s.heap l2 ys ∧
      R (.ok (.ret (.ref (zh4 s.heap k1 k2 l1 l2).objs.size))) { s with heap := zh5 st s.heap k1 k2 l1 l2 }) :=
  .of_wp fun prog w A R s h => by
    obtain ⟨hp, g, d, tk, os⟩ := s
    obtain ⟨h1, h2, h⟩ := h
    have hsub := sub_zip
    have q1 : ∀ {A' : Around} {E : Value → Shared → Prop} {Q : Value → Shared → Prop}, Q (.ref hp.objs.size) ⟨hp.push (itO k1 l1), g, d, tk, os⟩ → wpAny (model prog w) A' (pyIter (.ref l1)) Q E ⟨hp, g, d, tk, os⟩ :=
      fun q => sq_iter (s := ⟨hp, g, d, tk, os⟩) h1 q
    have q2 : ∀ {A' : Around} {E : Value → Shared → Prop} {Q : Value → Shared → Prop}, Q (.ref (hp.push (itO k1 l1)).objs.size) ⟨(hp.push (itO k1 l1)).push (itO k2 l2), g, d, tk, os⟩ → wpAny (model prog w) A' (pyIter (.ref l2)) Q E ⟨hp.push (itO k1 l1), g, d, tk, os⟩ :=
      fun q => sq_iter (s := ⟨hp.push (itO k1 l1), g, d, tk, os⟩) (SQ.push h2 _) q
    cases st with
    | false =>
      show wpAny _ _ (Builtin.«zip.__new__» ⟨[.type "zip", .ref l1, .ref l2], []⟩) _ _ _
      wp_walk using q1, q2
      exact ⟨_, rfl, h⟩
    | true =>
      show wpAny _ _ (Builtin.«zip.__new__» ⟨[.type "zip", .ref l1, .ref l2], [(Str.ofString "strict", .bool true)]⟩) _ _ _
      have e2 : (Str.ofString "strict" != ("strict" : Str)) = false := by decide +kernel
      wp_walk using q1, q2
      exact ⟨_, rfl, h⟩
theorem tc_zs (a b : Value) : checkTypeCall "zip" ⟨[a, b], zkw true⟩ = pure () := by
  unfold zkw; kernel_rfl
theorem nc_zs (a b : Value) : checkBuiltinCall "zip.__new__" ⟨[.type "zip", a, b], zkw true⟩ = pure () := by
  unfold zkw; kernel_rfl
theorem ao_zs (obj a b : Value) : argsOk "object.__init__" ⟨[obj, a, b], zkw true⟩ := by
  unfold argsOk zkw; kernel_rfl
theorem call_zs {prog : Program} {w : World} {A : Around} {E : Value → Shared → Prop} {s : Shared} {st k1 k2 : Bool} {l1 l2 : Addr} {xs ys : Array Value} {Q : Value → Shared → Prop} (hl1 : SQ k1 s.heap l1 xs) (hl2 : SQ k2 s.heap l2 ys)
    (h : ∀ h', ZS st h' (s.heap.objs.size + 4) (s.heap.objs.size + 2) (s.heap.objs.size + 3) .none → IsPair h' (s.heap.objs.size + 2) (.ref s.heap.objs.size) (.ref (s.heap.objs.size + 1)) →
      IsPair h' (s.heap.objs.size + 3) .none .none → SI k1 h' s.heap.objs.size l1 0 → SI k2 h' (s.heap.objs.size + 1) l2 0 → h'.objs.size = s.heap.objs.size + 5 →
      (∀ c o, s.heap.get? c = some o → h'.get? c = some o) → Q (.ref (s.heap.objs.size + 4)) { s with heap := h' }) :
    wpAny (model prog w) A (call (.type "zip") [.ref l1, .ref l2] (zkw st)) Q E s := by
  have y1 : (zh1 s.heap k1 l1).objs.size = s.heap.objs.size + 1 := Heap.size_push ..
  have y2 : (zh2 s.heap k1 k2 l1 l2).objs.size = s.heap.objs.size + 2 := by rw [Heap.size_push, y1]
  have y3 : (zh3 s.heap k1 k2 l1 l2).objs.size = s.heap.objs.size + 3 := by rw [Heap.size_push, y2]
  have y4 : (zh4 s.heap k1 k2 l1 l2).objs.size = s.heap.objs.size + 4 := by rw [Heap.size_push, y3]
  have y5 : (zh5 st s.heap k1 k2 l1 l2).objs.size = s.heap.objs.size + 5 := by rw [Heap.size_push, y4]
  have g5 : (zh5 st s.heap k1 k2 l1 l2).get? (zh4 s.heap k1 k2 l1 l2).objs.size = some _ := Heap.get?_push_size _ rfl
  have g4 : (zh5 st s.heap k1 k2 l1 l2).get? (zh3 s.heap k1 k2 l1 l2).objs.size = some _ := Heap.get?_push_of_some _ (Heap.get?_push_size _ rfl)
  have g3 : (zh5 st s.heap k1 k2 l1 l2).get? (zh2 s.heap k1 k2 l1 l2).objs.size = some _ := Heap.get?_push_of_some _ (Heap.get?_push_of_some _ (Heap.get?_push_size _ rfl))
  have g2 : (zh5 st s.heap k1 k2 l1 l2).get? (zh1 s.heap k1 l1).objs.size = some _ := Heap.get?_push_of_some _ (Heap.get?_push_of_some _ (Heap.get?_push_of_some _ (Heap.get?_push_size _ rfl)))
  have g1 : (zh5 st s.heap k1 k2 l1 l2).get? s.heap.objs.size = some _ := Heap.get?_push_of_some _ (Heap.get?_push_of_some _ (Heap.get?_push_of_some _ (Heap.get?_push_of_some _ (Heap.get?_push_size _ rfl))))
  have fin : SQ k1 s.heap l1 xs ∧ SQ k2 s.heap l2 ys ∧ (wants (fun obj s₁ => s₁.TypeIs obj "zip" ∧ Q obj s₁) E) (.ok (.ret (.ref (zh4 s.heap k1 k2 l1 l2).objs.size))) { s with heap := zh5 st s.heap k1 k2 l1 l2 } := by
    refine ⟨hl1, hl2, ?_⟩
    show _ ∧ _
    rw [y2, y3, y4] at g5
    rw [y1, y2] at g3
    rw [y3] at g4
    rw [y1] at g2
    rw [y4]
    exact ⟨⟨_, g5, rfl⟩, h _ g5 g3 g4 (si_new k1 g1) (si_new k2 g2) y5 fun c o x =>
      Heap.get?_push_of_some _ (Heap.get?_push_of_some _ (Heap.get?_push_of_some _ (Heap.get?_push_of_some _ (Heap.get?_push_of_some _ x))))⟩
  cases st with
  | false => exact callType_new F.called_zip (by decide) (F.typeCall_zip_2 _ _) (F.newCall_zip_2 _ _) (fun obj => F.args_object_init_3 obj _ _) F.entry_zip_new (meets_zs false k1 k2 l1 l2 xs ys) fin
  | true => exact callType_newKw F.called_zip (by decide) (tc_zs _ _) (nc_zs _ _) (fun obj => ao_zs obj _ _) F.entry_zip_new (meets_zs true k1 k2 l1 l2 xs ys) fin
end PL
namespace PL
open PySem PySem.Spec PyProof.Rows L2
/-! ### zip as an iterator of pairs -/
def SqK (K : PySem.W.Frag) : Bool → Hp → Addr → List V → Prop
  | true, H, a, xs => SqL K H a xs
  | false, H, a, xs => SqT K H a xs
theorem sqk_inv {X : Cx} {pins : List (Addr × Obj)} {σ : L2.St} {H : Hp} {s : Shared} {k : Bool} {a : Addr} {xs : List V} (I : Inv X pins σ H s) (h : SqK X.K k H a xs) : ∃ its : List Value, Vals xs its ∧ SQ k s.heap a its.toArray := by
  cases k with
  | true =>
    obtain ⟨its, rv, p, _⟩ := I.list h
    exact ⟨its, rv, p.isList⟩
  | false =>
    obtain ⟨its, rv, p, _⟩ := I.tuple h
    exact ⟨its, rv, p⟩
theorem sqk_inj {X : Cx} {pins : List (Addr × Obj)} {σ : L2.St} {H : Hp} {s : Shared} {k : Bool} {a : Addr} {xs ys : List V} (I : Inv X pins σ H s) (h : SqK X.K k H a xs) (h2 : SqK X.K k H a ys) : xs = ys := by
  cases k with
  | true => exact I.list_inj h h2
  | false => exact I.tuple_inj h h2
theorem SqK.mono {K : PySem.W.Frag} {k : Bool} {F F' : Hp} {a : Addr} {xs : List V} (e : ∀ a o, F a = some o → F' a = some o) (h : SqK K k F a xs) : SqK K k F' a xs := by
  cases k with
  | true => exact SqL.mono e h
  | false => exact SqT.mono e h
def Itzk (K : PySem.W.Frag) (st k1 k2 : Bool) (a b : Addr) : It :=
  ⟨fun i H => ∃ (xs ys : List V) (x y : V), SqK K k1 H a xs ∧ SqK K k2 H b ys ∧ xs[i]? = some x ∧ ys[i]? = some y,
    fun i H v H' => ∃ T x y, v = .ref T ∧ H T = none ∧ H' = upd H T (.tup [x, y]) ∧ (∀ xs, SqK K k1 H a xs → xs[i]? = some x) ∧ ∀ ys, SqK K k2 H b ys → ys[i]? = some y,
    fun i H => ∃ xs ys : List V, SqK K k1 H a xs ∧ SqK K k2 H b ys ∧ ((st = true ∧ xs.length ≤ i ∧ ys.length ≤ i) ∨ (st = false ∧ (xs.length ≤ i ∨ ys.length ≤ i)))⟩
theorem mem5 {z TI TO i1 i2 c : Addr} (h : c ∈ [z, TI, TO, i1, i2]) : c = z ∨ c = TI ∨ c = TO ∨ c = i1 ∨ c = i2 := by simpa using h
theorem turn_zs {P : Program} {w : World} {K : PySem.W.Frag} {elts : List Expr} {kk : Nat} {tpos : Pos} {st k1 k2 : Bool} {a b z TI TO i1 i2 : Addr} (D : ZipApart z TI TO i1 i2 a b) :
    Turn P w K (.Tuple elts kk tpos) (Itzk K st k1 k2 a b) [z, TI, TO, i1, i2] z (fun i h => ZS st h z TI TO .none ∧ IsPair h TI (.ref i1) (.ref i2) ∧ (∃ x y, IsPair h TO x y) ∧ SI k1 h i1 a i ∧ SI k2 h i2 b i) where
  mem := by simp
  obj := fun i h h0 c hc => by
    obtain ⟨m1, m2, ⟨x, y, m3⟩, m4, m5⟩ := h0
    rcases mem5 hc with q | q | q | q | q
    · rw [q]; exact ⟨_, m1, fun v q => nomatch q⟩
    · rw [q]; exact ⟨_, m2, fun v q => nomatch q⟩
    · rw [q]; exact ⟨_, m3, fun v q => nomatch q⟩
    · rw [q]; exact m4.obj
    · rw [q]; exact m5.obj
  keep := fun i h h' h0 k => by
    obtain ⟨m1, m2, ⟨x, y, m3⟩, m4, m5⟩ := h0
    exact ⟨k z (by simp) _ m1, k TI (by simp) _ m2, ⟨x, y, k TO (by simp) _ m3⟩, m4.keep fun o q => k i1 (by simp) o q, m5.keep fun o q => k i2 (by simp) o q⟩
  item := by
    intro X hP hw hK hc i pins s σ H E I hf h0 hg
    subst hP hw hK
    obtain ⟨hz, ht, ⟨x0, y0, ho⟩, h1, h2⟩ := h0
    obtain ⟨xs, ys, x, y, hqx, hqy, hx, hy⟩ := hg
    obtain ⟨its, rv, p⟩ := sqk_inv I hqx
    obtain ⟨its2, rv2, p2⟩ := sqk_inv I hqy
    obtain ⟨u, hu, ru⟩ := rv.get hx
    obtain ⟨u2, hu2, ru2⟩ := rv2.get hy
    have zl : z < s.heap.objs.size := Heap.lt_size hz
    refine zs_pyNext_item D hz ht ho h1 h2 p p2 (x := u) (y := u2) (by simpa using hu) (by simpa using hu2) fun h' z' o' c1 c2 hT sz kp => ?_
    refine ⟨_, rfl, zs_letGo (s := { s with heap := h' }) z' fun h'' z'' sb => ?_⟩
    have hT2 : h''.get? s.heap.objs.size = some { cls := .type "tuple", data := .seq #[u, u2] } := (sb.2 _ (Nat.ne_of_gt zl)).trans hT
    have new : ObjOk X.prog X.w (upd H s.heap.objs.size (.tup [x, y])) h'' s.heap.objs.size (.tup [x, y]) :=
      ⟨by show 2 ≤ sizeLine; decide, [u, u2], .cons ru (.cons ru2 .nil), ⟨_, hT2, rfl, _, rfl⟩⟩
    have I1 : Inv X pins σ (upd H s.heap.objs.size (.tup [x, y])) { s with heap := h'' } :=
      I.turnedNew (t' := s.toks) (ch := [z, TI, TO, i1, i2]) (fun c o hb q => (sb.2 c (fun q' => hb (by simp [q']))).trans (kp c o (fun q' => hb (by simp [q'])) (fun q' => hb (by simp [q'])) (fun q' => hb (by simp [q'])) (fun q' => hb (by simp [q'])) q)) hf (Nat.le_refl _) new
    refine ⟨.ref s.heap.objs.size, _, I1, rfl, ⟨_, x, y, rfl, I.hok.fresh (Nat.le_refl _), rfl, fun l hl => by rw [sqk_inj I hl hqx]; exact hx, fun l hl => by rw [sqk_inj I hl hqy]; exact hy⟩, ⟨z'', ?_, ⟨u, u2, ?_⟩, ?_, ?_⟩, fun c hcm => ?_⟩
    · exact (sb.2 _ D.TIz).trans (kp _ _ D.TIz D.TITO D.TIi1 D.TIi2 ht)
    · exact (sb.2 _ D.TOz).trans o'
    · exact c1.keep fun o q => (sb.2 _ D.i1z).trans q
    · exact c2.keep fun o q => (sb.2 _ D.i2z).trans q
    · have hlt : c < s.heap.objs.size := by
        rcases mem5 hcm with q | q | q | q | q
        · rw [q]; exact zl
        · rw [q]; exact Heap.lt_size ht
        · rw [q]; exact Heap.lt_size ho
        · rw [q]; exact h1.lt
        · rw [q]; exact h2.lt
      rw [upd_ne (Nat.ne_of_lt hlt)]
      exact (hf c hcm).1
  done := by
    intro X hP hw hK hc i pins s σ H E I hf h0 hg
    subst hP hw hK
    obtain ⟨hz, ht, ⟨x0, y0, ho⟩, h1, h2⟩ := h0
    obtain ⟨xs, ys, hqx, hqy, hend⟩ := hg
    obtain ⟨its, rv, p⟩ := sqk_inv I hqx
    obtain ⟨its2, rv2, p2⟩ := sqk_inv I hqy
    have l1 := rv.length
    have l2 := rv2.length
    refine zs_pyNext_end (I.ok.hd hc) D hz ht ho h1 h2 p p2 ?_ fun h' kp => ⟨rfl, I.turnedL (t' := s.toks) (ch := [z, TI, TO, i1, i2]) (fun c o hb q =>
      kp c o (fun q' => hb (by simp [q'])) (fun q' => hb (by simp [q'])) (fun q' => hb (by simp [q'])) (fun q' => hb (by simp [q'])) q) hf⟩
    rcases hend with ⟨e, q1, q2⟩ | ⟨e, q1 | q1⟩
    · exact .inl ⟨e, by simp; omega, by simp; omega⟩
    · exact .inr ⟨e, .inl (by simp; omega)⟩
    · exact .inr ⟨e, .inr (by simp; omega)⟩
  self := fun A i s Q E h0 h => zs_self h0.1 h
def iZs (K : PySem.W.Frag) (st : Bool) (ta : TA) : TI := fun σ H R => ta σ H fun vs H1 => ∃ a b k1 k2 xs ys, vs = [.ref a, .ref b] ∧ SqK K k1 H1 a xs ∧ SqK K k2 H1 b ys ∧ R (Itzk K st k1 k2 a b) H1
theorem SQ.lt {k : Bool} {h : Heap} {l : Addr} {xs : Array Value} (a : SQ k h l xs) : l < h.objs.size := by
  cases k with
  | true => obtain ⟨o, e, _⟩ := a; exact Heap.lt_size e
  | false => obtain ⟨o, e, _⟩ := a; exact Heap.lt_size e
theorem zs_made {X : Cx} {pins : List (Addr × Obj)} {σ : L2.St} {H : Hp} {s : Shared} {st k1 k2 : Bool} {a b : Addr} {xs ys : List V} {elts : List Expr} {kk : Nat} {tpos : Pos} {Q : Value → Shared → Prop} (I : Inv X pins σ H s) (hx : SqK X.K k1 H a xs) (hy : SqK X.K k2 H b ys)
    (q : ∀ (s' : Shared) (z : Addr) (fp : List Addr) (Sf : Nat → Heap → Prop), Inv X pins σ H s' → Turn X.prog X.w X.K (.Tuple elts kk tpos) (Itzk X.K st k1 k2 a b) fp z Sf → Sf 0 s'.heap → (∀ c, c ∈ fp → FpOk X pins H c) → (∀ {A : Around} {E : Value → Shared → Prop} {Q : Value → Shared → Prop}, Q (.ref z) s' → wpAny (model X.prog X.w) A (pyIter (.ref z)) Q E s') → Q (.ref z) s') :
    wpAny (model X.prog X.w) X.A (call (.type "zip") [.ref a, .ref b] (zkw st)) Q X.xe s := by
  obtain ⟨its, rv, p1⟩ := sqk_inv I hx
  obtain ⟨its2, rv2, p2⟩ := sqk_inv I hy
  refine call_zs p1 p2 fun h' m1 m2 m3 m4 m5 sz kp => ?_
  have I2 : Inv X pins σ H { s with heap := h' } := I.kept (t' := s.toks) kp
  refine q _ _ [s.heap.objs.size + 4, s.heap.objs.size + 2, s.heap.objs.size + 3, s.heap.objs.size, s.heap.objs.size + 1] _ I2 (turn_zs (PySem.W.ktu_apart s.heap.objs.size a b p1.lt p2.lt)) ⟨m1, m2, ⟨_, _, m3⟩, m4, m5⟩ (fun c hcm => ?_) (fun h => zs_self m1 h)
  have hle : s.heap.objs.size ≤ c := by
    rcases mem5 hcm with e | e | e | e | e <;> rw [e] <;> omega
  exact I.fpOk hle (I.hok.fresh hle)
end PL
namespace PL
open PySem PySem.Spec PyProof.Rows L2
section
variable {M : Model} {A : Around} {E : Value → Shared → Prop} {s : Shared}
theorem call_tk {pos : Pos} {T : String} {x : Sem Value} {rest : List (Bool × Sem Value)} {kws : List (Option Str × Sem Value)} {Q : Value → Shared → Prop}
    (pl : ((false, x) :: rest).any (·.1) = false) (k1 : kws.any (·.1.isNone) = false) (k2 : kws.all (·.1.isSome) = true)
    (h : wpAny M A (spliced ((false, x) :: rest)) (fun vs s₁ => wpAny M A (evalAll (kws.map (·.2))) (fun kvs s₂ => wpAny M A (call (.type T) vs ((kws.filterMap (·.1)).zip kvs)) Q E s₂) E s₁) E s) :
    wpAny M A (callWith pos (.type T) [] ((false, x) :: rest) kws) Q E s := by
  unfold callWith
  refine wpAny_bind (wpAny_holding (wpAny_mono (evalArgs_kwB (Q := fun a s₁ => wpAny M A (call (.type T) ([] ++ a.pos) a.kw) Q E s₁) k2 h) (fun a s₁ g => wpAny_bind (wpAny_standAt ?_)) fun _ _ x => x))
  simp only [pl, k1, Bool.or_false]
  refine wpAny_bind (wpAny_pure ?_)
  exact wpAny_bind (wpAny_mono g (fun r s₂ hr => wpAny_bind (wpAny_holding (wpAny_point (wpAny_pure hr)))) fun _ _ x => x)
end
section
variable {X : Cx} {n : En} {W : WS} {pos : Pos} {elts : List Expr} {kk : Nat} {tpos : Pos} {e e2 : Expr} {ta : TA} {p : Pos}
theorem vals_rr {a b : Addr} {us : List Value} (r : Vals [.ref a, .ref b] us) : us = [.ref a, .ref b] := by
  cases r with
  | cons r rr =>
    cases rr with
    | cons r' rr =>
      cases rr
      cases r
      cases r'
      rfl
theorem vals_b {b : Bool} {us : List Value} (r : Vals [.bl b] us) : us = [.bool b] := by
  cases r with
  | cons r rr =>
    cases rr
    cases r
    rfl
theorem pi_zs0 (hg : Gl X "zip") (hm : X.mg "zip" = none) (ha : PA X [e, e2] ta)
    (hs : starEach [e, e2] X.env = (false, eval e X.env) :: starEach [e2] X.env := by rfl) (hpl : (backTo pos (starEach [e2] X.env)).any (·.1) = false := by rfl) :
    PI X (.Tuple elts kk tpos) (.Call (.Name "zip" p) [e, e2] [] pos) (iZs X.K false ta) := by
  refine ⟨fun pins s σ H R I h => ?_⟩
  refine Call_ (ld_blt I hg hm PyProof.Rows.boot_zip (PyProof.Rows.callWith_type1 (thn (ha.run pos pins s σ H _ I h) fun us s1 ⟨vs, H1, I1, r1, q1⟩ => ?_) hs hpl))
  obtain ⟨a, b, k1, k2, xs, ys, ex, hx, hy, q⟩ := q1
  subst ex
  rw [vals_rr r1]
  exact zs_made (st := false) I1 hx hy fun s' z fp Sf I2 tn s0 fpo self => self ⟨z, fp, Sf, _, H1, rfl, I2, tn, s0, fpo, q⟩
theorem pi_zs1 {p2 kp : Pos} {jj} (hg : Gl X "zip") (hm : X.mg "zip" = none) (ha : PA X [e, e2] ta)
    (hs : backTo pos (starEach [e, e2] X.env) = (false, eval e X.env) :: backTo pos (starEach [e2] X.env) := by rfl) (hpl : (backTo pos (starEach [e, e2] X.env)).any (·.1) = false := by rfl)
    (hk1 : (backToKw pos (keywordEach [⟨some (Str.ofString "strict"), .Constant (.bool true) jj p2, kp⟩] X.env)).all (·.1.isSome) = true := by rfl) (hk2 : (backToKw pos (keywordEach [⟨some (Str.ofString "strict"), .Constant (.bool true) jj p2, kp⟩] X.env)).any (·.1.isNone) = false := by rfl)
    (hk3 : (backToKw pos (keywordEach [⟨some (Str.ofString "strict"), .Constant (.bool true) jj p2, kp⟩] X.env)).filterMap (·.1) = [Str.ofString "strict"] := by rfl) :
    PI X (.Tuple elts kk tpos) (.Call (.Name "zip" p) [e, e2] [⟨some (Str.ofString "strict"), .Constant (.bool true) jj p2, kp⟩] pos) (iZs X.K true ta) := by
  refine ⟨fun pins s σ H R I h => ?_⟩
  refine wpAny_Call_Name_kw (ld_blt I hg hm PyProof.Rows.boot_zip ?_)
  rw [hs] at hpl ⊢
  have hk : PK X [⟨some (Str.ofString "strict"), .Constant (.bool true) jj p2, kp⟩] _ := pk_cons (pe_bl (b := true)) pk_nil
  refine call_tk hpl hk2 hk1 (thn (hs ▸ ha.run pos pins s σ H _ I h) fun us s1 ⟨vs, H1, I1, r1, q1⟩ => ?_)
  refine thn (hk.run pos pins s1 σ H1 (fun zs H2 => zs = [.bl true] ∧ H2 = H1) I1 ⟨rfl, rfl⟩) fun ws s2 ⟨zs, H2, I2, r2, q2⟩ => ?_
  obtain ⟨rfl, rfl⟩ := q2
  rw [hk3]
  obtain ⟨a, b, k1, k2, xs, ys, ex, hx, hy, q⟩ := q1
  subst ex
  rw [vals_rr r1, vals_b r2]
  exact zs_made (st := true) I2 hx hy fun s' z fp Sf I3 tn s0 fpo self => self ⟨z, fp, Sf, _, H2, rfl, I3, tn, s0, fpo, q⟩
def pairsL (xs ys : List D) : List D := List.zipWith (fun x y => .tup [x, y]) xs ys
theorem pairsL_len {xs ys : List D} : (pairsL xs ys).length = min xs.length ys.length := List.length_zipWith ..
theorem pairsL_get {xs ys : List D} {i : Nat} {d : D} (h : (pairsL xs ys)[i]? = some d) : ∃ x y, d = .tup [x, y] ∧ xs[i]? = some x ∧ ys[i]? = some y := by
  unfold pairsL at h
  rw [List.getElem?_zipWith] at h
  cases h1 : xs[i]? with
  | none => rw [h1] at h; cases h
  | some x =>
    cases h2 : ys[i]? with
    | none => rw [h1, h2] at h; cases h
    | some y =>
      rw [h1, h2] at h
      cases h
      exact ⟨x, y, rfl, rfl, rfl⟩
def zipD (st : Bool) : List D → Option (List D)
  | [x, y] => match itemsD x, itemsD y with
    | some a, some b => if st = false ∨ a.length = b.length then some (pairsL a b) else none
    | _, _ => none
  | _ => none
def mZip (st : Bool) (m : MA) : MI := fun σ S => (m σ S).bind fun ds S1 => R.of (zipD st ds) S1
theorem items_rep {K : PySem.W.Frag} {F : Hp} {ρ : List Addr} {d : D} {v : V} {ds : List D} (r : Rep K F ρ d v) (e : itemsD d = some ds) : ∃ k a vs, v = .ref a ∧ SqK K k F a vs ∧ Reps K F ρ ds vs ∧ ds.length ≤ sizeLine := by
  unfold itemsD at e
  split at e
  · cases e
    obtain ⟨a, vs, rfl, h1, h2, h3⟩ := rep_lst r
    exact ⟨true, a, vs, rfl, h1, h2, h3⟩
  · cases e
    obtain ⟨a, vs, rfl, h1, h2, h3⟩ := rep_tup r
    exact ⟨false, a, vs, rfl, h1, h2, h3⟩
  · cases e
theorem ItOk.zip {K : PySem.W.Frag} {mg} {F : Hp} {ρ : List Addr} {st k1 k2 : Bool} {a b : Addr} {vs us : List V} {ds es : List D} (h1 : SqK K k1 F a vs) (h2 : SqK K k2 F b us) (r1 : Reps K F ρ ds vs) (r2 : Reps K F ρ es us) (hl : ds.length ≤ sizeLine) (hs : st = false ∨ ds.length = es.length) :
    ItOk K mg (Itzk K st k1 k2 a b) F ρ (pairsL ds es) where
  len := by rw [pairsL_len]; omega
  go := fun i F' H ρ' S e p w hi => by
    rw [pairsL_len] at hi
    obtain ⟨x, g1, _⟩ := r1.get (List.getElem?_eq_getElem (show i < ds.length by omega))
    obtain ⟨y, g2, _⟩ := r2.get (List.getElem?_eq_getElem (show i < es.length by omega))
    exact ⟨vs, us, x, y, SqK.mono w.fh (SqK.mono e h1), SqK.mono w.fh (SqK.mono e h2), g1, g2⟩
  stop := fun F' H ρ' S e p w => by
    refine ⟨vs, us, SqK.mono w.fh (SqK.mono e h1), SqK.mono w.fh (SqK.mono e h2), ?_⟩
    rw [pairsL_len, ← r1.length, ← r2.length]
    cases st with
    | true =>
      have := hs.resolve_left (fun h => nomatch h)
      rw [← r1.length, ← r2.length] at this
      exact .inl ⟨rfl, by omega, by omega⟩
    | false => exact .inr ⟨rfl, by omega⟩
  yld := fun i F' H ρ' S x H' d e p w hd y => by
    obtain ⟨T, v1, v2, rfl, hT, rfl, y1, y2⟩ := y
    obtain ⟨d1, d2, rfl, e1, e2⟩ := pairsL_get hd
    obtain ⟨u1, g1, q1⟩ := r1.get e1
    obtain ⟨u2, g2, q2⟩ := r2.get e2
    have z1 := y1 vs (SqK.mono w.fh (SqK.mono e h1))
    have z2 := y2 us (SqK.mono w.fh (SqK.mono e h2))
    rw [g1] at z1
    rw [g2] at z2
    cases z1
    cases z2
    have x := ext_new (ρ := ρ') (o := .tup [v1, v2]) hT (w.fnone hT)
    refine ⟨_, x, w0_new w hT, .t (.inl (.inl upd_same)) ?_ (by show 2 ≤ sizeLine; decide)⟩
    exact x.reps ⟨v1, [v2], rfl, Rep.mono e p _ _ q1, v2, [], rfl, Rep.mono e p _ _ q2, rfl⟩
theorem di_zip0 {ma : MA} (hg : Gl X "zip") (hm : X.mg "zip" = none) (ha : DA X n W ma [e, e2])
    (hs : starEach [e, e2] X.env = (false, eval e X.env) :: starEach [e2] X.env := by rfl) (hpl : (backTo pos (starEach [e2] X.env)).any (·.1) = false := by rfl) :
    DI X n W (mZip false ma) (.Tuple elts kk tpos) (.Call (.Name "zip" p) [e, e2] [] pos) := by
  refine PI.weak (pi_zs0 hg hm ha hs hpl) fun σ H Q q => ?_
  obtain ⟨F, ρ, σd, S, rs, o⟩ := q
  refine ⟨F, ρ, σd, S, rs, Out.bind o fun ds S1 o1 vs H1 F1 ρ1 x1 w1 r1 => ?_⟩
  obtain ⟨ps, e, p⟩ := Out.of o1
  unfold zipD at e
  split at e
  · split at e
    · rename_i x y _ _ a b ea eb
      split at e
      · rename_i hs
        cases e
        obtain ⟨v, u, rfl, g1, g2⟩ := reps2 r1
        obtain ⟨k1, a1, vs1, rfl, m1, m2, m3⟩ := items_rep g1 ea
        obtain ⟨k2, a2, vs2, rfl, m4, m5, m6⟩ := items_rep g2 eb
        exact ⟨a1, a2, k1, k2, vs1, vs2, rfl, SqK.mono w1.fh m1, SqK.mono w1.fh m4, p _ H1 F1 ρ1 x1 w1 (.zip m1 m4 m2 m5 m3 hs)⟩
      · cases e
    · cases e
  · cases e
theorem di_zip1 {ma : MA} {p2 kp : Pos} {jj} (hg : Gl X "zip") (hm : X.mg "zip" = none) (ha : DA X n W ma [e, e2])
    (hs : backTo pos (starEach [e, e2] X.env) = (false, eval e X.env) :: backTo pos (starEach [e2] X.env) := by rfl) (hpl : (backTo pos (starEach [e, e2] X.env)).any (·.1) = false := by rfl)
    (hk1 : (backToKw pos (keywordEach [⟨some (Str.ofString "strict"), .Constant (.bool true) jj p2, kp⟩] X.env)).all (·.1.isSome) = true := by rfl) (hk2 : (backToKw pos (keywordEach [⟨some (Str.ofString "strict"), .Constant (.bool true) jj p2, kp⟩] X.env)).any (·.1.isNone) = false := by rfl)
    (hk3 : (backToKw pos (keywordEach [⟨some (Str.ofString "strict"), .Constant (.bool true) jj p2, kp⟩] X.env)).filterMap (·.1) = [Str.ofString "strict"] := by rfl) :
    DI X n W (mZip true ma) (.Tuple elts kk tpos) (.Call (.Name "zip" p) [e, e2] [⟨some (Str.ofString "strict"), .Constant (.bool true) jj p2, kp⟩] pos) := by
  refine PI.weak (pi_zs1 hg hm ha hs hpl hk1 hk2 hk3) fun σ H Q q => ?_
  obtain ⟨F, ρ, σd, S, rs, o⟩ := q
  refine ⟨F, ρ, σd, S, rs, Out.bind o fun ds S1 o1 vs H1 F1 ρ1 x1 w1 r1 => ?_⟩
  obtain ⟨ps, e, p⟩ := Out.of o1
  unfold zipD at e
  split at e
  · split at e
    · rename_i x y _ _ a b ea eb
      split at e
      · rename_i hs
        cases e
        obtain ⟨v, u, rfl, g1, g2⟩ := reps2 r1
        obtain ⟨k1, a1, vs1, rfl, m1, m2, m3⟩ := items_rep g1 ea
        obtain ⟨k2, a2, vs2, rfl, m4, m5, m6⟩ := items_rep g2 eb
        exact ⟨a1, a2, k1, k2, vs1, vs2, rfl, SqK.mono w1.fh m1, SqK.mono w1.fh m4, p _ H1 F1 ρ1 x1 w1 (.zip m1 m4 m2 m5 m3 hs)⟩
      · cases e
    · cases e
  · cases e
end
end PL

set_option Elab.async false
set_option linter.all false
set_option maxRecDepth 100000
set_option maxHeartbeats 4000000
namespace PL
open PySem PySem.Spec PyProof.Rows L2
/-! ### enumerate of a list or tuple -/
theorem begins_sq (k : Bool) (l : Addr) (xs : Array Value) : Begins (.ref l) (itO k l) fun h => SQ k h l xs := by
  cases k with
  | true => exact begins_list l xs
  | false => exact begins_tuple l xs
theorem draws_sq {prog : Program} {w : World} {A : Around} (hh : A.handled = none) (k : Bool) (it l : Addr) (ne : l ≠ it) (xs : Array Value) :
    Draws prog w A it [it, l] xs.size (fun i v => xs[i]? = some v) (fun i h => SI k h it l i ∧ SQ k h l xs) := by
  cases k with
  | true => exact Draws.list hh it l ne xs
  | false => exact Draws.tuple hh it l ne xs
theorem meets_en1 {v : Value} {o : Obj} {G : Heap → Prop} (B : Begins v o G) :
    Meets (Builtin.«enumerate.__new__» ⟨[.type "enumerate", v], []⟩) (fun _ R s => G s.heap ∧
      R (.ok (.ret (.ref (s.heap.push o).objs.size))) { s with heap := (s.heap.push o).push { cls := .type "enumerate", data := .fields #[.none, .bool false, .ref s.heap.objs.size, rawInt 0, .none, .none] } }) :=
  .of_wp fun prog w A R s h => by
    obtain ⟨hp, g, d, tk, os⟩ := s
    obtain ⟨h1, h⟩ := h
    have hsub := sub_enumerate
    have q1 : ∀ {A' : Around} {E : Value → Shared → Prop} {Q : Value → Shared → Prop}, Q (.ref hp.objs.size) ⟨hp.push o, g, d, tk, os⟩ → wpAny (model prog w) A' (pyIter v) Q E ⟨hp, g, d, tk, os⟩ :=
      fun q => B.iter prog w _ _ ⟨hp, g, d, tk, os⟩ _ h1 q
    wp_walk using q1
    refine wpAny_stack_any fun st => wpAny_pure ?_
    split
    · rename_i c _ _ _ _ _
      cases (c == Value.type "enumerate") <;>
      · wp_walk using q1
        exact ⟨_, rfl, h⟩
    · wp_walk using q1
      exact ⟨_, rfl, h⟩
theorem en_made {prog : Program} {w : World} {A : Around} {E : Value → Shared → Prop} {s : Shared} {v : Value} {o : Obj} {G : Heap → Prop} {Q : Value → Shared → Prop} (B : Begins v o G) (h1 : G s.heap)
    (h : ∀ h', IsEnum h' (s.heap.objs.size + 1) s.heap.objs.size 0 .none → h'.get? s.heap.objs.size = some o →
      (∀ b o, s.heap.get? b = some o → h'.get? b = some o) → Q (.ref (s.heap.objs.size + 1)) { s with heap := h' }) :
    wpAny (model prog w) A (call (.type "enumerate") [v]) Q E s := by
  have sz : (s.heap.push o).objs.size = s.heap.objs.size + 1 := Heap.size_push ..
  have he := Heap.get?_push_size (s.heap.push o) (o := { cls := .type "enumerate", data := .fields #[.none, .bool false, .ref s.heap.objs.size, rawInt 0, .none, .none] }) rfl
  rw [sz] at he
  refine callType_new F.called_enumerate (by decide) (F.typeCall_enumerate_1 _) (F.newCall_enumerate_1 _) (fun obj => F.args_object_init_2 obj _) F.entry_enumerate_new (meets_en1 B) ⟨h1, ?_⟩
  show _ ∧ _
  rw [sz]
  exact ⟨⟨_, he, rfl⟩, h _ he (Heap.get?_push_of_some _ (Heap.get?_push_size _ B.free)) fun b o x => Heap.get?_push_of_some _ (Heap.get?_push_of_some _ x)⟩
def Iek (K : PySem.W.Frag) (k : Bool) (a : Addr) : It :=
  ⟨fun i H => ∃ (xs : List V) (x : V), SqK K k H a xs ∧ xs[i]? = some x, fun i H v H' => ∃ T x, v = .ref T ∧ H T = none ∧ H' = upd H T (.tup [.int (i : Nat), x]) ∧ ∀ xs, SqK K k H a xs → xs[i]? = some x,
    fun i H => ∃ xs : List V, SqK K k H a xs ∧ xs.length = i⟩
theorem mem2 {e it c : Addr} (h : c ∈ [e, it]) : c = e ∨ c = it := by simpa using h
theorem turn_en {P : Program} {w : World} {K : PySem.W.Frag} {elts : List Expr} {kk : Nat} {tpos : Pos} {k : Bool} {a e it : Addr} (n1 : e ≠ it) (n2 : a ≠ it) (n3 : a ≠ e) :
    Turn P w K (.Tuple elts kk tpos) (Iek K k a) [e, it] e (fun i h => (∃ old, IsEnum h e it ((i : Nat) : Int) old) ∧ SI k h it a i) where
  mem := by simp
  obj := fun i h h0 b hb => by
    obtain ⟨⟨old, he⟩, hi⟩ := h0
    rcases mem2 hb with z | z
    · rw [z]; exact ⟨_, he, fun v q => nomatch q⟩
    · rw [z]; exact hi.obj
  keep := fun i h h' h0 kp => by
    obtain ⟨⟨old, he⟩, hi⟩ := h0
    exact ⟨⟨old, kp e (by simp) _ he⟩, hi.keep fun o q => kp it (by simp) o q⟩
  item := by
    intro X hP hw hK hc i pins s σ H E I hf h0 hg
    subst hP hw hK
    obtain ⟨⟨old, he⟩, hi⟩ := h0
    obtain ⟨xs, x, hq, hx⟩ := hg
    obtain ⟨its, rv, p⟩ := sqk_inv I hq
    obtain ⟨u, hu, ru⟩ := rv.get hx
    have el : e < s.heap.objs.size := Heap.lt_size he
    have il := hi.lt
    have hlt : i < its.toArray.size := by
      have := (List.getElem?_eq_some_iff.mp hu).1
      simpa using this
    refine wpAny_pyNext_enum_itemD (draws_sq (by first | exact I.ok.hd hc | exact (I.ok.hd hc)) k it a n2 its.toArray) he ⟨hi, p⟩ hlt n1 (by simp; exact ⟨n1, n3.symm⟩) fun y h' tk hy ho hst hT sz kp => ?_
    have hyu : y = u := by
      have : its.toArray[i]? = some y := hy
      rw [List.getElem?_toArray, hu] at this
      cases this
      rfl
    subst hyu
    refine ⟨_, rfl, wpAny_letOwnedTupleGo_enum (s := { s with heap := h', toks := tk + 1 }) ho fun h'' he' sb => ?_⟩
    have hT2 : h''.get? s.heap.objs.size = some { cls := .type "tuple", data := .seq #[.int i tk, y] } := (sb.2 _ (Nat.ne_of_gt el)).trans hT
    have new : ObjOk X.prog X.w (upd H s.heap.objs.size (.tup [.int (i : Nat), x])) h'' s.heap.objs.size (.tup [.int (i : Nat), x]) :=
      ⟨by show 2 ≤ sizeLine; decide, [.int i tk, y], .cons ⟨_, rfl⟩ (.cons ru .nil), ⟨_, hT2, rfl, _, rfl⟩⟩
    have I1 : Inv X pins σ (upd H s.heap.objs.size (.tup [.int (i : Nat), x])) { s with heap := h'', toks := tk + 1 } :=
      I.turnedNew (ch := [e, it]) (fun b ob hb q => (sb.2 b (fun z => hb (by simp [z]))).trans (kp b ob (fun z => hb (by simp [z])) (fun z => hb (by simp [z])) q)) hf (Nat.le_refl _) new
    refine ⟨.ref s.heap.objs.size, _, I1, rfl, ⟨_, x, rfl, I.hok.fresh (Nat.le_refl _), rfl, fun ys hy => by rw [sqk_inj I hy hq]; exact hx⟩, ⟨⟨y, ?_⟩, hst.1.keep fun o q => (sb.2 it (Ne.symm n1)).trans q⟩, fun b hb => ?_⟩
    · have e1 : ((i + 1 : Nat) : Int) = (i : Int) + 1 := by omega
      rw [e1]; exact he'
    · have hb' : b < s.heap.objs.size := by
        rcases mem2 hb with z | z
        · rw [z]; exact el
        · rw [z]; exact il
      rw [upd_ne (Nat.ne_of_lt hb')]
      exact (hf b hb).1
  done := by
    intro X hP hw hK hc i pins s σ H E I hf h0 hg
    subst hP hw hK
    obtain ⟨⟨old, he⟩, hi⟩ := h0
    obtain ⟨xs, hq, hx⟩ := hg
    obtain ⟨its, rv, p⟩ := sqk_inv I hq
    obtain ⟨f0, f1, f2, f3, f4, f5⟩ := hf it (by simp)
    have hl := rv.length
    have hsz : its.toArray.size = i := by simp; omega
    exact wpAny_pyNext_enum_endD (draws_sq (by first | exact I.ok.hd hc | exact (I.ok.hd hc)) k it a n2 its.toArray) he ⟨by rw [hsz]; exact hi, p⟩ fun h' eb => ⟨rfl, I.turned (t' := s.toks) (fun b o hb q => eb b o hb q) f0 f1 f3 f4 f5⟩
  self := fun A i s Q E h0 h => let ⟨⟨_, he⟩, _⟩ := h0; wpAny_pyIter_enum he h
def iEn (K : PySem.W.Frag) (ta : TA) : TI := fun σ H R => ta σ H fun vs H1 => ∃ a k xs, vs = [.ref a] ∧ SqK K k H1 a xs ∧ R (Iek K k a) H1
section
variable {X : Cx} {n : En} {W : WS} {pos : Pos} {elts : List Expr} {kk : Nat} {tpos : Pos} {e : Expr} {p : Pos}
theorem vals_r {a : Addr} {us : List Value} (r : Vals [.ref a] us) : us = [.ref a] := by
  cases r with
  | cons r rr =>
    cases rr
    cases r
    rfl
theorem pi_en {ta : TA} (hg : Gl X "enumerate") (hm : X.mg "enumerate" = none) (ha : PA X [e] ta) (hs : starEach [e] X.env = [(false, eval e X.env)] := by rfl) :
    PI X (.Tuple elts kk tpos) (.Call (.Name "enumerate" p) [e] [] pos) (iEn X.K ta) := by
  refine ⟨fun pins s σ H R I h => ?_⟩
  refine Call_ (ld_blt I hg hm boot_enumerate (PyProof.Rows.callWith_type1 (thn (ha.run pos pins s σ H _ I h) fun us s1 ⟨vs, H1, I1, r1, q1⟩ => ?_) hs rfl))
  obtain ⟨a, k, xs, ex, hq, q⟩ := q1
  subst ex
  rw [vals_r r1]
  obtain ⟨its, rv, pp⟩ := sqk_inv I1 hq
  refine en_made (begins_sq k a its.toArray) pp fun h' he hi hk => wpAny_pyIter_enum he ?_
  have I2 : Inv X pins σ H1 { s1 with heap := h' } := I1.kept (t' := s1.toks) hk
  have al := pp.lt
  refine ⟨s1.heap.objs.size + 1, [s1.heap.objs.size + 1, s1.heap.objs.size], _, _, H1, rfl, I2, turn_en (a := a) (e := s1.heap.objs.size + 1) (it := s1.heap.objs.size) (Nat.succ_ne_self _) (Nat.ne_of_lt al) (Nat.ne_of_lt (Nat.lt_succ_of_lt al)), ⟨⟨.none, he⟩, si_new k hi⟩, fun b hb => ?_, q⟩
  have hle : s1.heap.objs.size ≤ b := by
    rcases mem2 hb with z | z <;> rw [z] <;> omega
  exact I1.fpOk hle (I1.hok.fresh hle)
def numL (xs : List D) (k : Nat) : List D := match xs with
  | [] => []
  | x :: xs => .tup [.int (k : Int), x] :: numL xs (k + 1)
theorem numL_len : ∀ {xs : List D} {k : Nat}, (numL xs k).length = xs.length
  | [], k => rfl
  | x :: xs, k => by
    show (numL xs (k + 1)).length + 1 = xs.length + 1
    rw [numL_len]
theorem numL_get : ∀ {xs : List D} {k i : Nat} {d : D}, (numL xs k)[i]? = some d → ∃ x, d = .tup [.int ((k + i : Nat) : Int), x] ∧ xs[i]? = some x
  | [], k, i, d, h => by cases h
  | x :: xs, k, 0, d, h => by cases h; exact ⟨x, rfl, rfl⟩
  | x :: xs, k, i + 1, d, h => by
    obtain ⟨y, h1, h2⟩ := numL_get (xs := xs) (k := k + 1) (i := i) h
    exact ⟨y, by rw [h1, show k + 1 + i = k + (i + 1) by omega], h2⟩
def enD : List D → Option (List D)
  | [x] => (itemsD x).map fun a => numL a 0
  | _ => none
def mEn (m : MA) : MI := fun σ S => (m σ S).bind fun ds S1 => R.of (enD ds) S1
theorem ItOk.en {K : PySem.W.Frag} {mg} {F : Hp} {ρ : List Addr} {k : Bool} {a : Addr} {vs : List V} {ds : List D} (h1 : SqK K k F a vs) (r1 : Reps K F ρ ds vs) (hl : ds.length ≤ sizeLine) :
    ItOk K mg (Iek K k a) F ρ (numL ds 0) where
  len := by rw [numL_len]; exact hl
  go := fun i F' H ρ' S e p w hi => by
    rw [numL_len] at hi
    obtain ⟨x, g1, _⟩ := r1.get (List.getElem?_eq_getElem hi)
    exact ⟨vs, x, SqK.mono w.fh (SqK.mono e h1), g1⟩
  stop := fun F' H ρ' S e p w => ⟨vs, SqK.mono w.fh (SqK.mono e h1), by rw [numL_len, r1.length]⟩
  yld := fun i F' H ρ' S x H' d e p w hd y => by
    obtain ⟨T, v1, rfl, hT, rfl, y1⟩ := y
    obtain ⟨d1, rfl, e1⟩ := numL_get hd
    obtain ⟨u1, g1, q1⟩ := r1.get e1
    have z1 := y1 vs (SqK.mono w.fh (SqK.mono e h1))
    rw [g1] at z1
    cases z1
    rw [Nat.zero_add]
    have x := ext_new (ρ := ρ') (o := .tup [.int (i : Nat), v1]) hT (w.fnone hT)
    refine ⟨_, x, w0_new w hT, .t (.inl (.inl upd_same)) ?_ (by show 2 ≤ sizeLine; decide)⟩
    exact x.reps ⟨.int (i : Nat), [v1], rfl, rfl, v1, [], rfl, Rep.mono e p _ _ q1, rfl⟩
theorem di_en {ma : MA} (hg : Gl X "enumerate") (hm : X.mg "enumerate" = none) (ha : DA X n W ma [e]) (hs : starEach [e] X.env = [(false, eval e X.env)] := by rfl) :
    DI X n W (mEn ma) (.Tuple elts kk tpos) (.Call (.Name "enumerate" p) [e] [] pos) := by
  refine PI.weak (pi_en hg hm ha hs) fun σ H Q q => ?_
  obtain ⟨F, ρ, σd, S, rs, o⟩ := q
  refine ⟨F, ρ, σd, S, rs, Out.bind o fun ds S1 o1 vs H1 F1 ρ1 x1 w1 r1 => ?_⟩
  obtain ⟨ps, e, p⟩ := Out.of o1
  unfold enD at e
  split at e
  · rename_i _ x
    cases ea : itemsD x with
    | none => rw [ea] at e; cases e
    | some a =>
      rw [ea] at e
      cases e
      obtain ⟨v, rfl, g1⟩ := reps1 r1
      obtain ⟨k1, a1, vs1, rfl, m1, m2, m3⟩ := items_rep g1 ea
      exact ⟨a1, k1, vs1, rfl, SqK.mono w1.fh m1, p _ H1 F1 ρ1 x1 w1 (.en m1 m2 m3)⟩
  · cases e
end
end PL

set_option Elab.async false
set_option linter.all false
set_option maxRecDepth 100000
set_option maxHeartbeats 4000000
namespace PL
open PySem PySem.Spec PyProof.Rows L2
/-! ### keys and lookups -/
def keyOf : D → Option Key
  | .int i => some (.inl i)
  | .str x => some (.inr x)
  | _ => none
theorem keyOf_rep {K : PySem.W.Frag} {F : Hp} {ρ : List Addr} {d : D} {v : V} {k : Key} (r : Rep K F ρ d v) (e : keyOf d = some k) : v = kV k := by
  unfold keyOf at e
  split at e
  · cases e; exact rep_int r
  · cases e; exact rep_str r
  · cases e
def lookD {κ : Type} [DecidableEq κ] : List κ → List D → κ → Option D
  | k :: ks, d :: ds, x => if k = x then some d else lookD ks ds x
  | _, _, _ => none
theorem lookD_reps {κ : Type} [DecidableEq κ] {K : PySem.W.Frag} {F : Hp} {ρ : List Addr} {x : κ} : ∀ {ks : List κ} {ds : List D} {vs : List V}, Reps K F ρ ds vs →
    (∀ d, lookD ks ds x = some d → ∃ v, valV (ks.zip vs) x = some v ∧ Rep K F ρ d v) ∧ (lookD ks ds x = none → ks.length = ds.length → valV (ks.zip vs) x = none)
  | [], ds, vs, r => ⟨fun d h => (by unfold lookD at h; cases h), fun _ _ => by rw [List.zip_nil_left]; rfl⟩
  | k :: ks, [], vs, r => ⟨fun d h => (by unfold lookD at h; cases h), fun _ h => by cases h⟩
  | k :: ks, d :: ds, vs, r => by
    obtain ⟨v, vs', rfl, h1, h2⟩ := (show ∃ v r, vs = v :: r ∧ Rep K F ρ d v ∧ Reps K F ρ ds r from by unfold Reps at r; exact r)
    have ih := lookD_reps (x := x) (ks := ks) h2
    by_cases e : k = x
    · refine ⟨fun d' h => ?_, fun h => ?_⟩
      · rw [lookD, if_pos e] at h
        cases h
        exact ⟨v, by rw [List.zip_cons_cons, valV_pos e], h1⟩
      · rw [lookD, if_pos e] at h
        cases h
    · refine ⟨fun d' h => ?_, fun h hl => ?_⟩
      · rw [lookD, if_neg e] at h
        obtain ⟨w, h3, h4⟩ := ih.1 d' h
        exact ⟨w, by rw [List.zip_cons_cons, valV_neg e]; exact h3, h4⟩
      · rw [lookD, if_neg e] at h
        rw [List.zip_cons_cons, valV_neg e]
        exact ih.2 h (by simpa using hl)
/-- the keys and values of a dict, frozen or a cell -/
def dictOf (S : Store) : D → Option (List Key × List D)
  | .dK ks ds => some (ks, ds)
  | .ref m => match S[m]? with
    | some (.dK ks ds) => some (ks, ds)
    | _ => none
  | _ => none
theorem dict_of {K : PySem.W.Frag} {mg} {F H : Hp} {ρ : List Addr} {S : Store} {d : D} {v : V} {p : List Key × List D} (w : W0 K mg F H ρ S) (r : Rep K F ρ d v) (e : dictOf S d = some p) :
    ∃ a vs, v = .ref a ∧ H a = some (.dK (p.1.zip vs)) ∧ Reps K F ρ p.2 vs ∧ p.1.length = p.2.length := by
  unfold dictOf at e
  split at e
  · cases e
    obtain ⟨a, vs, rfl, h1, h2, h3⟩ := rep_dK r
    exact ⟨a, vs, rfl, w.fh _ _ h1, h2, h3⟩
  · rename_i m
    split at e
    · rename_i ks ds es
      cases e
      obtain ⟨a, rfl, h⟩ := rep_ref r
      obtain ⟨vs, h1, h2, h3⟩ := w.cell m a _ h es
      exact ⟨a, vs, rfl, h1, h2, h3⟩
    · cases e
  · cases e
def idxG (S : Store) (x i : D) : Option D := match dictOf S x with
  | some p => (keyOf i).bind fun k => lookD p.1 p.2 k
  | none => idxD S x i
section
variable {X : Cx} {n : En} {W : WS} {pos : Pos}
theorem de_idxG {ma mi : M} {a i : Expr} (hu65 : X.A.units + 65 < cLine) (ha : DE X n W ma a) (hi : DE X n W mi i) (hs : PlainIx i := by exact fun _ _ => rfl) : DE X n W (mBin idxG ma mi) (.Subscript a i pos) := by
  have hu : X.A.units + 1 < cLine := by omega
  refine ⟨fun pins s σ H Q I q => ?_⟩
  obtain ⟨F, ρ, σd, S, rs, o⟩ := q
  by_cases hd : ∃ x S1 p y S2, ma σd S = .ok x S1 ∧ mi σd S1 = .ok y S2 ∧ dictOf S2 x = some p
  · obtain ⟨x, S1, p, y, S2, e1, e2, e3⟩ := hd
    refine (pe_dget hu ha hi hs).run pins s σ H Q I ⟨F, ρ, σd, S, rs, ?_⟩
    unfold mBin at o
    rw [e1] at o ⊢
    intro v1 H1 F1 ρ1 x1 w1 r1
    refine ⟨F1, ρ1, σd, S1, rs.next x1 w1, ?_⟩
    simp only [R.bind, e2] at o
    rw [e2]
    intro v2 H2 F2 ρ2 x2 w2 r2
    unfold idxG at o
    rw [e3] at o
    obtain ⟨d, ed, pd⟩ := Out.of o
    cases ek : keyOf y with
    | none => rw [ek] at ed; cases ed
    | some k =>
      rw [ek] at ed
      obtain ⟨a, vs, rfl, g1, g2, g3⟩ := dict_of w2 (x2.rep r1) e3
      obtain ⟨v, g4, g5⟩ := (lookD_reps (x := k) g2).1 d ed
      rw [keyOf_rep r2 ek]
      exact ⟨a, v, rfl, .inl ⟨_, k, .inl g1, rfl, g4.symm⟩, pd v H2 F2 ρ2 (x1.trans x2) w2 g5⟩
  · refine (de_idx ha hi hs).run pins s σ H Q I ⟨F, ρ, σd, S, rs, ?_⟩
    have : mBin idxG ma mi σd S = mBin idxD ma mi σd S := by
      unfold mBin
      cases e1 : ma σd S with
      | ok x S1 =>
        simp only [R.bind]
        cases e2 : mi σd S1 with
        | ok y S2 =>
          simp only [R.bind]
          unfold idxG
          cases e3 : dictOf S2 x with
          | none => rfl
          | some p => exact (hd ⟨x, S1, p, y, S2, e1, e2, e3⟩).elim
        | exc _ _ _ => rfl
        | bad => rfl
      | exc _ _ _ => rfl
      | bad => rfl
    rw [← this]
    exact o
end
/-! ### displays -/
abbrev MP := Sls → Store → R (List Key × List D)
def mP0 : MP := fun _ S => .ok ([], []) S
def mP (mk mv : M) (r : MP) : MP := fun σ S => (mk σ S).bind fun k S1 => (mv σ S1).bind fun d S2 => (r σ S2).bind fun p S3 => R.of ((keyOf k).map fun k => (k :: p.1, d :: p.2)) S3
def pairsV (ks : List Key) (vs : List V) : List (V × V) := (ks.zip vs).map fun kv => (kV kv.1, kv.2)
def tMP (K : PySem.W.Frag) (mg : Str → Option Value) (n : En) (W : WS) (m : MP) (σ : L2.St) (H : Hp) (Q : List (V × V) → Hp → Prop) : Prop := ∃ F ρ σd S, RS K mg n F H ρ σd S σ ∧
  Out (m σd S) (fun p S' => ∀ vs H' F' ρ', Ext ρ F H ρ' F' H' → W0 K mg F' H' ρ' S' → Reps K F' ρ' p.2 vs → p.1.length = p.2.length → Q (pairsV p.1 vs) H') (fun c d S' => W c d σd S')
def DP (X : Cx) (n : En) (W : WS) (m : MP) (pos : Pos) (keys : List (Option Expr)) (values : List Expr) : Prop := ∃ trs, PPs X pos keys values trs ∧ ∀ σ H Q, tMP X.K X.mg n W m σ H Q → tPairs trs σ H Q
section
variable {X : Cx} {n : En} {W : WS} {pos : Pos}
theorem dp_nil : DP X n W mP0 pos [] [] := by
  refine ⟨[], pps_nil, fun σ H Q q => ?_⟩
  obtain ⟨F, ρ, σd, S, rs, o⟩ := q
  exact o [] H F ρ (.refl _ _ _) rs.w .nil rfl
theorem dp_cons {mk mv : M} {r : MP} {k v : Expr} {ks : List (Option Expr)} {vs : List Expr} (hk : DE X n W mk k) (hv : DE X n W mv v) (hr : DP X n W r pos ks vs) : DP X n W (mP mk mv r) pos (some k :: ks) (v :: vs) := by
  obtain ⟨trs, h1, h2⟩ := hr
  refine ⟨_, pps_cons hk hv h1, fun σ H Q q => ?_⟩
  obtain ⟨F, ρ, σd, S, rs, o⟩ := q
  refine ⟨F, ρ, σd, S, rs, Out.bind o fun kd S1 o1 v1 H1 F1 ρ1 x1 w1 r1 => ⟨F1, ρ1, σd, S1, rs.next x1 w1, Out.bind o1 fun d S2 o2 v2 H2 F2 ρ2 x2 w2 r2 => ?_⟩⟩
  refine h2 _ _ _ ⟨F2, ρ2, σd, S2, (rs.next x1 w1).next x2 w2, Out.bind o2 fun p S3 o3 us H3 F3 ρ3 x3 w3 r3 hl => ?_⟩
  obtain ⟨p', e, o4⟩ := Out.of o3
  cases ek : keyOf kd with
  | none => rw [ek] at e; cases e
  | some key =>
    rw [ek] at e
    cases e
    have := o4 (v2 :: us) H3 F3 ρ3 (x1.trans (x2.trans x3)) w3 (.cons (x3.rep r2) r3) (by simp [hl])
    rw [keyOf_rep r1 ek]
    exact this
theorem mergeK_nodup : ∀ (more : List (Key × V)) (kvs : List (Key × V)), ((kvs ++ more).map (·.1)).Nodup → mergeK kvs more = kvs ++ more
  | [], kvs, h => by rw [List.append_nil]; rfl
  | p :: r, kvs, h => by
    have e : putK kvs p.1 p.2 = kvs ++ [p] := by
      unfold putK
      rw [if_neg]
      intro hc
      obtain ⟨kv, h1, h2⟩ := List.any_eq_true.mp hc
      have h2 := of_decide_eq_true h2
      rw [List.map_append, List.nodup_append] at h
      exact h.2.2 kv.1 (List.mem_map_of_mem h1) p.1 (List.mem_map_of_mem List.mem_cons_self) h2
    show mergeK (putK kvs p.1 p.2) r = _
    rw [e, mergeK_nodup r (kvs ++ [p]) (by rw [List.append_assoc]; exact h), List.append_assoc]
    rfl
/-- an object that nobody sees yet -/
theorem ext_hid {ρ : List Addr} {F H : Hp} {p : Addr} {o : HO} (hp : H p = none) : Ext ρ F H ρ F (upd H p o) :=
  ⟨fun a o' h => h, fun a o' h => .inl h, ⟨[], by simp, by simp⟩, fun a o' h _ => by rw [upd_ne (ne_of_none h hp)]; exact h, fun a h => by
    by_cases e : a = p
    · subst e; rw [upd_same] at h; cases h
    · rwa [upd_ne e] at h⟩
theorem w0_hid {K : PySem.W.Frag} {mg : Str → Option Value} {F H : Hp} {ρ : List Addr} {S : Store} {p : Addr} {o : HO} (w : W0 K mg F H ρ S) (hp : H p = none) : W0 K mg F (upd H p o) ρ S := by
  have hf := w.fnone hp
  refine ⟨fun a o' h => ?_, w.len, w.nd, w.off, fun n a c h1 h2 => ?_⟩
  · rw [upd_ne (fun e => by subst e; rw [hf] at h; cases h)]
    exact w.fh _ _ h
  · refine CellOk.mono (fun _ _ h => h) ⟨[], by simp⟩ ?_ (w.cell n a c h1 h2)
    exact upd_ne (fun e => by subst e; exact w.there (List.mem_of_getElem? h1) hp)
/-- it is written and shown -/
theorem show_hid {K : PySem.W.Frag} {mg : Str → Option Value} {F H F2 H2 : Hp} {ρ ρ2 : List Addr} {S S2 : Store} {p : Addr} {o o2 : HO} (w : W0 K mg F H ρ S) (hp : H p = none) (x : Ext ρ F (upd H p o) ρ2 F2 H2) (w2 : W0 K mg F2 H2 ρ2 S2) :
    H2 p = some o ∧ Ext ρ F H ρ2 (upd F2 p o2) (upd H2 p o2) ∧ W0 K mg (upd F2 p o2) (upd H2 p o2) ρ2 S2 := by
  have hf := w.fnone hp
  have hr : p ∉ ρ := fun h => w.there h hp
  have f2 : F2 p = none := by
    cases e : F2 p with
    | none => rfl
    | some q =>
      rcases x.fnew p q e with z | z
      · rw [hf] at z; cases z
      · rw [upd_same] at z; cases z
  have h2 : H2 p = some o := x.keep p o upd_same hr
  obtain ⟨r, er, hn⟩ := x.rpre
  have rn : ∀ a ∈ r, a ≠ p ∧ H a = none := fun a ha => by
    have := hn a ha
    have ne : a ≠ p := fun e => by subst e; rw [upd_same] at this; cases this
    rw [upd_ne ne] at this
    exact ⟨ne, this⟩
  have hr2 : ∀ a ∈ ρ2, a ≠ p := fun a ha e => by
    subst e
    rw [er] at ha
    rcases List.mem_append.mp ha with h | h
    · exact hr h
    · exact (rn _ h).1 rfl
  refine ⟨h2, ⟨fun a o' h => ?_, fun a o' h => ?_, ⟨r, er, fun a ha => (rn a ha).2⟩, fun a o' h hn => ?_, fun a h => ?_⟩, ⟨fun a o' h => ?_, w2.len, w2.nd, fun a ha => ?_, fun n a c g1 g2 => ?_⟩⟩
  · rw [upd_ne (fun e => by subst e; rw [hf] at h; cases h)]
    exact x.fle _ _ h
  · by_cases e : a = p
    · subst e; exact .inr hp
    · rw [upd_ne e] at h
      rcases x.fnew a o' h with z | z
      · exact .inl z
      · rw [upd_ne e] at z; exact .inr z
  · have ne := ne_of_none h hp
    rw [upd_ne ne]
    exact x.keep a o' (by rw [upd_ne ne]; exact h) hn
  · have ne : a ≠ p := fun e => by subst e; rw [upd_same] at h; cases h
    rw [upd_ne ne] at h
    have := x.live a h
    rwa [upd_ne ne] at this
  · by_cases e : a = p
    · subst e; rw [upd_same] at h ⊢; exact h
    · rw [upd_ne e] at h ⊢; exact w2.fh _ _ h
  · rw [upd_ne (hr2 a ha)]; exact w2.off a ha
  · refine CellOk.mono (fun b q h => ?_) ⟨[], by simp⟩ ?_ (w2.cell n a c g1 g2)
    · rw [upd_ne (fun e => by subst e; rw [f2] at h; cases h)]; exact h
    · exact upd_ne (hr2 a (List.mem_of_getElem? g1))
def mDisp (m : MP) : M := fun σ S => (m σ S).bind fun p S1 => if p.1.Nodup ∧ p.1.length ≤ 15 then .ok (.dK p.1 p.2) S1 else .bad
theorem zip_keys {α β : Type} : ∀ {xs : List α} {ys : List β}, xs.length = ys.length → (xs.zip ys).map (·.1) = xs
  | [], ys, h => by rw [List.zip_nil_left]; rfl
  | x :: xs, [], h => by cases h
  | x :: xs, y :: ys, h => by rw [List.zip_cons_cons, List.map_cons, zip_keys (by simpa using h)]
theorem de_disp {m : MP} {keys : List (Option Expr)} {values : List Expr} (h : DP X n W m pos keys values) (hall : keys.all (·.isSome) = true := by rfl) (hl : keys.length = values.length := by rfl) (h0 : keys ≠ [] := by exact fun z => nomatch z)
    (h15 : keys.length ≤ 15 := by decide) : DE X n W (mDisp m) (.Dict keys values pos) := by
  obtain ⟨trs, h1, h2⟩ := h
  refine PE.weak (pe_disp h1 hall hl h0 h15) fun σ H Q q => ?_
  obtain ⟨F, ρ, σd, S, rs, o⟩ := q
  intro p hp
  have w1 := w0_hid (o := .dK []) rs.w hp
  refine h2 _ _ _ ⟨F, ρ, σd, S, rs.next (ext_hid hp) w1, Out.bind o fun pr S1 o1 vs H2 F2 ρ2 x2 w2 r2 hlen => ?_⟩
  split at o1
  · rename_i hc
    obtain ⟨g1, g2, g3⟩ := show_hid (o2 := .dK (pr.1.zip vs)) rs.w hp x2 w2
    have hv : pr.1.length = vs.length := by rw [hlen, r2.length]
    refine ⟨g1, pr.1.zip vs, rfl, by rw [List.length_zip]; omega, ?_⟩
    have e : mergeK [] (pr.1.zip vs) = pr.1.zip vs := by
      rw [mergeK_nodup _ [] (by rw [List.nil_append, zip_keys hv]; exact hc.1)]
      rfl
    rw [e]
    refine o1 _ _ _ _ g2 g3 (.k upd_same ?_ hlen)
    refine Reps.mono (fun b q hb => ?_) ⟨[], by simp⟩ _ _ r2
    by_cases eb : b = p
    · subst eb
      have := w2.fh _ _ hb
      rw [g1] at this
      have f2 : F2 b = none := by
        cases ee : F2 b with
        | none => rfl
        | some q =>
          rcases x2.fnew b q ee with z | z
          · rw [rs.w.fnone hp] at z; cases z
          · rw [upd_same] at z; cases z
      rw [f2] at hb
      cases hb
    · rw [upd_ne eb]; exact hb
  · exact o1.elim
end
end PL

set_option Elab.async false
set_option linter.all false
set_option maxRecDepth 100000
set_option maxHeartbeats 4000000
namespace PL
open PySem PySem.Spec PyProof.Rows L2
/-! ### data that may be compared -/
mutual
def okD : Nat → D → Bool
  | _, .non => true
  | _, .bl _ => true
  | _, .int _ => true
  | _, .str x => PyData.strOk x
  | n + 1, .tup ds => okL n ds
  | n + 1, .lst ds => okL n ds
  | _, _ => false
def okL : Nat → List D → Bool
  | _, [] => true
  | n, d :: ds => okD n d && okL n ds
end
mutual
theorem ok_p : ∀ (n : Nat) (d : D), okD n d = true → ∃ p, toP0 d = some p ∧ p.canLay0 = true ∧ p.depth ≤ n
  | _, .non, _ => ⟨.none, by unfold toP0; rfl, rfl, Nat.zero_le _⟩
  | _, .bl b, _ => ⟨.bool b, by unfold toP0; rfl, rfl, Nat.zero_le _⟩
  | _, .int i, _ => ⟨.int i, by unfold toP0; rfl, rfl, Nat.zero_le _⟩
  | _, .str x, h => ⟨.str x, by unfold toP0; rfl, by unfold okD at h; unfold PyData.canLay0; exact h, Nat.zero_le _⟩
  | n + 1, .tup ds, h => by
    unfold okD at h
    obtain ⟨ps, h1, h2, h3⟩ := ok_ps n ds h
    exact ⟨.tuple ps, by unfold toP0; rw [h1]; rfl, by unfold PyData.canLay0; exact h2, by unfold PyData.depth; omega⟩
  | n + 1, .lst ds, h => by
    unfold okD at h
    obtain ⟨ps, h1, h2, h3⟩ := ok_ps n ds h
    exact ⟨.list ps, by unfold toP0; rw [h1]; rfl, by unfold PyData.canLay0; exact h2, by unfold PyData.depth; omega⟩
  | 0, .tup ds, h => by unfold okD at h; cases h
  | 0, .lst ds, h => by unfold okD at h; cases h
  | 0, .dK _ _, h => by unfold okD at h; cases h
  | 0, .dT _ _, h => by unfold okD at h; cases h
  | 0, .ref _, h => by unfold okD at h; cases h
  | n + 1, .dK _ _, h => by unfold okD at h; cases h
  | n + 1, .dT _ _, h => by unfold okD at h; cases h
  | n + 1, .ref _, h => by unfold okD at h; cases h
theorem ok_ps : ∀ (n : Nat) (ds : List D), okL n ds = true → ∃ ps, toPs ds = some ps ∧ PyData.canLayAll0 ps = true ∧ PyData.depthAll ps ≤ n
  | n, [], _ => ⟨[], by unfold toPs; rfl, rfl, Nat.zero_le _⟩
  | n, d :: ds, h => by
    unfold okL at h
    rw [Bool.and_eq_true] at h
    obtain ⟨p, h1, h2, h3⟩ := ok_p n d h.1
    obtain ⟨ps, h4, h5, h6⟩ := ok_ps n ds h.2
    refine ⟨p :: ps, by unfold toPs; rw [h1, h4], by unfold PyData.canLayAll0; rw [h2, h5]; rfl, ?_⟩
    unfold PyData.depthAll
    omega
end
mutual
theorem eqv_self : ∀ p : PyData, p.canLay0 = true → PyData.eqv p p = true
  | .none, _ => by unfold PyData.eqv; rfl
  | .bool b, _ => by unfold PyData.eqv; simp
  | .int i, _ => by unfold PyData.eqv; simp
  | .str x, _ => by unfold PyData.eqv; simp
  | .list xs, h => by unfold PyData.eqv; unfold PyData.canLay0 at h; exact eqvA_self xs h
  | .tuple xs, h => by unfold PyData.eqv; unfold PyData.canLay0 at h; exact eqvA_self xs h
  | .dict _, h => by unfold PyData.canLay0 at h; cases h
theorem eqvA_self : ∀ ps : List PyData, PyData.canLayAll0 ps = true → PyData.eqvAll ps ps = true
  | [], _ => by unfold PyData.eqvAll; rfl
  | p :: ps, h => by
    unfold PyData.canLayAll0 at h
    rw [Bool.and_eq_true] at h
    unfold PyData.eqvAll
    rw [eqv_self p h.1, eqvA_self ps h.2]; rfl
end
theorem toP_ok {S : Store} {d : D} {n : Nat} (h : okD n d = true) : toP S d = toP0 d := by
  cases d with
  | ref m => cases n <;> (unfold okD at h; cases h)
  | _ => rfl
def isTL : D → Bool
  | .tup _ => true
  | .lst _ => true
  | _ => false
theorem eqD_tl {S : Store} {d e : D} (h : isTL d = true ∨ isTL e = true) : eqD S d e = match toP S d, toP S e with
    | some p, some q => if SeqAt.shaped p = true ∧ SeqAt.shaped q = true then some (PyData.eqv p q) else none
    | _, _ => none := by
  unfold eqD
  cases d <;> cases e <;> first | rfl | (rcases h with h | h <;> cases h)
theorem eqD_ok {S : Store} {d e : D} (hd : okD 60 d = true) (he : okD 60 e = true) (h : isTL d = true ∨ isTL e = true) : ∃ p q, toP0 d = some p ∧ toP0 e = some q ∧ p.canLay0 = true ∧ q.canLay0 = true ∧ eqD S d e = some (PyData.eqv p q) := by
  obtain ⟨p, h1, h2, h3⟩ := ok_p 60 d hd
  obtain ⟨q, h4, h5, h6⟩ := ok_p 60 e he
  refine ⟨p, q, h1, h4, h2, h5, ?_⟩
  rw [eqD_tl h, toP_ok hd, toP_ok he, h1, h4]
  simp only
  rw [if_pos]
  constructor
  · unfold SeqAt.shaped; rw [h2, decide_eq_true (by omega)]; rfl
  · unfold SeqAt.shaped; rw [h5, decide_eq_true (by omega)]; rfl
theorem eq_self {S : Store} {d : D} (h : okD 60 d = true) : eqD S d d = some true := by
  by_cases ht : isTL d = true
  · obtain ⟨p, q, h1, h2, h3, h4, e⟩ := eqD_ok (S := S) h h (.inl ht)
    rw [h1] at h2
    cases h2
    rw [e, eqv_self p h3]
  · cases d with
    | non => rfl
    | bl b => unfold eqD; simp
    | int b => unfold eqD; simp
    | str b => unfold eqD; simp
    | tup _ => exact (ht rfl).elim
    | lst _ => exact (ht rfl).elim
    | dK _ _ => unfold okD at h; cases h
    | dT _ _ => unfold okD at h; cases h
    | ref _ => unfold okD at h; cases h
/-- a list against the empty one -/
theorem eq_nil {S : Store} {ds : List D} (h : okL 59 ds = true) : eqD S (.lst ds) (.lst []) = some ds.isEmpty := by
  obtain ⟨ps, h1, h2, h3⟩ := ok_ps 59 ds h
  have hd : okD 60 (.lst ds) = true := by unfold okD; exact h
  obtain ⟨p, q, g1, g2, g3, g4, e⟩ := eqD_ok (S := S) (e := .lst []) hd (by decide) (.inl rfl)
  rw [e]
  cases ds with
  | nil =>
    unfold toP0 toPs at g1 g2
    cases g1
    cases g2
    unfold PyData.eqv PyData.eqvAll
    rfl
  | cons d ds =>
    obtain ⟨p1, k1, _, _⟩ := ok_p 59 d (by unfold okL at h; rw [Bool.and_eq_true] at h; exact h.1)
    obtain ⟨p2, k2, _, _⟩ := ok_ps 59 ds (by unfold okL at h; rw [Bool.and_eq_true] at h; exact h.2)
    unfold toP0 toPs at g1
    rw [k1, k2] at g1
    cases g1
    unfold toP0 toPs at g2
    cases g2
    unfold PyData.eqv PyData.eqvAll
    rfl
theorem okL_map {α : Type} {n : Nat} (f : α → D) : ∀ (xs : List α), (∀ x ∈ xs, okD n (f x) = true) → okL n (xs.map f) = true
  | [], _ => by rw [List.map_nil]; unfold okL; rfl
  | x :: xs, h => by
    rw [List.map_cons]
    unfold okL
    rw [h x List.mem_cons_self, okL_map f xs fun y hy => h y (List.mem_cons_of_mem _ hy)]
    rfl
theorem okL_ints {n : Nat} {xs : List Int} : okL n (xs.map D.int) = true := okL_map _ _ fun x _ => by unfold okD; rfl
theorem eq_ii {S : Store} {a b c d : Int} : eqD S (.tup [.int a, .int b]) (.tup [.int c, .int d]) = some (a == c && b == d) := by
  obtain ⟨p, q, g1, g2, g3, g4, e⟩ := eqD_ok (S := S) (d := .tup [.int a, .int b]) (e := .tup [.int c, .int d]) rfl rfl (.inl rfl)
  rw [e]
  cases g1
  cases g2
  simp [PyData.eqv, PyData.eqvAll]
theorem eq_tn {S : Store} {ds : List D} (h : okL 59 ds = true) : eqD S (.tup ds) .non = some false ∧ eqD S .non (.tup ds) = some false := by
  have hd : okD 60 (.tup ds) = true := by unfold okD; exact h
  constructor
  · obtain ⟨p, q, g1, g2, g3, g4, e⟩ := eqD_ok (S := S) (e := .non) hd rfl (.inl rfl)
    obtain ⟨ps, h1, h2, h3⟩ := ok_ps 59 ds h
    unfold toP0 at g1
    rw [h1] at g1
    cases g1
    cases g2
    rw [e]; simp [PyData.eqv]
  · obtain ⟨p, q, g1, g2, g3, g4, e⟩ := eqD_ok (S := S) (d := .non) rfl hd (.inr rfl)
    obtain ⟨ps, h1, h2, h3⟩ := ok_ps 59 ds h
    unfold toP0 at g2
    rw [h1] at g2
    cases g2
    cases g1
    rw [e]; simp [PyData.eqv]
/-! ### zip, enumerate, comprehensions: how they run -/
section
variable {σ σ1 : Sls} {S S1 : Store} {ma : MA} {ds a b : List D} {x y d : D} {tg : MG} {ca : MB} {e : M}
def zipK (st : Bool) (r : R (List D)) : R (List D) := r.bind fun ds S1 => R.of (zipD st ds) S1
theorem e_ofl : (R.of (some ds) S : R (List D)) = .ok ds S := rfl
theorem e_zip {st : Bool} : mZip st ma σ S = zipK st (ma σ S) := rfl
theorem e_zip1 {st : Bool} : zipK st (.ok ds S) = R.of (zipD st ds) S := rfl
def zipC (c : Bool) (a b : List D) : Option (List D) := if c = true then some (pairsL a b) else none
theorem zipD_eq {st : Bool} (ha : itemsD x = some a) (hb : itemsD y = some b) : zipD st [x, y] = zipC (!st || decide (a.length = b.length)) a b := by
  unfold zipD zipC
  simp only [ha, hb]
  cases st with
  | true => simp
  | false => simp
theorem zipD_tt {st : Bool} : zipD st [.tup a, .tup b] = zipC (!st || decide (a.length = b.length)) a b := zipD_eq rfl rfl
theorem zipD_ll {st : Bool} : zipD st [.lst a, .lst b] = zipC (!st || decide (a.length = b.length)) a b := zipD_eq rfl rfl
theorem zipD_lt {st : Bool} : zipD st [.lst a, .tup b] = zipC (!st || decide (a.length = b.length)) a b := zipD_eq rfl rfl
theorem zipD_tl {st : Bool} : zipD st [.tup a, .lst b] = zipC (!st || decide (a.length = b.length)) a b := zipD_eq rfl rfl
theorem zipC_1 : zipC true a b = some (pairsL a b) := rfl
theorem pairsL_c : pairsL (x :: a) (y :: b) = .tup [x, y] :: pairsL a b := rfl
theorem pairsL_0 : pairsL [] b = [] := rfl
def enK (r : R (List D)) : R (List D) := r.bind fun ds S1 => R.of (enD ds) S1
theorem e_en : mEn ma σ S = enK (ma σ S) := rfl
theorem e_en1 : enK (.ok ds S) = R.of (enD ds) S := rfl
theorem enD_l : enD [.lst a] = some (numL a 0) := rfl
theorem enD_t : enD [.tup a] = some (numL a 0) := rfl
theorem numL_range {q : Nat → D} : ∀ (n k : Nat), numL ((List.range' k n).map q) k = (List.range' k n).map fun (i : Nat) => .tup [.int (i : Int), q i]
  | 0, k => rfl
  | n + 1, k => by
    rw [List.range'_succ, List.map_cons, List.map_cons, numL, numL_range n (k + 1)]
theorem lcL_map {α : Type} (q f : α → D) (p : α → Bool) : ∀ (xs : List α), (∀ z ∈ xs, ∃ σ1, tg (q z) σ = some σ1 ∧ ca σ1 S = .ok (p z) S ∧ (p z = true → e σ1 S = .ok (f z) S)) →
    lcL tg ca e σ (xs.map q) S = .ok ((xs.filter p).map f) S
  | [], _ => rfl
  | z :: xs, h => by
    obtain ⟨σ1, h1, h2, h3⟩ := h z List.mem_cons_self
    have ih := lcL_map q f p xs fun y hy => h y (List.mem_cons_of_mem _ hy)
    rw [List.map_cons, e_ll, h1, e_ll1, h2]
    cases hp : p z with
    | true =>
      rw [List.filter_cons_of_pos hp, e_ll2, h3 hp, e_ll4, ih, e_ll5, List.map_cons]
    | false =>
      rw [List.filter_cons_of_neg (by rw [hp]; exact Bool.false_ne_true), e_ll3, ih]
/-! dicts -/
def dispK (r : R (List Key × List D)) : R D := r.bind fun p S1 => if p.1.Nodup ∧ p.1.length ≤ 15 then .ok (.dK p.1 p.2) S1 else .bad
theorem e_disp {m : MP} : mDisp m σ S = dispK (m σ S) := rfl
def mpK3 (ko : Option Key) (d : D) (r : R (List Key × List D)) : R (List Key × List D) := r.bind fun p S3 => R.of (ko.map fun k => (k :: p.1, d :: p.2)) S3
def mpK2 (k : D) (r : R D) (m : MP) (σ : Sls) : R (List Key × List D) := r.bind fun d S2 => mpK3 (keyOf k) d (m σ S2)
def mpK1 (r : R D) (mv : M) (m : MP) (σ : Sls) : R (List Key × List D) := r.bind fun k S1 => mpK2 k (mv σ S1) m σ
theorem e_mp {mk mv : M} {m : MP} : mP mk mv m σ S = mpK1 (mk σ S) mv m σ := rfl
theorem e_mp1 {mv : M} {m : MP} : mpK1 (.ok d S) mv m σ = mpK2 d (mv σ S) m σ := rfl
theorem e_mp2 {m : MP} : mpK2 x (.ok d S) m σ = mpK3 (keyOf x) d (m σ S) := rfl
theorem e_mp3 {k : Key} {p : List Key × List D} : mpK3 (some k) d (.ok p S) = .ok (k :: p.1, d :: p.2) S := rfl
theorem e_mp0 : mP0 σ S = .ok ([], []) S := rfl
theorem key_i {i : Int} : keyOf (.int i) = some (.inl i) := rfl
theorem key_s {s : Str} : keyOf (.str s) = some (.inr s) := rfl
def dispC (c : Bool) (ks : List Key) (vs : List D) (S : Store) : R D := if c = true then .ok (.dK ks vs) S else .bad
theorem e_disp1 {ks : List Key} {vs : List D} : dispK (.ok (ks, vs) S) = dispC (decide (ks.Nodup ∧ ks.length ≤ 15)) ks vs S := by
  unfold dispK dispC R.bind
  simp only [decide_eq_true_eq]
theorem e_dispC {ks : List Key} {vs : List D} : dispC true ks vs S = .ok (.dK ks vs) S := rfl
theorem idxG_d {ks : List Key} {vs : List D} : idxG S (.dK ks vs) x = (keyOf x).bind fun k => lookD ks vs k := rfl
theorem idxG_t {ks : List D} : idxG S (.tup ks) x = idxD S (.tup ks) x := rfl
theorem idxG_l {ks : List D} : idxG S (.lst ks) x = idxD S (.lst ks) x := rfl
theorem look_c {k : Key} {ks : List Key} {z : Key} : lookD (k :: ks) (d :: ds) z = if k = z then some d else lookD ks ds z := rfl
theorem look_0 {z : Key} : lookD [] ds z = none := by unfold lookD; rfl
end
end PL

set_option Elab.async false
set_option linter.all false
set_option maxRecDepth 100000
set_option maxHeartbeats 4000000
namespace PL
open PySem PySem.Spec PyProof.Rows L2
/-! ### calls with keywords -/
def perm {α : Type} (pi : List Nat) (xs : List α) : List α := pi.filterMap fun j => xs[j]?
def permA {α : Type} (m k : Nat) (pi : List Nat) (us : List α) (ws : List α) : List α := if us.length = m ∧ ws.length = k then perm pi (us ++ ws) else []
theorem vals_app : ∀ {xs ys : List V} {us ws : List Value}, Vals xs us → Vals ys ws → Vals (xs ++ ys) (us ++ ws)
  | _, _, _, _, .nil, r => r
  | _, _, _, _, .cons h t, r => .cons h (vals_app t r)
theorem vals_perm {xs : List V} {us : List Value} (r : Vals xs us) : ∀ pi : List Nat, Vals (perm pi xs) (perm pi us)
  | [] => .nil
  | j :: pi => by
    have ih := vals_perm r pi
    unfold perm at ih ⊢
    cases e : xs[j]? with
    | none =>
      have e2 : us[j]? = none := by
        rw [List.getElem?_eq_none_iff] at e ⊢
        rw [← r.length]; exact e
      rw [List.filterMap_cons_none e, List.filterMap_cons_none e2]
      exact ih
    | some x =>
      obtain ⟨u, e2, h⟩ := r.get e
      rw [List.filterMap_cons_some e, List.filterMap_cons_some e2]
      exact .cons h ih
theorem reps_perm {K : PySem.W.Frag} {F : Hp} {ρ : List Addr} {ds : List D} {vs : List V} (r : Reps K F ρ ds vs) : ∀ pi : List Nat, Reps K F ρ (perm pi ds) (perm pi vs)
  | [] => .nil
  | j :: pi => by
    have ih := reps_perm r pi
    unfold perm at ih ⊢
    cases e : ds[j]? with
    | none =>
      have e2 : vs[j]? = none := by
        rw [List.getElem?_eq_none_iff] at e ⊢
        rw [r.length]; exact e
      rw [List.filterMap_cons_none e, List.filterMap_cons_none e2]
      exact ih
    | some x =>
      obtain ⟨u, e2, h⟩ := r.get e
      rw [List.filterMap_cons_some e, List.filterMap_cons_some e2]
      exact .cons h ih
/-- a def called with m positional values and the keywords ks -/
structure FnK (P : Program) (w : World) (K : PySem.W.Frag) (mg : Str → Option Value) (base : Heap) (CX : CXT) (x : Str) (k np m : Nat) (ks : List Str) (pi : List Nat) (fn : Fn) : Prop where
  ex : ∃ (f : Addr) (fd : FuncData) (ps : List Str), ps.length = np ∧ FnG P w K mg base CX k f fd ps (spOf K mg ps.length fn) ∧ mg x = some (.ref f) ∧ PySem.W.keepIn K (.ref f) = true ∧ KBinds K fd ps ks (permA m ks.length pi) (permA m ks.length pi)
theorem FnK.mono {P : Program} {w : World} {K : PySem.W.Frag} {mg : Str → Option Value} {base : Heap} {CX : CXT} {x : Str} {j k np m : Nat} {ks : List Str} {pi : List Nat} {fn : Fn} (h : FnK P w K mg base CX x j np m ks pi fn) (hjk : j ≤ k) : FnK P w K mg base CX x k np m ks pi fn := by
  obtain ⟨f, fd, ps, h0, h1, h2, h3, h4⟩ := h.ex
  exact ⟨f, fd, ps, h0, h1.mono hjk, h2, h3, h4⟩
theorem kbinds_mk {K : PySem.W.Frag} {fd : FuncData} {ps ks : List Str} {m : Nat} {pi : List Nat} (hp : ps ≠ []) (hb : ∀ us ws : List Value, us.length = m → ws.length = ks.length → bindArgs fd ⟨us, ks.zip ws⟩ = pure (ps.zip (perm pi (us ++ ws)))) : KBinds K fd ps ks (permA m ks.length pi) (permA m ks.length pi) := by
  refine ⟨fun s us ws _ hl => ?_, fun {vs us zs ws} r r2 => ?_⟩
  · unfold permA at hl ⊢
    split at hl
    · rename_i h
      rw [if_pos h]
      exact .of_eq (hb us ws h.1 h.2)
    · exact (hp (List.eq_nil_of_length_eq_zero hl.symm)).elim
  · unfold permA
    rw [r.length, r2.length]
    split
    · exact vals_perm (vals_app r r2) pi
    · exact .nil
def mCallK (fn : Fn) (m k : Nat) (pi : List Nat) (a b : MA) : M := fun σ S => (a σ S).bind fun ds S1 => (b σ S1).bind fun es S2 => fn (permA m k pi ds es) S2
/-- the keywords' values -/
abbrev DK (X : Cx) (n : En) (W : WS) (m : MA) (kws : List Keyword) : Prop := PK X kws (tMA X.K X.mg n W m)
section
variable {X : Cx} {n : En} {W : WS} {pos : Pos}
theorem PK.weak {kws : List Keyword} {t t' : TA} (h : PK X kws t) (k : ∀ σ H Q, t' σ H Q → t σ H Q) : PK X kws t' := ⟨fun pos pins s σ H Q I q => h.run pos pins s σ H Q I (k σ H Q q)⟩
theorem dk_nil : DK X n W mNil [] := by
  refine PK.weak pk_nil fun σ H Q q => ?_
  obtain ⟨F, ρ, σd, S, rs, o⟩ := q
  exact o [] H F ρ (.refl _ _ _) rs.w .nil
theorem dk_cons {ma : M} {mr : MA} {e : Expr} {kws : List Keyword} {nm : Option Str} {kp : Pos} (ha : DE X n W ma e) (hr : DK X n W mr kws) : DK X n W (mCons ma mr) (⟨nm, e, kp⟩ :: kws) := by
  refine PK.weak (pk_cons ha hr) fun σ H Q q => ?_
  obtain ⟨F, ρ, σd, S, rs, o⟩ := q
  refine ⟨F, ρ, σd, S, rs, Out.bind o fun d S1 o1 v H1 F1 ρ1 x1 w1 r1 => ⟨F1, ρ1, σd, S1, rs.next x1 w1, Out.bind o1 fun ds S2 o2 vs H2 F2 ρ2 x2 w2 r2 => ?_⟩⟩
  exact o2 (v :: vs) H2 F2 ρ2 (x1.trans x2) w2 (.cons (x2.rep r1) r2)
theorem permA_len {m k : Nat} {pi : List Nat} {ds es : List D} {vs us : List V} (h1 : vs.length = ds.length) (h2 : us.length = es.length) : (permA m k pi vs us).length = (permA m k pi ds es).length := by
  unfold permA
  rw [h1, h2]
  split
  · unfold perm
    have hl : (vs ++ us).length = (ds ++ es).length := by simp [h1, h2]
    induction pi with
    | nil => rfl
    | cons j pi ih =>
      cases e : (vs ++ us)[j]? with
      | none =>
        have e2 : (ds ++ es)[j]? = none := by
          rw [List.getElem?_eq_none_iff] at e ⊢
          rw [← hl]; exact e
        rw [List.filterMap_cons_none e, List.filterMap_cons_none e2]
        exact ih
      | some x =>
        have hj := (List.getElem?_eq_some_iff.mp e).1
        rw [hl] at hj
        rw [List.filterMap_cons_some e, List.filterMap_cons_some (List.getElem?_eq_getElem hj), List.length_cons, List.length_cons, ih]
  · rfl
theorem callK_go {np m : Nat} {ks : List Str} {pi : List Nat} {fn : Fn} {ma mk : MA} {ps : List Str} {σ : L2.St} {H : Hp} {Q : VK} (h0 : ps.length = np) (hlen : ∀ ds es S σ S1 S2, ma σ S = .ok ds S1 → mk σ S1 = .ok es S2 → (permA m ks.length pi ds es).length = np)
    (q : tM X.K X.mg n WN (mCallK fn m ks.length pi ma mk) σ H Q) : tCallK (spOf X.K X.mg ps.length fn) (permA m ks.length pi) E0 (tMA X.K X.mg n WN ma) (tMA X.K X.mg n WN mk) σ H Q := by
  obtain ⟨F, ρ, σd, S, rs, o⟩ := q
  refine ⟨F, ρ, σd, S, rs, Out.ok_ o fun ds S1 e o1 vs H1 F1 ρ1 x1 w1 r1 => ⟨F1, ρ1, σd, S1, rs.next x1 w1, Out.ok_ o1 fun es S2 e2 o2 us H2 F2 ρ2 x2 w2 r2 => ?_⟩⟩
  have hr := x2.reps r1
  refine ⟨by rw [permA_len hr.length r2.length, hlen _ _ _ _ _ _ e e2, h0], F2, ρ2, S2, permA m ks.length pi ds es, w2, ?_, call_out (x1.trans x2) o2 fun c d S' hw => hw.elim⟩
  unfold permA
  rw [hr.length, r2.length]
  split
  · exact reps_perm (hr.append r2) pi
  · exact .nil
theorem de_callK {x : Str} {k np m : Nat} {ks : List Str} {pi : List Nat} {fn : Fn} {ma mk : MA} {e : Expr} {es : List Expr} {p : Pos} {kws : List Keyword} [l : Len ma m] [l2 : Len mk kk] (F : FnK X.prog X.w X.K X.mg X.base CX0 x k np m ks pi fn) (hr : RoomG k X.A) (hg : Gl X x) (ha : DA X n WN ma (e :: es)) (hk : DK X n WN mk kws)
    (hkk : kk = ks.length := by rfl) (hn : ∀ ds es : List D, ds.length = m → es.length = ks.length → (perm pi (ds ++ es)).length = np := by intro ds es h1 h2; match ds, es, h1, h2 with | _, _, _, _ => first | rfl | simp_all [perm])
    (hall : (backToKw pos (keywordEach kws X.env)).all (·.1.isSome) = true := by rfl) (hks : (backToKw pos (keywordEach kws X.env)).filterMap (·.1) = ks := by rfl)
    (hdb : (x == ("__debug__" : Str)) = false := by decide) (he : starEach (e :: es) X.env = (false, eval e X.env) :: starEach es X.env := by rfl)
    (hpl : ((backTo pos (starEach (e :: es) X.env)).any (·.1) || (backToKw pos (keywordEach kws X.env)).any (·.1.isNone)) = false := by rfl) :
    DE X n WN (mCallK fn m kk pi ma mk) (.Call (.Name x p) (e :: es) kws pos) := by
  subst hkk
  obtain ⟨f, fd, ps, h0, h1, h2, h3, h4⟩ := F.ex
  refine PE.weak (peG_callK h1 hr hg h2 h3 h4 pass0 ha hk hall hks hdb he hpl) fun σ H Q q => callK_go h0 (fun ds es S σ S1 S2 e1 e2 => ?_) q
  have a1 := l.len _ _ _ _ e1
  have a2 := l2.len _ _ _ _ e2
  unfold permA
  rw [if_pos ⟨a1, a2⟩]
  exact hn ds es a1 a2
theorem de_callK0 {x : Str} {k np : Nat} {ks : List Str} {pi : List Nat} {fn : Fn} {mk : MA} {p : Pos} {kws : List Keyword} [l2 : Len mk kk] (F : FnK X.prog X.w X.K X.mg X.base CX0 x k np 0 ks pi fn) (hr : RoomG k X.A) (hg : Gl X x) (hk : DK X n WN mk kws)
    (hkk : kk = ks.length := by rfl) (hn : ∀ ds es : List D, ds.length = 0 → es.length = ks.length → (perm pi (ds ++ es)).length = np := by intro ds es h1 h2; match ds, es, h1, h2 with | _, _, _, _ => first | rfl | simp_all [perm])
    (hall : (backToKw pos (keywordEach kws X.env)).all (·.1.isSome) = true := by rfl) (hks : (backToKw pos (keywordEach kws X.env)).filterMap (·.1) = ks := by rfl)
    (hdb : (x == ("__debug__" : Str)) = false := by decide) (hpl : ((backTo pos (starEach [] X.env)).any (·.1) || (backToKw pos (keywordEach kws X.env)).any (·.1.isNone)) = false := by rfl) :
    DE X n WN (mCallK fn 0 kk pi mNil mk) (.Call (.Name x p) [] kws pos) := by
  subst hkk
  obtain ⟨f, fd, ps, h0, h1, h2, h3, h4⟩ := F.ex
  refine PE.weak (peG_callK0 h1 hr hg h2 h3 h4 pass0 hk hall hks hdb hpl) fun σ H Q q => ?_
  have go := callK_go h0 (fun ds es S σ S1 S2 e1 e2 => by
    have a2 := l2.len _ _ _ _ e2
    cases e1
    unfold permA
    rw [if_pos ⟨rfl, a2⟩]
    exact hn [] es rfl a2) q
  obtain ⟨F, ρ, σd, S, rs, o⟩ := go
  exact o [] H F ρ (.refl _ _ _) rs.w .nil
end
def permC (c : Bool) (pi : List Nat) (ds es : List D) : List D := if c = true then perm pi (ds ++ es) else []
def cK2 (fn : Fn) (m k : Nat) (pi : List Nat) (ds : List D) (r : R (List D)) : R D := r.bind fun es S2 => fn (permA m k pi ds es) S2
def cK1 (fn : Fn) (m k : Nat) (pi : List Nat) (r : R (List D)) (b : MA) (σ : Sls) : R D := r.bind fun ds S1 => cK2 fn m k pi ds (b σ S1)
section
variable {σ : Sls} {S : Store} {fn : Fn} {m k j : Nat} {pi : List Nat} {a b : MA} {ds es xs : List D} {x : D}
theorem e_ck : mCallK fn m k pi a b σ S = cK1 fn m k pi (a σ S) b σ := rfl
theorem e_ck1 : cK1 fn m k pi (.ok ds S) b σ = cK2 fn m k pi ds (b σ S) := rfl
theorem e_ck2 : cK2 fn m k pi ds (.ok es S) = fn (permA m k pi ds es) S := rfl
theorem permA_eq : permA m k pi ds es = permC (decide (ds.length = m) && decide (es.length = k)) pi ds es := by
  unfold permA permC
  simp only [Bool.and_eq_true, decide_eq_true_eq]
theorem permC_1 : permC true pi ds es = perm pi (ds ++ es) := rfl
theorem perm_0 : perm [] xs = [] := rfl
theorem perm_c : perm (j :: pi) xs = (xs[j]?).toList ++ perm pi xs := by
  unfold perm
  cases e : xs[j]? with
  | none => rw [List.filterMap_cons_none e]; rfl
  | some y => rw [List.filterMap_cons_some e]; rfl
end

section
variable {P : Program} {w : World} {K : PySem.W.Frag} {mg : Str → Option Value} {base : Heap}
theorem fn_oo {x qual : Str} {st : Stmt} {f : Addr} {fd : FuncData} {N ps : List Str} {k : Nat} {body : MS} (F : Fun K x qual st f fd) (S : FnScope N ps (defScope st))
    (hbody : ∀ (cdv : Value) (A : Around) (outer : List Env) (s : Shared) (H : Hp) (E : XK) (n : En), RoomG k (A.deeper (envOfC qual (defScope st) s.heap.objs.size f cdv)) →
      DSs (cxOf CX0 P w K mg base N qual (defScope st) f cdv A outer s H E).nox n WN body (defBody st)) :
    FnG P w K mg base CX0 (k + 1) f fd ps (spOf K mg ps.length (runFn0 N.length body)) := by
  refine fnG_of F S (fun vs H Q E h => h.1) (fun cdv A outer s H vs Q E hr h => ?_)
  obtain ⟨hl, F0, ρ, S0, ds, w0, r, o⟩ := h
  exact ⟨_, hbody cdv A outer s H E ⟨H, F0, ρ⟩ hr, F0, ρ, _, S0, rs_start w0 r, fn_out0 o⟩
theorem fn_dd {x qual : Str} {st : Stmt} {f : Addr} {fd : FuncData} {ps : List Str} {k np : Nat} {fn : Fn} (F : Fun K x qual st f fd) (hp : ps.length = np) (hmg : mg x = some (.ref f))
    (hb : ∀ (kV doc pm : Value) (an : Option Addr) (cdv ct : Value) (us : List Value), us.length = ps.length → bindArgs (PySem.W.fnOf x qual (defArgs st) (defBody st) (defScope st) .none kV doc pm an cdv ct) ⟨us, []⟩ = pure (ps.zip us))
    (o : FnG P w K mg base CX0 k f fd ps (spOf K mg ps.length fn)) : FnD P w K mg base CX0 x k np fn := ⟨f, fd, ps, hp, o, hmg, F.kp, F.binds hb⟩
theorem fn_kk {x qual : Str} {st : Stmt} {f : Addr} {fd : FuncData} {ps ks : List Str} {k np m : Nat} {pi : List Nat} {fn : Fn} (F : Fun K x qual st f fd) (hp : ps.length = np) (hps : ps ≠ []) (hmg : mg x = some (.ref f))
    (hb : ∀ (kV doc pm : Value) (an : Option Addr) (cdv ct : Value) (us ws : List Value), us.length = m → ws.length = ks.length → bindArgs (PySem.W.fnOf x qual (defArgs st) (defBody st) (defScope st) .none kV doc pm an cdv ct) ⟨us, ks.zip ws⟩ = pure (ps.zip (perm pi (us ++ ws))))
    (o : FnG P w K mg base CX0 k f fd ps (spOf K mg ps.length fn)) : FnK P w K mg base CX0 x k np m ks pi fn := by
  refine ⟨f, fd, ps, hp, o, hmg, F.kp, ?_⟩
  obtain ⟨oc, od, kV, doc, pm, an, cdv, ct, osl, rfl, lk, hcd⟩ := F.ex
  exact kbinds_mk hps (hb kV doc pm an cdv ct)
end
end PL

set_option Elab.async false
set_option linter.all false
set_option maxRecDepth 100000
set_option maxHeartbeats 4000000
namespace PL
open PySem PySem.Spec PyProof.Rows L2
/-! ### lists of the store: append, loops -/
def lstAt (S : Store) : D → Bool
  | .ref m => match S[m]? with
    | some (.lst _) => true
    | _ => false
  | _ => false
def appS (S : Store) (x d : D) : Option Store := match x with
  | .ref m => match S[m]? with
    | some (.lst ds) => if ds.length < sizeLine then some (S.set m (.lst (ds ++ [d]))) else none
    | _ => none
  | _ => none
def mAppR (o e : M) : MS := fun σ S => Fl.of (o σ S) σ fun x S1 => if lstAt S1 x = true then Fl.of (e σ S1) σ fun d S2 => match appS S2 x d with
  | some S3 => .nx σ S3
  | none => .bad
  else .bad
section
variable {X : Cx} {n : En} {W : WS} {pos : Pos}
theorem st_appR {o e : Expr} {mo me : M} {p2 p3 : Pos} (ho : DE X n W mo o) (he : DE X n W me e)
    (hb : attributeBase o "append" X.env (eval o X.env) = eval o X.env := by rfl) (hline : (p2.endLine == p3.line) = true := by rfl)
    (hs : starEach [e] X.env = (false, eval e X.env) :: starEach [] X.env := by rfl) (hpl : (backTo p3 (starEach [] X.env)).any (·.1) = false := by rfl)
    (hfew : ((backTo p3 (starEach [e] X.env)).all (fun x => !x.1) && (backToKw p3 (keywordEach [] X.env)).all (fun x => x.1.isSome)
      && decide (([e] : List Expr).length + ([] : List Keyword).length + (if ([] : List Keyword).isEmpty then 0 else 1) < 30)) = true := by rfl)
    (hsw : swapsWith (.Call (.Attribute o "append" p2) [e] [] p3) none pos.line X.env = pure false := by rfl) :
    DS X n W (mAppR mo me) (.Expr (.Call (.Attribute o "append" p2) [e] [] p3) pos) := by
  refine PS.weak (ps_expr (pe_bm PySem.F.plainAttrs_list PySem.F.slot_list_append PySem.F.type_list_append mt_append ho (pa_cons he pa_nil hs) hb hfew hline hs hpl) hsw) fun E σ H q => ?_
  obtain ⟨F, ρ, σd, S, rs, o⟩ := q
  refine ⟨F, ρ, σd, S, rs, (outs_of o).imp fun x S1 o1 vx H1 F1 ρ1 x1 w1 r1 => ?_⟩
  split at o1
  · rename_i hl
    unfold lstAt at hl
    split at hl
    · rename_i m
      split at hl
      · rename_i ds0 hc0
        obtain ⟨b, rfl, hb⟩ := rep_ref r1
        obtain ⟨vs0, k1, k2, k3⟩ := w1.cell m b _ hb hc0
        refine ⟨.inl ⟨rfl, _, .inl (.inl k1)⟩, F1, ρ1, σd, S1, rs.next x1 w1, (outs_of o1).imp fun d S2 o2 v H2 F2 ρ2 x2 w2 r2 => ?_⟩
        split at o2
        · rename_i S3 e3
          unfold appS at e3
          simp only at e3
          split at e3
          · rename_i ds hc
            split at e3
            · rename_i hl2
              cases e3
              obtain ⟨b', eb, hb2⟩ := rep_ref (x2.rep r1)
              cases eb
              obtain ⟨vs, h4, h5, h6⟩ := w2.cell m b _ hb2 hc
              have rs2 := (rs.next x1 w1).next x2 w2
              exact ⟨b, vs, v, rfl, rfl, h4, by rw [h5.length]; exact hl2, o2 _ _ F2 ρ2 (x1.mon.trans x2.mon) (rs2.next (ext_mut (List.mem_of_getElem? hb2) (by rw [h4]; exact fun z => nomatch z)) (w2.mut hb2 ⟨vs ++ [v], upd_same, h5.append (.one r2), by rw [List.length_append]; exact hl2⟩))⟩
            · cases e3
          · cases e3
        · exact o2.elim
      · cases hl
    · cases hl
  · exact o1.elim
/-! a loop over a list of the store, whose length stays -/
def forR (g : MG) (b : MS) (m N : Nat) : Nat → Sls → Store → Fl
  | 0, σ, S => match S[m]? with
    | some (.lst ds) => if ds.length = N then .nx σ S else .bad
    | _ => .bad
  | k + 1, σ, S => match S[m]? with
    | some (.lst ds) => if ds.length = N then match ds[N - (k + 1)]? with
      | some d => match g d σ with
        | none => .bad
        | some σ1 => match b σ1 S with
          | .nx σ2 S2 => forR g b m N k σ2 S2
          | .ct σ2 S2 => forR g b m N k σ2 S2
          | .bk σ2 S2 => .nx σ2 S2
          | .ret d S2 => .ret d S2
          | .exc c d σ2 S2 => .exc c d σ2 S2
          | .bad => .bad
      | none => .bad
      else .bad
    | _ => .bad
def forG (g : MG) (b : MS) (σ : Sls) (S : Store) : D → Fl
  | .lst ds => forL g b ds σ S
  | .tup ds => forL g b ds σ S
  | .ref m => match S[m]? with
    | some (.lst ds) => forR g b m ds.length ds.length σ S
    | _ => .bad
  | _ => .bad
def mForG (it : M) (g : MG) (b : MS) : MS := fun σ S => Fl.of (it σ S) σ fun d S1 => forG g b σ S1 d
theorem st_forG {is : List Nat} {tg iter : Expr} {body : List Stmt} {mi : M} {g : MG} {b : MS} (hp : PassesOwn (model X.prog X.w) X.A X.env X.xe) (hc : X.calm = true) (hi : DE X n W mi iter) (hg : DG X n is g tg) (hb : DSs X n W b body)
    (hs : ∀ x, foldedSetIterable iter X.env x = pure x := by intro _; rfl) : DS X n W (mForG mi g b) (.For tg iter body [] pos) := by
  refine ⟨fun pins s σ H E I q => ?_⟩
  obtain ⟨F, ρ, σd, S, rs, o⟩ := q
  by_cases hr : ∃ m S1, mi σd S = .ok (.ref m) S1
  · obtain ⟨m, S1, e⟩ := hr
    refine (ps_for hp hc (pi_sq hi) hg hb hs).run pins s σ H E I ⟨F, ρ, σd, S, rs, ?_⟩
    unfold mForG at o
    rw [e] at o ⊢
    simp only [Fl.of, forG] at o
    intro v H1 F1 ρ1 x1 w1 r1
    split at o
    · rename_i ds hcell
      obtain ⟨a, rfl, ha⟩ := rep_ref r1
      obtain ⟨vs1, k1, k2, k3⟩ := w1.cell m a _ ha hcell
      refine ⟨a, rfl, .inl ⟨⟨vs1, .inl (.inl k1)⟩, ?_⟩⟩
      refine ⟨fun i k σ H => ∃ F' ρ' σd' S', k + i = ds.length ∧ ρ'[m]? = some a ∧ Mon F1 ρ1 F' ρ' ∧ RS X.K X.mg n F' H ρ' σd' S' σ ∧ OutS X.K X.mg n W F' ρ' (forR g b m ds.length k σd' S') E,
        ⟨ds.length, F1, ρ1, σd, S1, rfl, ha, .refl _ _, rs.next x1 w1, o.mon x1.mon⟩, ?_⟩
      rintro i k σ2 H2 ⟨F2, ρ2, σd2, S2, hm, ha2, y, rs2, o2⟩
      cases k with
      | succ k =>
        unfold forR at o2
        split at o2
        · rename_i ds2 hc2
          split at o2
          · rename_i hl2
            rw [show ds.length - (k + 1) = i by omega] at o2
            split at o2
            · rename_i d hd
              obtain ⟨vs2, j1, j2, j3⟩ := rs2.w.cell m a _ ha2 hc2
              obtain ⟨vd, jd, rd⟩ := j2.get hd
              have sq : SqL X.K H2 a vs2 := .inl (.inl j1)
              refine .inr ⟨⟨vs2, vd, sq, jd⟩, _, fun _ _ z => z, fun x H3 hy => ?_⟩
              obtain ⟨rfl, hy⟩ := hy
              have := hy vs2 sq
              rw [jd] at this
              cases this
              cases eg : g d σd2 with
              | none =>
                rw [eg] at o2
                exact o2.elim
              | some σ3 =>
                rw [eg] at o2
                refine ⟨F2, ρ2, σd2, S2, d, σ3, rs2, rd, eg, fun σ4 rs4 _ => ⟨F2, ρ2, σ3, S2, rs4, ?_⟩⟩
                have go : ∀ {σd5 S5}, OutS X.K X.mg n W F2 ρ2 (forR g b m ds.length k σd5 S5) E → ∀ σ H F ρ, Mon F2 ρ2 F ρ → RS X.K X.mg n F H ρ σd5 S5 σ →
                    ∃ m', m' < k + 1 ∧ ∃ F' ρ' σd' S', m' + (i + 1) = ds.length ∧ ρ'[m]? = some a ∧ Mon F1 ρ1 F' ρ' ∧ RS X.K X.mg n F' H ρ' σd' S' σ ∧ OutS X.K X.mg n W F' ρ' (forR g b m ds.length m' σd' S') E := fun o5 σ H F ρ y5 rs5 => by
                  refine ⟨k, by omega, F, ρ, _, _, by omega, ?_, y.trans y5, rs5, o5.mon y5⟩
                  obtain ⟨r, er⟩ := y5.pre
                  rw [er, List.getElem?_append_left (List.getElem?_eq_some_iff.mp ha2).1]
                  exact ha2
                cases eb : b σ3 S2 with
                | nx σ5 S5 =>
                  simp only [eb] at o2
                  exact go o2
                | ct σ5 S5 =>
                  simp only [eb] at o2
                  exact go o2
                | bk σ5 S5 =>
                  simp only [eb] at o2
                  exact fun σ H F ρ y5 rs5 => o2 σ H F ρ y5 rs5
                | ret d S5 =>
                  simp only [eb] at o2
                  exact o2
                | exc c d σ5 S5 =>
                  simp only [eb] at o2
                  exact o2
                | bad =>
                  simp only [eb] at o2
                  exact o2
            · exact o2.elim
          · exact o2.elim
        · exact o2.elim
      | zero =>
        unfold forR at o2
        split at o2
        · rename_i ds2 hc2
          split at o2
          · rename_i hl2
            obtain ⟨vs2, j1, j2, j3⟩ := rs2.w.cell m a _ ha2 hc2
            exact .inl ⟨⟨vs2, .inl (.inl j1), by rw [j2.length]; omega⟩, o2 σ2 H2 F2 ρ2 (.refl _ _) rs2⟩
          · exact o2.elim
        · exact o2.elim
    · exact o.elim
  · refine (st_for hp hc (di_seq hi) hg hb hs).run pins s σ H E I ⟨F, ρ, σd, S, rs, ?_⟩
    have : mForG mi g b σd S = mFor (mIt mi) g b σd S ∨ mForG mi g b σd S = .bad := by
      unfold mForG mFor mIt
      cases e : mi σd S with
      | ok d S1 =>
        cases d with
        | lst ds => exact .inl rfl
        | tup ds => exact .inl rfl
        | ref m => exact (hr ⟨m, S1, e⟩).elim
        | _ => exact .inr rfl
      | exc c d S1 => exact .inl rfl
      | bad => exact .inr rfl
    rcases this with h | h
    · rw [← h]; exact o
    · rw [h] at o; exact o.elim
end
end PL

set_option Elab.async false
set_option linter.all false
set_option maxRecDepth 100000
set_option maxHeartbeats 4000000
namespace PL
open PySem PySem.Spec PyProof.Rows L2
/-! ### a comprehension over a list of the store -/
def lcR (g : MG) (c : MB) (e : M) (σ : Sls) (m N : Nat) : Nat → Store → R (List D)
  | 0, S => match S[m]? with
    | some (.lst ds) => if ds.length = N then .ok [] S else .bad
    | _ => .bad
  | k + 1, S => match S[m]? with
    | some (.lst ds) => if ds.length = N then match ds[N - (k + 1)]? with
      | some d => match g d σ with
        | none => .bad
        | some σ1 => match c σ1 S with
          | .ok true S1 => match e σ1 S1 with
            | .ok y S2 => match lcR g c e σ m N k S2 with
              | .ok ys S3 => .ok (y :: ys) S3
              | _ => .bad
            | _ => .bad
          | .ok false S1 => lcR g c e σ m N k S1
          | _ => .bad
      | none => .bad
      else .bad
    | _ => .bad
def lcG (g : MG) (c : MB) (e : M) (σ : Sls) (S : Store) : D → R (List D)
  | .lst ds => lcL g c e σ ds S
  | .tup ds => lcL g c e σ ds S
  | .ref m => match S[m]? with
    | some (.lst ds) => lcR g c e σ m ds.length ds.length S
    | _ => .bad
  | _ => .bad
def mLcG (it : M) (own : List Nat) (g : MG) (c : MB) (e : M) : M := fun σ S => (it σ S).bind fun d S1 => match lcG g c e (wipeS σ own) S1 d with
  | .ok ys S2 => .ok (.lst ys) S2
  | _ => .bad
section
variable {X : Cx} {n : En} {W : WS} {pos : Pos}
theorem lcR_ok {K : PySem.W.Frag} {mg : Str → Option Value} {n : En} {mi : M} {g : MG} {c : MB} {e : M} {own is : List Nat} {σ : L2.St} {H : Hp} {Q : VK} (his : ∀ i ∈ is, i ∈ own)
    {F : Hp} {ρ : List Addr} {σd : Sls} {S S1 : Store} {cm : Nat} (rs : RS K mg n F H ρ σd S σ) (ei : mi σd S = .ok (.ref cm) S1) (o : Out (mLcG mi own g c e σd S) (fun d S' => Post K mg ρ F H S' d Q) (fun c d S' => WN c d σd S')) :
    tLc (iSq K (tM K mg n WN mi)) (tMG K mg n is g) (tMB K mg n WN c) (tM K mg n WN e) own σ H Q := by
  unfold mLcG at o
  rw [ei] at o
  simp only [R.bind, lcG] at o
  refine ⟨F, ρ, σd, S, rs, ?_⟩
  rw [ei]
  intro v H1 F1 ρ1 x1 w1 rv
  by_cases hex : ∃ ds, S1[cm]? = some (.lst ds)
  · obtain ⟨ds, hcell⟩ := hex
    rw [hcell] at o
    simp only at o
    obtain ⟨a, rfl, ha⟩ := rep_ref rv
    obtain ⟨vs1, k1, k2, k3⟩ := w1.cell cm a _ ha hcell
    refine ⟨a, rfl, .inl ⟨⟨vs1, .inl (.inl k1)⟩, fun dl hD => ?_⟩⟩
    have rs1 := rs.next x1 w1
    have hF1 : F1 dl = none := w1.fnone hD
    have hρ1 : dl ∉ ρ1 := fun z => w1.there z hD
    have fin : ∀ {r : R (List D)} {acc0 : List D}, Out (match r with
        | .ok ys S2 => R.ok (D.lst (acc0 ++ ys)) S2
        | _ => .bad) (fun d S' => Post K mg ρ F H S' d Q) (fun c d S' => WN c d σd S') → Out r (fun ys S' => Post K mg ρ F H S' (.lst (acc0 ++ ys)) Q) (fun _ _ _ => False) := fun {r acc0} h => by
      cases r with
      | ok ys S2 => exact h
      | exc _ _ _ => exact h
      | bad => exact h
    refine ⟨fun i m Hc => m + i = ds.length ∧ ∃ F' ρ' S' acc accD, Ext ρ1 F1 H1 ρ' F' Hc ∧ W0 K mg F' Hc ρ' S' ∧ Hc dl = some (.lst acc) ∧ F' dl = none ∧ dl ∉ ρ' ∧ Reps K F' ρ' accD acc ∧ accD.length ≤ i ∧
      Out (lcR g c e (wipeS σd own) cm ds.length m S') (fun ys S'' => Post K mg ρ F H S'' (.lst (accD ++ ys)) Q) (fun _ _ _ => False),
      ⟨ds.length, rfl, F1, ρ1, S1, [], [], (Ext.refl _ _ _).updD hD, w1.off_upd hF1 hρ1, upd_same, hF1, hρ1, .nil, Nat.le_refl _, fin (acc0 := []) o⟩, ?_⟩
    rintro i m Hc ⟨hm, F2, ρ2, S2, acc, accD, x2, w2, hD2, hF2, hρ2, r2, hl2, o2⟩
    have rs2 := rs1.next x2 w2
    have ha2 : ρ2[cm]? = some a := by
      obtain ⟨r, er⟩ := x2.mon.pre
      rw [er, List.getElem?_append_left (List.getElem?_eq_some_iff.mp ha).1]
      exact ha
    cases m with
    | succ m =>
      unfold lcR at o2
      split at o2
      · rename_i ds2 hc2
        split at o2
        · rename_i hlen
          rw [show ds.length - (m + 1) = i by omega] at o2
          split at o2
          · rename_i d hd
            obtain ⟨vs2, j1, j2, j3⟩ := w2.cell cm a _ ha2 hc2
            obtain ⟨vd, jd, rd⟩ := j2.get hd
            have sq : SqL K Hc a vs2 := .inl (.inl j1)
            refine .inr ⟨⟨vs2, vd, sq, jd⟩, _, fun _ z => z, fun x H3 hy => ?_⟩
            obtain ⟨rfl, hy⟩ := hy
            have := hy vs2 sq
            rw [jd] at this
            cases this
            cases eg : g d (wipeS σd own) with
            | none =>
              rw [eg] at o2
              exact o2.elim
            | some σ3 =>
              simp only [eg] at o2
              refine ⟨F2, ρ2, wipeS σd own, S2, d, σ3, rs2.wipe own, rd, eg, fun σ4 rs4 off4 => ⟨wipe_eq off4 his, F2, ρ2, σ3, S2, rs4, ?_⟩⟩
              cases ec : c σ3 S2 with
              | exc _ _ _ => rw [ec] at o2; exact o2.elim
              | bad => rw [ec] at o2; exact o2.elim
              | ok t S5 =>
                rw [ec] at o2
                intro H5 F5 ρ5 x5 w5
                obtain ⟨hD5, hF5, hρ5⟩ := x5.off hD2 hF2 hρ2
                have x25 : Ext ρ1 F1 H1 ρ5 F5 H5 := x2.trans x5
                have rs5 := rs4.next x5 w5
                cases t with
                | false =>
                  exact ⟨m, by omega, by omega, F5, ρ5, S5, acc, accD, x25, w5, hD5, hF5, hρ5, x5.reps r2, by omega, o2⟩
                | true =>
                  refine ⟨F5, ρ5, σ3, S5, rs5, ?_⟩
                  cases ee : e σ3 S5 with
                  | exc _ _ _ => simp only [ee] at o2; exact o2.elim
                  | bad => simp only [ee] at o2; exact o2.elim
                  | ok y S6 =>
                    simp only [ee] at o2
                    intro v H6 F6 ρ6 x6 w6 r6
                    obtain ⟨hD6, hF6, hρ6⟩ := x6.off hD5 hF5 hρ5
                    have racc : Reps K F6 ρ6 (accD ++ [y]) (acc ++ [v]) := ((x5.trans x6).reps r2).append (.one r6)
                    have hsz : acc.length < sizeLine := by
                      rw [r2.length]
                      omega
                    refine ⟨acc, hD6, hsz, m, by omega, by omega, F6, ρ6, S6, acc ++ [v], accD ++ [y], (x25.trans x6).updD hD, w6.off_upd hF6 hρ6, upd_same, hF6, hρ6, racc, by rw [List.length_append, List.length_singleton]; omega, ?_⟩
                    cases el : lcR g c e (wipeS σd own) cm ds.length m S6 with
                    | exc _ _ _ => simp only [el] at o2; exact o2.elim
                    | bad => simp only [el] at o2; exact o2.elim
                    | ok ys S7 =>
                      simp only [el] at o2
                      show Post K mg ρ F H S7 (.lst (accD ++ [y] ++ ys)) Q
                      rw [List.append_assoc]
                      exact o2
          · exact o2.elim
        · exact o2.elim
      · exact o2.elim
    | zero =>
      unfold lcR at o2
      split at o2
      · rename_i ds2 hc2
        split at o2
        · rename_i hlen
          obtain ⟨vs2, j1, j2, j3⟩ := w2.cell cm a _ ha2 hc2
          refine .inl ⟨⟨vs2, .inl (.inl j1), by rw [j2.length]; omega⟩, ?_⟩
          have o3 : Post K mg ρ F H S2 (.lst (accD ++ [])) Q := o2
          rw [List.append_nil] at o3
          refine o3 (.ref dl) Hc (upd F2 dl (.lst acc)) ρ2 (x1.trans (x2.fzD hD hF2)) (w2.fz hD2 hF2 hρ2) (.l (.inl (.inl upd_same)) (Reps.mono (fun b u hb => by rw [upd_ne (ne_of_none hb hF2)]; exact hb) ⟨[], by simp⟩ _ _ r2) (by omega))
        · exact o2.elim
      · exact o2.elim
  · exfalso
    cases hcell : S1[cm]? with
    | none => rw [hcell] at o; exact o.elim
    | some cc =>
      cases cc with
      | lst ds => exact hex ⟨ds, hcell⟩
      | dK _ _ => rw [hcell] at o; exact o.elim
      | dT _ _ => rw [hcell] at o; exact o.elim
      | ins _ _ _ => rw [hcell] at o; exact o.elim
theorem mLcG_fz {mi : M} {own : List Nat} {g : MG} {c : MB} {e : M} {σd : Sls} {S : Store} (hr : ¬ ∃ m S1, mi σd S = .ok (.ref m) S1) : mLcG mi own g c e σd S = mLc (mIt mi) own g c e σd S ∨ mLcG mi own g c e σd S = .bad := by
  unfold mLcG mLc mIt
  cases ei : mi σd S with
  | ok d S1 =>
    cases d with
    | lst ds => exact .inl rfl
    | tup ds => exact .inl rfl
    | ref m => exact (hr ⟨m, S1, ei⟩).elim
    | _ => exact .inr rfl
  | exc c d S1 => exact .inl rfl
  | bad => exact .inr rfl
theorem de_lcG {own : List (Str × Nat)} {is : List Nat} {elt tg iter : Expr} {ifs : List Expr} {scope : Scope} {mi : M} {g : MG} {c : MB} {e : M} (hc : X.calm = true) (hN : X.N.Nodup) (hi : DE X n WN mi iter) (ok : BlkOk X.N X.env.scope scope own)
    (hg : ∀ (s : Shared) (H : Hp) (C : Addr) (cl : List (Str × Addr)) (fp : List Addr), DG (X.blk s H scope (compEnvC scope cl C X.env) fp) n is g tg) (ht : ∀ (s : Shared) (H : Hp) (C : Addr) (cl : List (Str × Addr)) (fp : List Addr), DTs (X.blk s H scope (compEnvC scope cl C X.env) fp) n WN c ifs)
    (he : ∀ (s : Shared) (H : Hp) (C : Addr) (cl : List (Str × Addr)) (fp : List Addr), DE (X.blk s H scope (compEnvC scope cl C X.env) fp) n WN e elt) (his : ∀ i ∈ is, i ∈ own.map (·.2) := by decide) (hs : ∀ x, foldedSetIterable iter X.env x = pure x := by intro _; rfl) :
    DE X n WN (mLcG mi (own.map (·.2)) g c e) (.ListComp elt [⟨tg, iter, ifs, 0⟩] scope pos) := by
  refine ⟨fun pins s σ H Q I q => ?_⟩
  obtain ⟨F, ρ, σd, S, rs, o⟩ := q
  by_cases hr : ∃ m S1, mi σd S = .ok (.ref m) S1
  · obtain ⟨m, S1, ei⟩ := hr
    exact (pe_lc hc hN (pi_sq hi) ok hg ht he hs).run pins s σ H Q I (lcR_ok his rs ei o)
  · refine (de_lc hc hN (di_seq hi) ok hg ht he his hs).run pins s σ H Q I ⟨F, ρ, σd, S, rs, ?_⟩
    rcases mLcG_fz (own := own.map (·.2)) (g := g) (c := c) (e := e) hr with h | h
    · rw [← h]; exact o
    · rw [h] at o; exact o.elim
end
/-! str of a number -/
def strD (_ : Store) : List D → Option D
  | [.int i] => if i.natAbs.log2 < 1920 then some (.str (toString i)) else none
  | _ => none
theorem cs_str {X : Cx} : CallS X (.type "str") strD := by
  refine ⟨_, call_str_int, fun mg F H ρ S ds vs d Q w r e p => ?_⟩
  unfold strD at e
  split at e
  · split at e
    · rename_i i hz
      cases e
      obtain ⟨v, rfl, h1⟩ := reps1 r
      exact ⟨i, by rw [rep_int h1], hz, Post.same p w (.s _)⟩
    · cases e
  · cases e
end PL

set_option Elab.async false
set_option linter.all false
set_option maxRecDepth 100000
set_option maxHeartbeats 4000000
namespace PL
open PySem PySem.Spec PyProof.Rows L2
/-! ### [x, ..] * n, a new list of the store -/
def repL {α : Type} (k : Nat) (ds : List α) : List α := (List.replicate k ds).flatten
theorem repL_len {α : Type} (k : Nat) (ds : List α) : (repL k ds).length = k * ds.length := by
  unfold repL
  induction k with
  | zero => simp
  | succ k ih => rw [List.replicate_succ, List.flatten_cons, List.length_append, ih, Nat.succ_mul]; omega
theorem reps_rep {K : PySem.W.Frag} {F : Hp} {ρ : List Addr} {ds : List D} {vs : List V} (r : Reps K F ρ ds vs) : ∀ k : Nat, Reps K F ρ (repL k ds) (repL k vs)
  | 0 => .nil
  | k + 1 => by
    have ih := reps_rep r k
    unfold repL at ih ⊢
    rw [List.replicate_succ, List.replicate_succ, List.flatten_cons, List.flatten_cons]
    exact r.append ih
def mRepN (ma : MA) (mn : M) : M := fun σ S => (ma σ S).bind fun ds S1 => (mn σ S1).bind fun d S2 => match d with
  | .int k => if k ≤ 1000000 ∧ -1000000 ≤ k ∧ ds.length ≤ 10 then .ok (.ref S2.length) (S2 ++ [.lst (repL k.toNat ds)]) else .bad
  | _ => .bad
section
variable {X : Cx} {n : En} {W : WS} {pos : Pos}
theorem de_repN {ma : MA} {mn : M} {es : List Expr} {b : Expr} {k : Nat} {lp : Pos} [l : Len ma k] (h : DA X n W ma es) (hn : DE X n W mn b) (hk : k ≤ 1000 := by decide) : DE X n W (mRepN ma mn) (.BinOp (.List es lp) .Mult b pos) := by
  refine PE.weak (pe_op op_rep (pe_lst h) hn) fun σ H Q q => ?_
  obtain ⟨F, ρ, σd, S, rs, o⟩ := q
  refine ⟨F, ρ, σd, S, rs, Out.ok_ o fun ds S1 e o1 vs H1 F1 ρ1 x1 w1 r1 => ?_⟩
  have hl : ds.length ≤ sizeLine := by rw [l.len _ _ _ _ e]; exact small_line hk
  refine ⟨by rw [r1.length]; exact hl, fun p hp => ?_⟩
  have wh := w0_hid (o := .lst vs) w1 hp
  refine ⟨F1, ρ1, σd, S1, (rs.next x1 w1).next (ext_hid hp) wh, Out.bind o1 fun d S2 o2 v H2 F2 ρ2 x2 w2 r2 => ?_⟩
  split at o2
  · rename_i j
    split at o2
    · rename_i hj
      have hpr : p ∉ ρ1 := fun z => w1.there z hp
      have h2 : H2 p = some (.lst vs) := x2.keep p _ upd_same hpr
      refine ⟨p, j, vs, rfl, rep_int r2, h2, by omega, by omega, ?_, fun q hq => ?_⟩
      · rw [r1.length]
        have : ds.length * j.toNat ≤ 10 * 1000000 := Nat.mul_le_mul hj.2.2 (by omega)
        exact Nat.le_trans this (by rw [sizeLine_eq]; decide)
      · have x12 := (x1.trans (ext_hid (o := .lst vs) hp)).trans x2
        have x3 := ext_cell (ρ := ρ2) (F := F2) (o := .lst (repL j.toNat vs)) hq
        have rr : Reps X.K F2 ρ2 (repL j.toNat ds) (repL j.toNat vs) := reps_rep (x2.reps ((ext_hid (o := .lst vs) hp).reps r1)) _
        refine o2 (.ref q) _ _ _ (x12.trans x3) (w0_cell w2 hq ⟨repL j.toNat vs, upd_same, x3.reps rr, ?_⟩) (.r ?_)
        · rw [repL_len]
          have : j.toNat * ds.length ≤ 1000000 * 10 := Nat.mul_le_mul (by omega) hj.2.2
          exact Nat.le_trans this (by rw [sizeLine_eq]; decide)
        · rw [← w2.len, List.getElem?_append_right (Nat.le_refl _), Nat.sub_self]
          rfl
    · exact o2.elim
  · exact o2.elim
end
end PL

set_option Elab.async false
set_option linter.all false
set_option maxRecDepth 100000
set_option maxHeartbeats 4000000
namespace PL
open PySem PySem.Spec PyProof.Rows L2
/-! ### a comprehension whose result is a new list of the store -/
def mLcN (it : MI) (own : List Nat) (g : MG) (c : MB) (e : M) : M := fun σ S => (it σ S).bind fun ds S1 => match lcL g c e (wipeS σ own) ds S1 with
  | .ok ys S2 => .ok (.ref S2.length) (S2 ++ [.lst ys])
  | _ => .bad
def mLcGN (it : M) (own : List Nat) (g : MG) (c : MB) (e : M) : M := fun σ S => (it σ S).bind fun d S1 => match lcG g c e (wipeS σ own) S1 d with
  | .ok ys S2 => .ok (.ref S2.length) (S2 ++ [.lst ys])
  | _ => .bad
theorem ext_show {ρ ρ2 : List Addr} {F H F2 H2 : Hp} {p : Addr} (x : Ext ρ F H ρ2 F2 H2) (h : H p = none) : Ext ρ F H (ρ2 ++ [p]) F2 H2 := by
  refine ⟨x.fle, x.fnew, ?_, x.keep, x.live⟩
  obtain ⟨r, e, hr⟩ := x.rpre
  refine ⟨r ++ [p], by rw [e, List.append_assoc], fun a ha => ?_⟩
  rcases List.mem_append.mp ha with ha | ha
  · exact hr a ha
  · rw [List.mem_singleton.mp ha]; exact h
theorem w0_show {K : PySem.W.Frag} {mg : Str → Option Value} {F H : Hp} {ρ : List Addr} {S : Store} {p : Addr} {vs : List V} {ds : List D} (w : W0 K mg F H ρ S) (h1 : H p = some (.lst vs)) (h2 : F p = none) (h3 : p ∉ ρ) (r : Reps K F ρ ds vs) (hl : ds.length ≤ sizeLine) :
    W0 K mg F H (ρ ++ [p]) (S ++ [.lst ds]) := by
  refine ⟨w.fh, by rw [List.length_append, List.length_append, w.len]; rfl, ?_, fun a ha => ?_, fun n a c g1 g2 => ?_⟩
  · rw [List.nodup_append]
    refine ⟨w.nd, by simp, fun a ha b hb => ?_⟩
    rw [List.mem_singleton.mp hb]
    exact fun z => h3 (z ▸ ha)
  · rcases List.mem_append.mp ha with ha | ha
    · exact w.off a ha
    · rw [List.mem_singleton.mp ha]; exact h2
  · by_cases hn : n < ρ.length
    · rw [List.getElem?_append_left hn] at g1
      rw [List.getElem?_append_left (by rw [← w.len]; exact hn)] at g2
      exact CellOk.mono (fun _ _ z => z) ⟨[p], rfl⟩ rfl (w.cell n a c g1 g2)
    · have e : n = ρ.length := by
        have := (List.getElem?_eq_some_iff.mp g1).1
        rw [List.length_append, List.length_singleton] at this
        omega
      subst e
      rw [List.getElem?_append_right (Nat.le_refl _), Nat.sub_self] at g1
      rw [w.len, List.getElem?_append_right (Nat.le_refl _), Nat.sub_self] at g2
      cases g1
      cases g2
      exact ⟨vs, h1, Reps.mono (fun _ _ z => z) ⟨[p], rfl⟩ _ _ r, hl⟩
theorem ref_new {K : PySem.W.Frag} {mg : Str → Option Value} {F H : Hp} {ρ : List Addr} {S : Store} {p : Addr} (w : W0 K mg F H ρ S) : Rep K F (ρ ++ [p]) (.ref S.length) (.ref p) := by
  refine .r ?_
  rw [← w.len, List.getElem?_append_right (Nat.le_refl _), Nat.sub_self]
  rfl
theorem Ext.okD {ρ ρ' : List Addr} {F H F' H' : Hp} {p : Addr} (x : Ext ρ F H ρ' F' H') (_ : H p = none) : Ext ρ F H ρ' F' H' := x
section
variable {X : Cx} {n : En} {W : WS} {pos : Pos}
theorem lcN_ok {K : PySem.W.Frag} {mg : Str → Option Value} {n : En} {mi : MI} {g : MG} {c : MB} {e : M} {own is : List Nat} {σ : L2.St} {H : Hp} {Q : VK} (his : ∀ i ∈ is, i ∈ own) (q : tM K mg n WN (mLcN mi own g c e) σ H Q) :
    tLc (tMI K mg n WN mi) (tMG K mg n is g) (tMB K mg n WN c) (tM K mg n WN e) own σ H Q := by
  obtain ⟨F, ρ, σd, S, rs, o⟩ := q
  refine ⟨F, ρ, σd, S, rs, Out.bind o fun ds S1 o1 J H1 F1 ρ1 x1 w1 itok dl hD => ?_⟩
  have rs1 := rs.next x1 w1
  have hF1 : F1 dl = none := w1.fnone hD
  have hρ1 : dl ∉ ρ1 := fun z => w1.there z hD
  have fin : ∀ {r : R (List D)} {acc0 : List D}, Out (match r with
      | .ok ys S2 => R.ok (D.ref S2.length) (S2 ++ [Cell.lst (acc0 ++ ys)])
      | _ => .bad) (fun d S' => Post K mg ρ F H S' d Q) (fun c d S' => WN c d σd S') → Out r (fun ys S' => Post K mg ρ F H (S' ++ [Cell.lst (acc0 ++ ys)]) (.ref S'.length) Q) (fun _ _ _ => False) := fun {r acc0} h => by
    cases r with
    | ok ys S2 => exact h
    | exc _ _ _ => exact h
    | bad => exact h
  refine ⟨fun i m Hc => m + i = ds.length ∧ ∃ F' ρ' S' acc accD, Ext ρ1 F1 H1 ρ' F' Hc ∧ W0 K mg F' Hc ρ' S' ∧ Hc dl = some (.lst acc) ∧ F' dl = none ∧ dl ∉ ρ' ∧ Reps K F' ρ' accD acc ∧ accD.length ≤ i ∧
    Out (lcL g c e (wipeS σd own) (ds.drop i) S') (fun ys S'' => Post K mg ρ F H (S'' ++ [Cell.lst (accD ++ ys)]) (.ref S''.length) Q) (fun _ _ _ => False),
    ⟨ds.length, rfl, F1, ρ1, S1, [], [], (Ext.refl _ _ _).updD hD, w1.off_upd hF1 hρ1, upd_same, hF1, hρ1, .nil, Nat.le_refl _, fin (acc0 := []) o1⟩, ?_⟩
  rintro i m Hc ⟨hm, F2, ρ2, S2, acc, accD, x2, w2, hD2, hF2, hρ2, r2, hl2, o2⟩
  have rs2 := rs1.next x2 w2
  by_cases hi : i < ds.length
  · refine .inr ⟨itok.go i F2 Hc ρ2 S2 x2.fle x2.mon.pre w2 hi, _, fun _ z => z, fun x H3 hy => ?_⟩
    obtain ⟨F3, x3, w3, r3⟩ := itok.yld i F2 Hc ρ2 S2 x H3 ds[i] x2.fle x2.mon.pre w2 (List.getElem?_eq_getElem hi) hy
    obtain ⟨hD3, hF3, hρ3⟩ := x3.off hD2 hF2 hρ2
    have rs3 := rs2.next x3 w3
    rw [List.drop_eq_getElem_cons hi] at o2
    unfold lcL at o2
    cases eg : g ds[i] (wipeS σd own) with
    | none =>
      rw [eg] at o2
      exact o2.elim
    | some σ3 =>
      simp only [eg] at o2
      refine ⟨F3, ρ2, wipeS σd own, S2, ds[i], σ3, rs3.wipe own, r3, eg, fun σ4 rs4 off4 => ⟨wipe_eq off4 his, F3, ρ2, σ3, S2, rs4, ?_⟩⟩
      cases ec : c σ3 S2 with
      | exc _ _ _ => rw [ec] at o2; exact o2.elim
      | bad => rw [ec] at o2; exact o2.elim
      | ok t S5 =>
        rw [ec] at o2
        intro H5 F5 ρ5 x5 w5
        obtain ⟨hD5, hF5, hρ5⟩ := x5.off hD3 hF3 hρ3
        have x25 : Ext ρ1 F1 H1 ρ5 F5 H5 := (x2.trans x3).trans x5
        have rs5 := rs4.next x5 w5
        cases t with
        | false =>
          exact ⟨m - 1, by omega, by omega, F5, ρ5, S5, acc, accD, x25, w5, hD5, hF5, hρ5, (x3.trans x5).reps r2, by omega, o2⟩
        | true =>
          refine ⟨F5, ρ5, σ3, S5, rs5, ?_⟩
          cases ee : e σ3 S5 with
          | exc _ _ _ => simp only [ee] at o2; exact o2.elim
          | bad => simp only [ee] at o2; exact o2.elim
          | ok y S6 =>
            simp only [ee] at o2
            intro v H6 F6 ρ6 x6 w6 r6
            obtain ⟨hD6, hF6, hρ6⟩ := x6.off hD5 hF5 hρ5
            have racc : Reps K F6 ρ6 (accD ++ [y]) (acc ++ [v]) := (((x3.trans x5).trans x6).reps r2).append (.one r6)
            have hsz : acc.length < sizeLine := by
              have := itok.len
              rw [r2.length]
              omega
            refine ⟨acc, hD6, hsz, m - 1, by omega, by omega, F6, ρ6, S6, acc ++ [v], accD ++ [y], (x25.trans x6).updD hD, w6.off_upd hF6 hρ6, upd_same, hF6, hρ6, racc, by rw [List.length_append, List.length_singleton]; omega, ?_⟩
            cases el : lcL g c e (wipeS σd own) (ds.drop (i + 1)) S6 with
            | exc _ _ _ => simp only [el] at o2; exact o2.elim
            | bad => simp only [el] at o2; exact o2.elim
            | ok ys S7 =>
              simp only [el] at o2
              show Post K mg ρ F H (S7 ++ [Cell.lst (accD ++ [y] ++ ys)]) (.ref S7.length) Q
              rw [List.append_assoc]
              exact o2
  · have e1 : i = ds.length := by omega
    subst e1
    rw [List.drop_length] at o2
    unfold lcL at o2
    refine .inl ⟨itok.stop F2 Hc ρ2 S2 x2.fle x2.mon.pre w2, ?_⟩
    have o3 : Post K mg ρ F H (S2 ++ [Cell.lst (accD ++ [])]) (.ref S2.length) Q := o2
    rw [List.append_nil] at o3
    exact o3 (.ref dl) Hc F2 (ρ2 ++ [dl]) (ext_show (x1.trans (x2.okD hD)) (x1.live _ hD)) (w0_show w2 hD2 hF2 hρ2 r2 (Nat.le_trans hl2 itok.len)) (ref_new w2)
theorem lcRN_ok {K : PySem.W.Frag} {mg : Str → Option Value} {n : En} {mi : M} {g : MG} {c : MB} {e : M} {own is : List Nat} {σ : L2.St} {H : Hp} {Q : VK} (his : ∀ i ∈ is, i ∈ own)
    {F : Hp} {ρ : List Addr} {σd : Sls} {S S1 : Store} {cm : Nat} (rs : RS K mg n F H ρ σd S σ) (ei : mi σd S = .ok (.ref cm) S1) (o : Out (mLcGN mi own g c e σd S) (fun d S' => Post K mg ρ F H S' d Q) (fun c d S' => WN c d σd S')) :
    tLc (iSq K (tM K mg n WN mi)) (tMG K mg n is g) (tMB K mg n WN c) (tM K mg n WN e) own σ H Q := by
  unfold mLcGN at o
  rw [ei] at o
  simp only [R.bind, lcG] at o
  refine ⟨F, ρ, σd, S, rs, ?_⟩
  rw [ei]
  intro v H1 F1 ρ1 x1 w1 rv
  by_cases hex : ∃ ds, S1[cm]? = some (.lst ds)
  · obtain ⟨ds, hcell⟩ := hex
    rw [hcell] at o
    simp only at o
    obtain ⟨a, rfl, ha⟩ := rep_ref rv
    obtain ⟨vs1, k1, k2, k3⟩ := w1.cell cm a _ ha hcell
    refine ⟨a, rfl, .inl ⟨⟨vs1, .inl (.inl k1)⟩, fun dl hD => ?_⟩⟩
    have rs1 := rs.next x1 w1
    have hF1 : F1 dl = none := w1.fnone hD
    have hρ1 : dl ∉ ρ1 := fun z => w1.there z hD
    have fin : ∀ {r : R (List D)} {acc0 : List D}, Out (match r with
        | .ok ys S2 => R.ok (D.ref S2.length) (S2 ++ [Cell.lst (acc0 ++ ys)])
        | _ => .bad) (fun d S' => Post K mg ρ F H S' d Q) (fun c d S' => WN c d σd S') → Out r (fun ys S' => Post K mg ρ F H (S' ++ [Cell.lst (acc0 ++ ys)]) (.ref S'.length) Q) (fun _ _ _ => False) := fun {r acc0} h => by
      cases r with
      | ok ys S2 => exact h
      | exc _ _ _ => exact h
      | bad => exact h
    refine ⟨fun i m Hc => m + i = ds.length ∧ ∃ F' ρ' S' acc accD, Ext ρ1 F1 H1 ρ' F' Hc ∧ W0 K mg F' Hc ρ' S' ∧ Hc dl = some (.lst acc) ∧ F' dl = none ∧ dl ∉ ρ' ∧ Reps K F' ρ' accD acc ∧ accD.length ≤ i ∧
      Out (lcR g c e (wipeS σd own) cm ds.length m S') (fun ys S'' => Post K mg ρ F H (S'' ++ [Cell.lst (accD ++ ys)]) (.ref S''.length) Q) (fun _ _ _ => False),
      ⟨ds.length, rfl, F1, ρ1, S1, [], [], (Ext.refl _ _ _).updD hD, w1.off_upd hF1 hρ1, upd_same, hF1, hρ1, .nil, Nat.le_refl _, fin (acc0 := []) o⟩, ?_⟩
    rintro i m Hc ⟨hm, F2, ρ2, S2, acc, accD, x2, w2, hD2, hF2, hρ2, r2, hl2, o2⟩
    have rs2 := rs1.next x2 w2
    have ha2 : ρ2[cm]? = some a := by
      obtain ⟨r, er⟩ := x2.mon.pre
      rw [er, List.getElem?_append_left (List.getElem?_eq_some_iff.mp ha).1]
      exact ha
    cases m with
    | succ m =>
      unfold lcR at o2
      split at o2
      · rename_i ds2 hc2
        split at o2
        · rename_i hlen
          rw [show ds.length - (m + 1) = i by omega] at o2
          split at o2
          · rename_i d hd
            obtain ⟨vs2, j1, j2, j3⟩ := w2.cell cm a _ ha2 hc2
            obtain ⟨vd, jd, rd⟩ := j2.get hd
            have sq : SqL K Hc a vs2 := .inl (.inl j1)
            refine .inr ⟨⟨vs2, vd, sq, jd⟩, _, fun _ z => z, fun x H3 hy => ?_⟩
            obtain ⟨rfl, hy⟩ := hy
            have := hy vs2 sq
            rw [jd] at this
            cases this
            cases eg : g d (wipeS σd own) with
            | none =>
              rw [eg] at o2
              exact o2.elim
            | some σ3 =>
              simp only [eg] at o2
              refine ⟨F2, ρ2, wipeS σd own, S2, d, σ3, rs2.wipe own, rd, eg, fun σ4 rs4 off4 => ⟨wipe_eq off4 his, F2, ρ2, σ3, S2, rs4, ?_⟩⟩
              cases ec : c σ3 S2 with
              | exc _ _ _ => rw [ec] at o2; exact o2.elim
              | bad => rw [ec] at o2; exact o2.elim
              | ok t S5 =>
                rw [ec] at o2
                intro H5 F5 ρ5 x5 w5
                obtain ⟨hD5, hF5, hρ5⟩ := x5.off hD2 hF2 hρ2
                have x25 : Ext ρ1 F1 H1 ρ5 F5 H5 := x2.trans x5
                have rs5 := rs4.next x5 w5
                cases t with
                | false =>
                  exact ⟨m, by omega, by omega, F5, ρ5, S5, acc, accD, x25, w5, hD5, hF5, hρ5, x5.reps r2, by omega, o2⟩
                | true =>
                  refine ⟨F5, ρ5, σ3, S5, rs5, ?_⟩
                  cases ee : e σ3 S5 with
                  | exc _ _ _ => simp only [ee] at o2; exact o2.elim
                  | bad => simp only [ee] at o2; exact o2.elim
                  | ok y S6 =>
                    simp only [ee] at o2
                    intro v H6 F6 ρ6 x6 w6 r6
                    obtain ⟨hD6, hF6, hρ6⟩ := x6.off hD5 hF5 hρ5
                    have racc : Reps K F6 ρ6 (accD ++ [y]) (acc ++ [v]) := ((x5.trans x6).reps r2).append (.one r6)
                    have hsz : acc.length < sizeLine := by
                      rw [r2.length]
                      omega
                    refine ⟨acc, hD6, hsz, m, by omega, by omega, F6, ρ6, S6, acc ++ [v], accD ++ [y], (x25.trans x6).updD hD, w6.off_upd hF6 hρ6, upd_same, hF6, hρ6, racc, by rw [List.length_append, List.length_singleton]; omega, ?_⟩
                    cases el : lcR g c e (wipeS σd own) cm ds.length m S6 with
                    | exc _ _ _ => simp only [el] at o2; exact o2.elim
                    | bad => simp only [el] at o2; exact o2.elim
                    | ok ys S7 =>
                      simp only [el] at o2
                      show Post K mg ρ F H (S7 ++ [Cell.lst (accD ++ [y] ++ ys)]) (.ref S7.length) Q
                      rw [List.append_assoc]
                      exact o2
          · exact o2.elim
        · exact o2.elim
      · exact o2.elim
    | zero =>
      unfold lcR at o2
      split at o2
      · rename_i ds2 hc2
        split at o2
        · rename_i hlen
          obtain ⟨vs2, j1, j2, j3⟩ := w2.cell cm a _ ha2 hc2
          refine .inl ⟨⟨vs2, .inl (.inl j1), by rw [j2.length]; omega⟩, ?_⟩
          have o3 : Post K mg ρ F H (S2 ++ [Cell.lst (accD ++ [])]) (.ref S2.length) Q := o2
          rw [List.append_nil] at o3
          exact o3 (.ref dl) Hc F2 (ρ2 ++ [dl]) (ext_show (x1.trans (x2.okD hD)) (x1.live _ hD)) (w0_show w2 hD2 hF2 hρ2 r2 (by omega)) (ref_new w2)
        · exact o2.elim
      · exact o2.elim
  · exfalso
    cases hcell : S1[cm]? with
    | none => rw [hcell] at o; exact o.elim
    | some cc =>
      cases cc with
      | lst ds => exact hex ⟨ds, hcell⟩
      | dK _ _ => rw [hcell] at o; exact o.elim
      | dT _ _ => rw [hcell] at o; exact o.elim
      | ins _ _ _ => rw [hcell] at o; exact o.elim
theorem de_lcN {own : List (Str × Nat)} {is : List Nat} {elt tg iter : Expr} {ifs : List Expr} {scope : Scope} {mi : MI} {g : MG} {c : MB} {e : M} (hc : X.calm = true) (hN : X.N.Nodup) (hi : DI X n WN mi tg iter) (ok : BlkOk X.N X.env.scope scope own)
    (hg : ∀ (s : Shared) (H : Hp) (C : Addr) (cl : List (Str × Addr)) (fp : List Addr), DG (X.blk s H scope (compEnvC scope cl C X.env) fp) n is g tg) (ht : ∀ (s : Shared) (H : Hp) (C : Addr) (cl : List (Str × Addr)) (fp : List Addr), DTs (X.blk s H scope (compEnvC scope cl C X.env) fp) n WN c ifs)
    (he : ∀ (s : Shared) (H : Hp) (C : Addr) (cl : List (Str × Addr)) (fp : List Addr), DE (X.blk s H scope (compEnvC scope cl C X.env) fp) n WN e elt) (his : ∀ i ∈ is, i ∈ own.map (·.2) := by decide) (hs : ∀ x, foldedSetIterable iter X.env x = pure x := by intro _; rfl) :
    DE X n WN (mLcN mi (own.map (·.2)) g c e) (.ListComp elt [⟨tg, iter, ifs, 0⟩] scope pos) :=
  PE.weak (pe_lc hc hN hi ok hg ht he hs) fun σ H Q q => lcN_ok his q
theorem mLcGN_fz {mi : M} {own : List Nat} {g : MG} {c : MB} {e : M} {σd : Sls} {S : Store} (hr : ¬ ∃ m S1, mi σd S = .ok (.ref m) S1) : mLcGN mi own g c e σd S = mLcN (mIt mi) own g c e σd S ∨ mLcGN mi own g c e σd S = .bad := by
  unfold mLcGN mLcN mIt
  cases ei : mi σd S with
  | ok d S1 =>
    cases d with
    | lst ds => exact .inl rfl
    | tup ds => exact .inl rfl
    | ref m => exact (hr ⟨m, S1, ei⟩).elim
    | _ => exact .inr rfl
  | exc c d S1 => exact .inl rfl
  | bad => exact .inr rfl
theorem de_lcGN {own : List (Str × Nat)} {is : List Nat} {elt tg iter : Expr} {ifs : List Expr} {scope : Scope} {mi : M} {g : MG} {c : MB} {e : M} (hc : X.calm = true) (hN : X.N.Nodup) (hi : DE X n WN mi iter) (ok : BlkOk X.N X.env.scope scope own)
    (hg : ∀ (s : Shared) (H : Hp) (C : Addr) (cl : List (Str × Addr)) (fp : List Addr), DG (X.blk s H scope (compEnvC scope cl C X.env) fp) n is g tg) (ht : ∀ (s : Shared) (H : Hp) (C : Addr) (cl : List (Str × Addr)) (fp : List Addr), DTs (X.blk s H scope (compEnvC scope cl C X.env) fp) n WN c ifs)
    (he : ∀ (s : Shared) (H : Hp) (C : Addr) (cl : List (Str × Addr)) (fp : List Addr), DE (X.blk s H scope (compEnvC scope cl C X.env) fp) n WN e elt) (his : ∀ i ∈ is, i ∈ own.map (·.2) := by decide) (hs : ∀ x, foldedSetIterable iter X.env x = pure x := by intro _; rfl) :
    DE X n WN (mLcGN mi (own.map (·.2)) g c e) (.ListComp elt [⟨tg, iter, ifs, 0⟩] scope pos) := by
  refine ⟨fun pins s σ H Q I q => ?_⟩
  obtain ⟨F, ρ, σd, S, rs, o⟩ := q
  by_cases hr : ∃ m S1, mi σd S = .ok (.ref m) S1
  · obtain ⟨m, S1, ei⟩ := hr
    exact (pe_lc hc hN (pi_sq hi) ok hg ht he hs).run pins s σ H Q I (lcRN_ok his rs ei o)
  · refine (de_lcN hc hN (di_seq hi) ok hg ht he his hs).run pins s σ H Q I ⟨F, ρ, σd, S, rs, ?_⟩
    rcases mLcGN_fz (own := own.map (·.2)) (g := g) (c := c) (e := e) hr with h | h
    · rw [← h]; exact o
    · rw [h] at o; exact o.elim
end
end PL

set_option Elab.async false
set_option linter.all false
set_option maxRecDepth 100000
set_option maxHeartbeats 4000000
namespace PL
open PySem PySem.Spec PyProof.Rows L2
/-! how the rules over lists of the store run -/
def forGK (r : R D) (g : MG) (b : MS) (σ : Sls) : Fl := Fl.of r σ fun d S1 => forG g b σ S1 d
def forGR (o : Option Cell) (g : MG) (b : MS) (m : Nat) (σ : Sls) (S : Store) : Fl := match o with
  | some (.lst ds) => forR g b m ds.length ds.length σ S
  | _ => .bad
def appRK2 (c : Bool) (x : D) (r : R D) (σ : Sls) : Fl := if c = true then Fl.of r σ fun d S2 => match appS S2 x d with
  | some S3 => .nx σ S3
  | none => .bad else .bad
def appSR (o : Option Cell) (S : Store) (m : Nat) (d : D) : Option Store := match o with
  | some (.lst ds) => if ds.length < sizeLine then some (S.set m (.lst (ds ++ [d]))) else none
  | _ => none
section
variable {σ : Sls} {S : Store} {it e : M} {g : MG} {b : MS} {d x : D} {ds : List D} {m : Nat}
theorem e_fG : mForG it g b σ S = forGK (it σ S) g b σ := rfl
theorem e_fG1 : forGK (.ok d S) g b σ = forG g b σ S d := rfl
theorem e_fGl : forG g b σ S (.lst ds) = forL g b ds σ S := rfl
theorem e_fGt : forG g b σ S (.tup ds) = forL g b ds σ S := rfl
theorem e_fGr : forG g b σ S (.ref m) = forGR S[m]? g b m σ S := by
  unfold forG forGR
  cases h : S[m]? with
  | none => simp only [h]
  | some c => cases c <;> simp only [h]
theorem e_fGr1 : forGR (some (.lst ds)) g b m σ S = forR g b m ds.length ds.length σ S := rfl
theorem lstAt_r : lstAt S (.ref m) = (match S[m]? with | some (.lst _) => true | _ => false) := rfl
theorem appS_r : appS S (.ref m) d = appSR S[m]? S m d := by
  unfold appS appSR
  cases h : S[m]? with
  | none => simp only [h]
  | some c => cases c <;> simp only [h]
theorem appSR_1 (h : ds.length < 1000000) : appSR (some (.lst ds)) S m d = some (S.set m (.lst (ds ++ [d]))) := if_pos (Nat.lt_of_lt_of_le h (by decide))
/-- append to a list of the store -/
theorem appR_ok {o : M} {S1 S2 : Store} (h1 : o σ S = .ok (.ref m) S1) (h2 : ∃ d0, S1[m]? = some (.lst d0)) (h3 : e σ S1 = .ok d S2) (h4 : S2[m]? = some (.lst ds)) (h5 : ds.length < 1000000) : mAppR o e σ S = .nx σ (S2.set m (.lst (ds ++ [d]))) := by
  obtain ⟨d0, h2⟩ := h2
  unfold mAppR
  rw [h1]
  simp only [Fl.of, lstAt, h2, h3, appS, h4]
  rw [if_pos trivial, if_pos (Nat.lt_of_lt_of_le h5 (by decide))]
theorem forR_inv (P : Nat → Sls → Store → Prop) (hm : ∀ i σ S, P i σ S → S[m]? = some (.lst ds))
    (st : ∀ i d σ S, ds[i]? = some d → P i σ S → ∃ σ1 σ2 S2, g d σ = some σ1 ∧ (b σ1 S = .nx σ2 S2 ∨ b σ1 S = .ct σ2 S2) ∧ P (i + 1) σ2 S2) :
    ∀ (k i : Nat) {σ : Sls} {S : Store}, k + i = ds.length → P i σ S → ∃ σ2 S2, forR g b m ds.length k σ S = .nx σ2 S2 ∧ P ds.length σ2 S2
  | 0, i, σ, S, h, p => by
    refine ⟨σ, S, ?_, by rw [← h, Nat.zero_add]; exact p⟩
    unfold forR
    rw [hm i σ S p]
    simp only
    rw [if_pos trivial]
  | k + 1, i, σ, S, h, p => by
    have hi : i < ds.length := by omega
    obtain ⟨σ1, σ2, S2, e1, e2, e3⟩ := st i ds[i] σ S (List.getElem?_eq_getElem hi) p
    obtain ⟨σ3, S3, e4, e5⟩ := forR_inv P hm st k (i + 1) (by omega) e3
    refine ⟨σ3, S3, ?_, e5⟩
    unfold forR
    rw [hm i σ S p]
    simp only
    rw [if_pos trivial, show ds.length - (k + 1) = i by omega, List.getElem?_eq_getElem hi]
    simp only [e1]
    rcases e2 with e2 | e2
    · simp only [e2]; exact e4
    · simp only [e2]; exact e4
end
end PL

set_option Elab.async false
set_option linter.all false
set_option maxRecDepth 100000
set_option maxHeartbeats 4000000
namespace PL
open PySem PySem.Spec PyProof.Rows L2
/-! ### data with lists of the store inside: a snapshot -/
def mapO (f : D → Option D) : List D → Option (List D)
  | [] => some []
  | d :: ds => match f d, mapO f ds with
    | some x, some xs => some (x :: xs)
    | _, _ => none
def snap (S : Store) : Nat → D → Option D
  | 0, _ => none
  | n + 1, .tup ds => (mapO (snap S n) ds).map .tup
  | n + 1, .lst ds => (mapO (snap S n) ds).map .lst
  | n + 1, .ref m => match S[m]? with
    | some (.lst ds) => (mapO (snap S n) ds).map .lst
    | _ => none
  | _ + 1, .dK _ _ => none
  | _ + 1, .dT _ _ => none
  | _ + 1, d => some d
section
variable {K : PySem.W.Frag} {mg : Str → Option Value} {F H : Hp} {ρ : List Addr} {S : Store}
theorem dps_snap {f : D → Option D} (hf : ∀ d v d' p, Rep K F ρ d v → f d = some d' → toP0 d' = some p → Dp K H v p) : ∀ (ds : List D) (vs : List V) (ds' : List D) (ps : List PyData), Reps K F ρ ds vs → mapO f ds = some ds' → toPs ds' = some ps → DpAll K H vs ps
  | [], vs, ds', ps, r, e, e2 => by
    cases e
    simp only [toPs] at e2
    cases e2
    unfold Reps at r
    rw [r]
    exact .nil
  | d :: ds, vs, ds', ps, r, e, e2 => by
    unfold Reps at r
    obtain ⟨v, vs', rfl, h1, h2⟩ := r
    unfold mapO at e
    split at e
    · rename_i x xs ex exs
      cases e
      simp only [toPs] at e2
      split at e2
      · rename_i p ps' e3 e4
        cases e2
        exact .cons (hf d v x p h1 ex e3) (dps_snap hf ds vs' xs ps' h2 exs e4)
      · cases e2
    · cases e
theorem dp_snap (w : W0 K mg F H ρ S) : ∀ (n : Nat) (d : D) (v : V) (d' : D) (p : PyData), Rep K F ρ d v → snap S n d = some d' → toP0 d' = some p → Dp K H v p
  | 0, d, v, d', p, r, e, e2 => by unfold snap at e; cases e
  | n + 1, .tup ds, v, d', p, r, e, e2 => by
    unfold snap at e
    obtain ⟨a, vs, rfl, h1, h2, _⟩ := rep_tup r
    cases em : mapO (snap S n) ds with
    | none => rw [em] at e; cases e
    | some xs =>
      rw [em] at e
      cases e
      simp only [toP0] at e2
      cases e3 : toPs xs with
      | none => rw [e3] at e2; cases e2
      | some ps =>
        rw [e3] at e2
        cases e2
        exact .tup (SqT.mono w.fh h1) (dps_snap (fun d v d' p => dp_snap w n d v d' p) ds vs xs ps h2 em e3)
  | n + 1, .lst ds, v, d', p, r, e, e2 => by
    unfold snap at e
    obtain ⟨a, vs, rfl, h1, h2, _⟩ := rep_lst r
    cases em : mapO (snap S n) ds with
    | none => rw [em] at e; cases e
    | some xs =>
      rw [em] at e
      cases e
      simp only [toP0] at e2
      cases e3 : toPs xs with
      | none => rw [e3] at e2; cases e2
      | some ps =>
        rw [e3] at e2
        cases e2
        exact .lst (SqL.mono w.fh h1) (dps_snap (fun d v d' p => dp_snap w n d v d' p) ds vs xs ps h2 em e3)
  | n + 1, .ref m, v, d', p, r, e, e2 => by
    unfold snap at e
    split at e
    · rename_i ds hc
      obtain ⟨a, rfl, ha⟩ := rep_ref r
      obtain ⟨vs, h1, h2, _⟩ := w.cell m a _ ha hc
      cases em : mapO (snap S n) ds with
      | none => rw [em] at e; cases e
      | some xs =>
        rw [em] at e
        cases e
        simp only [toP0] at e2
        cases e3 : toPs xs with
        | none => rw [e3] at e2; cases e2
        | some ps =>
          rw [e3] at e2
          cases e2
          exact .lst (.inl (.inl h1)) (dps_snap (fun d v d' p => dp_snap w n d v d' p) ds vs xs ps h2 em e3)
    · cases e
  | n + 1, .dK ks ds, v, d', p, r, e, e2 => by unfold snap at e; cases e
  | n + 1, .dT ks ds, v, d', p, r, e, e2 => by unfold snap at e; cases e
  | n + 1, .non, v, d', p, r, e, e2 => by unfold snap at e; cases e; exact dp_of w.fh _ v p r e2
  | n + 1, .bl b, v, d', p, r, e, e2 => by unfold snap at e; cases e; exact dp_of w.fh _ v p r e2
  | n + 1, .int i, v, d', p, r, e, e2 => by unfold snap at e; cases e; exact dp_of w.fh _ v p r e2
  | n + 1, .str x, v, d', p, r, e, e2 => by unfold snap at e; cases e; exact dp_of w.fh _ v p r e2
end
/-- equality, lists of the store resolved; scalars by eqD -/
def eqG (S : Store) (d e : D) : Option Bool := match snap S 60 d, snap S 60 e with
  | some x, some y => if isTL x = true ∨ isTL y = true then match toP0 x, toP0 y with
      | some p, some q => if SeqAt.shaped p = true ∧ SeqAt.shaped q = true then some (PyData.eqv p q) else none
      | _, _ => none
    else eqD S d e
  | _, _ => none
def eqGB (S : Store) (d e : D) : Option D := (eqG S d e).map .bl
def neGB (S : Store) (d e : D) : Option D := (eqG S d e).map fun b => .bl (!b)
theorem eqG_of {K : PySem.W.Frag} {mg} {F H : Hp} {ρ : List Addr} {S : Store} {d1 d2 : D} {v1 v2 : V} {b : Bool} (w : W0 K mg F H ρ S) (r1 : Rep K F ρ d1 v1) (r2 : Rep K F ρ d2 v2) (e : eqG S d1 d2 = some b) :
    eqD S d1 d2 = some b ∨ (∃ p q, Dp K H v1 p ∧ Dp K H v2 q ∧ SeqAt.shaped p = true ∧ SeqAt.shaped q = true ∧ PyData.eqv p q = b) := by
  unfold eqG at e
  split at e
  · rename_i x y ex ey
    split at e
    · split at e
      · rename_i p q ep eq
        split at e
        · rename_i h
          cases e
          exact .inr ⟨p, q, dp_snap w 60 _ _ _ _ r1 ex ep, dp_snap w 60 _ _ _ _ r2 ey eq, h.1, h.2, rfl⟩
        · cases e
      · cases e
    · exact .inl e
  · cases e
section
variable {X : Cx}
theorem os_eqG (hu : X.A.units + 64 < cLine) : OpS X (compareOp .Eq) eqGB := by
  refine ⟨_, op_eq.or (op_eqD hu), fun mg F H ρ S d1 d2 v1 v2 d Q w r1 r2 e p => ?_⟩
  unfold eqGB at e
  cases e1 : eqG S d1 d2 with
  | none => rw [e1] at e; cases e
  | some b =>
    rw [e1] at e
    cases e
    rcases eqG_of w r1 r2 e1 with e2 | ⟨a, c, h1, h2, h3, h4, h5⟩
    · rcases eq_of w r1 r2 e2 with ⟨h1, h2⟩ | ⟨a, c, h1, h2, h3, h4, h5⟩
      · exact .inl ⟨h1, by rw [h2]; exact Post.same p w (.b _)⟩
      · exact .inr ⟨a, c, h1, h2, h3, h4, by rw [h5]; exact Post.same p w (.b _)⟩
    · exact .inr ⟨a, c, h1, h2, h3, h4, by rw [h5]; exact Post.same p w (.b _)⟩
theorem os_neG (hu : X.A.units + 64 < cLine) : OpS X (compareOp .NotEq) neGB := by
  refine ⟨_, op_ne.or (op_neD hu), fun mg F H ρ S d1 d2 v1 v2 d Q w r1 r2 e p => ?_⟩
  unfold neGB at e
  cases e1 : eqG S d1 d2 with
  | none => rw [e1] at e; cases e
  | some b =>
    rw [e1] at e
    cases e
    rcases eqG_of w r1 r2 e1 with e2 | ⟨a, c, h1, h2, h3, h4, h5⟩
    · rcases eq_of w r1 r2 e2 with ⟨h1, h2⟩ | ⟨a, c, h1, h2, h3, h4, h5⟩
      · exact .inl ⟨h1, by rw [h2]; exact Post.same p w (.b _)⟩
      · exact .inr ⟨a, c, h1, h2, h3, h4, by rw [h5]; exact Post.same p w (.b _)⟩
    · exact .inr ⟨a, c, h1, h2, h3, h4, by rw [h5]; exact Post.same p w (.b _)⟩
end
end PL

set_option Elab.async false
set_option linter.all false
set_option maxRecDepth 100000
set_option maxHeartbeats 4000000
namespace PL
open PySem PySem.Spec PyProof.Rows L2
/-! ### loops over zip, enumerate, lists: cells of the store that stay as they are meanwhile -/
abbrev Dep := List (Nat × List D)
def dpOk (dp : Dep) (S : Store) : Prop := ∀ p ∈ dp, S[p.1]? = some (.lst p.2)
structure ItD (K : PySem.W.Frag) (mg : Str → Option Value) (J : It) (F : Hp) (ρ : List Addr) (dp : Dep) (ds : List D) : Prop where
  len : ds.length ≤ sizeLine
  go : ∀ (i : Nat) F' H ρ' S, (∀ a o, F a = some o → F' a = some o) → (∃ r, ρ' = ρ ++ r) → W0 K mg F' H ρ' S → dpOk dp S → i < ds.length → J.go i H
  stop : ∀ F' H ρ' S, (∀ a o, F a = some o → F' a = some o) → (∃ r, ρ' = ρ ++ r) → W0 K mg F' H ρ' S → dpOk dp S → J.stop ds.length H
  yld : ∀ (i : Nat) F' H ρ' S x H' d, (∀ a o, F a = some o → F' a = some o) → (∃ r, ρ' = ρ ++ r) → W0 K mg F' H ρ' S → dpOk dp S → ds[i]? = some d → J.yld i H x H' → ∃ F2, Ext ρ' F' H ρ' F2 H' ∧ W0 K mg F2 H' ρ' S ∧ Rep K F2 ρ' d x
abbrev MID := Sls → Store → R (List D × Dep)
def tMID (K : PySem.W.Frag) (mg : Str → Option Value) (n : En) (W : WS) (m : MID) : TI := fun σ H R => ∃ F ρ σd S, RS K mg n F H ρ σd S σ ∧
  Out (m σd S) (fun q S' => ∀ J H' F' ρ', Ext ρ F H ρ' F' H' → W0 K mg F' H' ρ' S' → dpOk q.2 S' → ItD K mg J F' ρ' q.2 q.1 → R J H') (fun c d S' => W c d σd S')
abbrev DID (X : Cx) (n : En) (W : WS) (m : MID) (tg it : Expr) : Prop := PI X tg it (tMID X.K X.mg n W m)
open Classical in
noncomputable def forD (g : MG) (b : MS) (dp : Dep) : List D → Sls → Store → Fl
  | [], σ, S => if dpOk dp S then .nx σ S else .bad
  | d :: ds, σ, S => if dpOk dp S then match g d σ with
    | none => .bad
    | some σ1 => match b σ1 S with
      | .nx σ2 S2 => forD g b dp ds σ2 S2
      | .ct σ2 S2 => forD g b dp ds σ2 S2
      | .bk σ2 S2 => .nx σ2 S2
      | .ret d S2 => .ret d S2
      | .exc c d σ2 S2 => .exc c d σ2 S2
      | .bad => .bad
    else .bad
noncomputable def mForD (it : MID) (g : MG) (b : MS) : MS := fun σ S => match it σ S with
  | .ok q S1 => forD g b q.2 q.1 σ S1
  | .exc c d S1 => .exc c d σ S1
  | .bad => .bad
section
variable {X : Cx} {n : En} {W : WS} {pos : Pos} {tg : Expr}
theorem st_forD {is : List Nat} {iter : Expr} {body : List Stmt} {mi : MID} {g : MG} {b : MS} (hp : PassesOwn (model X.prog X.w) X.A X.env X.xe) (hc : X.calm = true) (hi : DID X n W mi tg iter) (hg : DG X n is g tg) (hb : DSs X n W b body)
    (hs : ∀ x, foldedSetIterable iter X.env x = pure x := by intro _; rfl) : DS X n W (mForD mi g b) (.For tg iter body [] pos) := by
  refine PS.weak (ps_for hp hc hi hg hb hs) fun E σ H q => ?_
  obtain ⟨F, ρ, σd, S, rs, o⟩ := q
  refine ⟨F, ρ, σd, S, rs, ?_⟩
  unfold mForD at o
  cases e : mi σd S with
  | exc c d S1 =>
    rw [e] at o
    exact o
  | bad =>
    rw [e] at o
    exact o
  | ok q S1 =>
    obtain ⟨ds, dp⟩ := q
    rw [e] at o
    intro J H1 F1 ρ1 x1 w1 hdp itok
    simp only at o itok hdp
    refine ⟨fun i m σ H => ∃ F' ρ' σd' S', m + i = ds.length ∧ Mon F1 ρ1 F' ρ' ∧ RS X.K X.mg n F' H ρ' σd' S' σ ∧ OutS X.K X.mg n W F' ρ' (forD g b dp (ds.drop i) σd' S') E,
      ⟨ds.length, F1, ρ1, σd, S1, rfl, .refl _ _, rs.next x1 w1, o.mon x1.mon⟩, ?_⟩
    rintro i m σ2 H2 ⟨F2, ρ2, σd2, S2, hm, y, rs2, o2⟩
    by_cases hi : i < ds.length
    · rw [List.drop_eq_getElem_cons hi] at o2
      unfold forD at o2
      split at o2
      · rename_i hd2
        refine .inr ⟨itok.go i F2 H2 ρ2 S2 y.fle y.pre rs2.w hd2 hi, _, fun _ _ z => z, fun x H3 hy => ?_⟩
        obtain ⟨F3, x3, w3, r3⟩ := itok.yld i F2 H2 ρ2 S2 x H3 ds[i] y.fle y.pre rs2.w hd2 (List.getElem?_eq_getElem hi) hy
        cases eg : g ds[i] σd2 with
        | none =>
          rw [eg] at o2
          exact o2.elim
        | some σ3 =>
          rw [eg] at o2
          refine ⟨F3, ρ2, σd2, S2, ds[i], σ3, rs2.next x3 w3, r3, eg, fun σ4 rs4 _ => ⟨F3, ρ2, σ3, S2, rs4, ?_⟩⟩
          have y3 := y.trans x3.mon
          have go : ∀ {σd5 S5}, OutS X.K X.mg n W F2 ρ2 (forD g b dp (ds.drop (i + 1)) σd5 S5) E → ∀ σ H F ρ, Mon F3 ρ2 F ρ → RS X.K X.mg n F H ρ σd5 S5 σ →
              ∃ m', m' < m ∧ ∃ F' ρ' σd' S', m' + (i + 1) = ds.length ∧ Mon F1 ρ1 F' ρ' ∧ RS X.K X.mg n F' H ρ' σd' S' σ ∧ OutS X.K X.mg n W F' ρ' (forD g b dp (ds.drop (i + 1)) σd' S') E := fun o5 σ H F ρ y5 rs5 =>
            ⟨m - 1, by omega, F, ρ, _, _, by omega, y3.trans y5, rs5, o5.mon (x3.mon.trans y5)⟩
          cases eb : b σ3 S2 with
          | nx σ5 S5 =>
            simp only [eb] at o2
            exact go o2
          | ct σ5 S5 =>
            simp only [eb] at o2
            exact go o2
          | bk σ5 S5 =>
            simp only [eb] at o2
            exact fun σ H F ρ y5 rs5 => o2 σ H F ρ (x3.mon.trans y5) rs5
          | ret d S5 =>
            simp only [eb] at o2
            exact o2
          | exc c d σ5 S5 =>
            simp only [eb] at o2
            exact o2
          | bad =>
            simp only [eb] at o2
            exact o2
      · exact o2.elim
    · rw [List.drop_of_length_le (by omega)] at o2
      unfold forD at o2
      split at o2
      · rename_i hd2
        have := itok.stop F2 H2 ρ2 S2 y.fle y.pre rs2.w hd2
        rw [show ds.length = i by omega] at this
        exact .inl ⟨this, o2 σ2 H2 F2 ρ2 (.refl _ _) rs2⟩
      · exact o2.elim
/-- the items of a list or tuple, frozen or of the store -/
def itemsS (S : Store) : D → Option (List D × Dep)
  | .lst ds => some (ds, [])
  | .tup ds => some (ds, [])
  | .ref m => match S[m]? with
    | some (.lst ds) => some (ds, [(m, ds)])
    | _ => none
  | _ => none
/-- a is a sequence of ds as long as the cells stay -/
def SqD (K : PySem.W.Frag) (mg : Str → Option Value) (k : Bool) (F : Hp) (ρ : List Addr) (a : Addr) (dp : Dep) (ds : List D) : Prop :=
  ∀ F' H ρ' S, (∀ a o, F a = some o → F' a = some o) → (∃ r, ρ' = ρ ++ r) → W0 K mg F' H ρ' S → dpOk dp S → ∃ vs, SqK K k H a vs ∧ Reps K F' ρ' ds vs
theorem items_repS {K : PySem.W.Frag} {mg} {F H : Hp} {ρ : List Addr} {S : Store} {d : D} {v : V} {ds : List D} {dp : Dep} (w : W0 K mg F H ρ S) (r : Rep K F ρ d v) (e : itemsS S d = some (ds, dp)) :
    ∃ k a, v = .ref a ∧ SqD K mg k F ρ a dp ds ∧ dpOk dp S ∧ ds.length ≤ sizeLine := by
  unfold itemsS at e
  split at e
  · cases e
    obtain ⟨a, vs, rfl, h1, h2, h3⟩ := rep_lst r
    exact ⟨true, a, rfl, fun F' H ρ' S e p w _ => ⟨vs, SqL.mono w.fh (SqL.mono e h1), Reps.mono e p _ _ h2⟩, (fun _ h => nomatch h), h3⟩
  · cases e
    obtain ⟨a, vs, rfl, h1, h2, h3⟩ := rep_tup r
    exact ⟨false, a, rfl, fun F' H ρ' S e p w _ => ⟨vs, SqT.mono w.fh (SqT.mono e h1), Reps.mono e p _ _ h2⟩, (fun _ h => nomatch h), h3⟩
  · rename_i m
    split at e
    · rename_i ds' hc
      cases e
      obtain ⟨a, rfl, ha⟩ := rep_ref r
      obtain ⟨_, _, _, h3⟩ := w.cell m a _ ha hc
      refine ⟨true, a, rfl, fun F' H ρ' S e p w' hd => ?_, fun q hq => by rw [List.mem_singleton.mp hq]; exact hc, h3⟩
      obtain ⟨r, rfl⟩ := p
      obtain ⟨vs, k1, k2, _⟩ := w'.cell m a _ (pre_get ha) (hd _ List.mem_cons_self)
      exact ⟨vs, .inl (.inl k1), k2⟩
    · cases e
  · cases e
def zipDD (st : Bool) (S : Store) : List D → Option (List D × Dep)
  | [x, y] => match itemsS S x, itemsS S y with
    | some a, some b => if st = false ∨ a.1.length = b.1.length then some (pairsL a.1 b.1, a.2 ++ b.2) else none
    | _, _ => none
  | _ => none
def mZipD (st : Bool) (m : MA) : MID := fun σ S => (m σ S).bind fun ds S1 => R.of (zipDD st S1 ds) S1
theorem dpOk_app {a b : Dep} {S : Store} : dpOk (a ++ b) S ↔ dpOk a S ∧ dpOk b S :=
  ⟨fun h => ⟨fun p hp => h p (List.mem_append_left _ hp), fun p hp => h p (List.mem_append_right _ hp)⟩, fun h p hp => (List.mem_append.mp hp).elim (h.1 p) (h.2 p)⟩
theorem ItD.zip {K : PySem.W.Frag} {mg} {F : Hp} {ρ : List Addr} {st k1 k2 : Bool} {a b : Addr} {ds es : List D} {dp dq : Dep} (h1 : SqD K mg k1 F ρ a dp ds) (h2 : SqD K mg k2 F ρ b dq es) (hl : ds.length ≤ sizeLine) (hs : st = false ∨ ds.length = es.length) :
    ItD K mg (Itzk K st k1 k2 a b) F ρ (dp ++ dq) (pairsL ds es) where
  len := by rw [pairsL_len]; omega
  go := fun i F' H ρ' S e p w hd hi => by
    rw [pairsL_len] at hi
    obtain ⟨vs, s1, r1⟩ := h1 F' H ρ' S e p w (dpOk_app.mp hd).1
    obtain ⟨us, s2, r2⟩ := h2 F' H ρ' S e p w (dpOk_app.mp hd).2
    obtain ⟨x, g1, _⟩ := r1.get (List.getElem?_eq_getElem (show i < ds.length by omega))
    obtain ⟨y, g2, _⟩ := r2.get (List.getElem?_eq_getElem (show i < es.length by omega))
    exact ⟨vs, us, x, y, s1, s2, g1, g2⟩
  stop := fun F' H ρ' S e p w hd => by
    obtain ⟨vs, s1, r1⟩ := h1 F' H ρ' S e p w (dpOk_app.mp hd).1
    obtain ⟨us, s2, r2⟩ := h2 F' H ρ' S e p w (dpOk_app.mp hd).2
    refine ⟨vs, us, s1, s2, ?_⟩
    rw [pairsL_len, ← r1.length, ← r2.length]
    cases st with
    | true =>
      have := hs.resolve_left (fun h => nomatch h)
      rw [← r1.length, ← r2.length] at this
      exact .inl ⟨rfl, by omega, by omega⟩
    | false => exact .inr ⟨rfl, by omega⟩
  yld := fun i F' H ρ' S x H' d e p w hd hx y => by
    obtain ⟨vs, s1, r1⟩ := h1 F' H ρ' S e p w (dpOk_app.mp hd).1
    obtain ⟨us, s2, r2⟩ := h2 F' H ρ' S e p w (dpOk_app.mp hd).2
    obtain ⟨T, v1, v2, rfl, hT, rfl, y1, y2⟩ := y
    obtain ⟨d1, d2, rfl, e1, e2⟩ := pairsL_get hx
    obtain ⟨u1, g1, q1⟩ := r1.get e1
    obtain ⟨u2, g2, q2⟩ := r2.get e2
    have z1 := y1 vs s1
    have z2 := y2 us s2
    rw [g1] at z1
    rw [g2] at z2
    cases z1
    cases z2
    have x := ext_new (ρ := ρ') (o := .tup [v1, v2]) hT (w.fnone hT)
    refine ⟨_, x, w0_new w hT, .t (.inl (.inl upd_same)) ?_ (by show 2 ≤ sizeLine; decide)⟩
    exact x.reps ⟨v1, [v2], rfl, q1, v2, [], rfl, q2, rfl⟩
theorem sqD_now {K : PySem.W.Frag} {mg} {F H : Hp} {ρ : List Addr} {S : Store} {k : Bool} {a : Addr} {dp : Dep} {ds : List D} (w : W0 K mg F H ρ S) (h : SqD K mg k F ρ a dp ds) (hd : dpOk dp S) : ∃ vs, SqK K k H a vs :=
  let ⟨vs, s, _⟩ := h F H ρ S (fun _ _ z => z) ⟨[], by simp⟩ w hd; ⟨vs, s⟩
variable {elts : List Expr} {kk : Nat} {tpos : Pos} {e e2 : Expr} {p : Pos}
theorem zipD_go {K : PySem.W.Frag} {mg : Str → Option Value} {n : En} {W : WS} {st : Bool} {ma : MA} {σ : L2.St} {H : Hp} {R : It → Hp → Prop} (q : tMID K mg n W (mZipD st ma) σ H R) : iZs K st (tMA K mg n W ma) σ H R := by
  obtain ⟨F, ρ, σd, S, rs, o⟩ := q
  refine ⟨F, ρ, σd, S, rs, Out.bind o fun ds S1 o1 vs H1 F1 ρ1 x1 w1 r1 => ?_⟩
  obtain ⟨ps, e, p⟩ := Out.of o1
  unfold zipDD at e
  split at e
  · split at e
    · rename_i x y _ _ a b ea eb
      split at e
      · rename_i hs
        cases e
        obtain ⟨v, u, rfl, g1, g2⟩ := reps2 r1
        obtain ⟨k1, a1, rfl, m1, m2, m3⟩ := items_repS w1 g1 ea
        obtain ⟨k2, a2, rfl, m4, m5, m6⟩ := items_repS w1 g2 eb
        obtain ⟨vs1, s1⟩ := sqD_now w1 m1 m2
        obtain ⟨vs2, s2⟩ := sqD_now w1 m4 m5
        exact ⟨a1, a2, k1, k2, vs1, vs2, rfl, s1, s2, p _ H1 F1 ρ1 x1 w1 (dpOk_app.mpr ⟨m2, m5⟩) (.zip m1 m4 m3 hs)⟩
      · cases e
    · cases e
  · cases e
theorem di_zipD0 {ma : MA} (hg : Gl X "zip") (hm : X.mg "zip" = none) (ha : DA X n W ma [e, e2])
    (hs : starEach [e, e2] X.env = (false, eval e X.env) :: starEach [e2] X.env := by rfl) (hpl : (backTo pos (starEach [e2] X.env)).any (·.1) = false := by rfl) :
    DID X n W (mZipD false ma) (.Tuple elts kk tpos) (.Call (.Name "zip" p) [e, e2] [] pos) :=
  PI.weak (pi_zs0 hg hm ha hs hpl) fun σ H Q q => zipD_go q
theorem di_zipD1 {ma : MA} {p2 kp : Pos} {jj} (hg : Gl X "zip") (hm : X.mg "zip" = none) (ha : DA X n W ma [e, e2])
    (hs : backTo pos (starEach [e, e2] X.env) = (false, eval e X.env) :: backTo pos (starEach [e2] X.env) := by rfl) (hpl : (backTo pos (starEach [e, e2] X.env)).any (·.1) = false := by rfl)
    (hk1 : (backToKw pos (keywordEach [⟨some (Str.ofString "strict"), .Constant (.bool true) jj p2, kp⟩] X.env)).all (·.1.isSome) = true := by rfl) (hk2 : (backToKw pos (keywordEach [⟨some (Str.ofString "strict"), .Constant (.bool true) jj p2, kp⟩] X.env)).any (·.1.isNone) = false := by rfl)
    (hk3 : (backToKw pos (keywordEach [⟨some (Str.ofString "strict"), .Constant (.bool true) jj p2, kp⟩] X.env)).filterMap (·.1) = [Str.ofString "strict"] := by rfl) :
    DID X n W (mZipD true ma) (.Tuple elts kk tpos) (.Call (.Name "zip" p) [e, e2] [⟨some (Str.ofString "strict"), .Constant (.bool true) jj p2, kp⟩] pos) :=
  PI.weak (pi_zs1 hg hm ha hs hpl hk1 hk2 hk3) fun σ H Q q => zipD_go q
def enDD (S : Store) : List D → Option (List D × Dep)
  | [x] => (itemsS S x).map fun a => (numL a.1 0, a.2)
  | _ => none
def mEnD (m : MA) : MID := fun σ S => (m σ S).bind fun ds S1 => R.of (enDD S1 ds) S1
theorem ItD.en {K : PySem.W.Frag} {mg} {F : Hp} {ρ : List Addr} {k : Bool} {a : Addr} {ds : List D} {dp : Dep} (h1 : SqD K mg k F ρ a dp ds) (hl : ds.length ≤ sizeLine) :
    ItD K mg (Iek K k a) F ρ dp (numL ds 0) where
  len := by rw [numL_len]; exact hl
  go := fun i F' H ρ' S e p w hd hi => by
    rw [numL_len] at hi
    obtain ⟨vs, s1, r1⟩ := h1 F' H ρ' S e p w hd
    obtain ⟨x, g1, _⟩ := r1.get (List.getElem?_eq_getElem hi)
    exact ⟨vs, x, s1, g1⟩
  stop := fun F' H ρ' S e p w hd => by
    obtain ⟨vs, s1, r1⟩ := h1 F' H ρ' S e p w hd
    exact ⟨vs, s1, by rw [numL_len, r1.length]⟩
  yld := fun i F' H ρ' S x H' d e p w hd hx y => by
    obtain ⟨vs, s1, r1⟩ := h1 F' H ρ' S e p w hd
    obtain ⟨T, v1, rfl, hT, rfl, y1⟩ := y
    obtain ⟨d1, rfl, e1⟩ := numL_get hx
    obtain ⟨u1, g1, q1⟩ := r1.get e1
    have z1 := y1 vs s1
    rw [g1] at z1
    cases z1
    rw [Nat.zero_add]
    have x := ext_new (ρ := ρ') (o := .tup [.int (i : Nat), v1]) hT (w.fnone hT)
    refine ⟨_, x, w0_new w hT, .t (.inl (.inl upd_same)) ?_ (by show 2 ≤ sizeLine; decide)⟩
    exact x.reps ⟨.int (i : Nat), [v1], rfl, rfl, v1, [], rfl, q1, rfl⟩
theorem di_enD {ma : MA} (hg : Gl X "enumerate") (hm : X.mg "enumerate" = none) (ha : DA X n W ma [e]) (hs : starEach [e] X.env = [(false, eval e X.env)] := by rfl) :
    DID X n W (mEnD ma) (.Tuple elts kk tpos) (.Call (.Name "enumerate" p) [e] [] pos) := by
  refine PI.weak (pi_en hg hm ha hs) fun σ H Q q => ?_
  obtain ⟨F, ρ, σd, S, rs, o⟩ := q
  refine ⟨F, ρ, σd, S, rs, Out.bind o fun ds S1 o1 vs H1 F1 ρ1 x1 w1 r1 => ?_⟩
  obtain ⟨ps, e, p⟩ := Out.of o1
  unfold enDD at e
  split at e
  · rename_i _ x
    cases ea : itemsS S1 x with
    | none => rw [ea] at e; cases e
    | some a =>
      rw [ea] at e
      cases e
      obtain ⟨v, rfl, g1⟩ := reps1 r1
      obtain ⟨k1, a1, rfl, m1, m2, m3⟩ := items_repS w1 g1 ea
      obtain ⟨vs1, s1⟩ := sqD_now w1 m1 m2
      exact ⟨a1, k1, vs1, rfl, s1, p _ H1 F1 ρ1 x1 w1 m2 (.en m1 m3)⟩
  · cases e
end
end PL

set_option Elab.async false
set_option linter.all false
set_option maxRecDepth 100000
set_option maxHeartbeats 4000000
namespace PL
open PySem PySem.Spec PyProof.Rows L2
/-! ### range with a step -/
def rangeC (lo c : Int) (n : Nat) : List D := (List.range n).map fun (i : Nat) => .int (lo + (i : Nat) * c)
theorem rangeC_len (lo c : Int) (n : Nat) : (rangeC lo c n).length = n := by
  unfold rangeC
  rw [List.length_map, List.length_range]
theorem rangeC_get {lo c : Int} {n i : Nat} {d : D} (h : (rangeC lo c n)[i]? = some d) : i < n ∧ d = .int (lo + (i : Nat) * c) := by
  unfold rangeC at h
  rw [List.getElem?_map] at h
  by_cases hi : i < n
  · rw [List.getElem?_range hi] at h
    cases h
    exact ⟨hi, rfl⟩
  · rw [List.getElem?_eq_none (by rw [List.length_range]; omega)] at h
    cases h
theorem ItOk.rangeC {K : PySem.W.Frag} {mg} {F : Hp} {ρ : List Addr} {lo c : Int} {m : Nat} (hl : m ≤ sizeLine) : ItOk K mg (Itc lo c m) F ρ (rangeC lo c m) where
  len := by rw [rangeC_len]; exact hl
  go := fun i F' H ρ' S e p w hi => by rw [rangeC_len] at hi; exact hi
  stop := fun F' H ρ' S e p w => by rw [rangeC_len]; exact Nat.le_refl _
  yld := fun i F' H ρ' S x H' d e p w hd y => by
    obtain ⟨rfl, rfl⟩ := y
    obtain ⟨_, rfl⟩ := rangeC_get hd
    exact ⟨F', .refl _ _ _, w, .i _⟩
def cntC (i j c : Int) : Nat := if i < j then ((j - i - 1) / c + 1).toNat else 0
theorem cntC_le {i j c : Int} (hc : 0 < c) : (cntC i j c : Int) ≤ (if i < j then j - i else 0) := by
  unfold cntC
  split
  · have := Int.ediv_le_self c (show (0 : Int) ≤ j - i - 1 by omega)
    have := Int.ediv_nonneg (a := j - i - 1) (b := c) (by omega) (by omega)
    omega
  · simp
theorem size_cnt {i j c : Int} (hc : 0 < c) : Builtin.Range.rangeSize i j c = (cntC i j c : Int) := by
  unfold Builtin.Range.rangeSize cntC
  rw [if_pos (by omega)]
  split
  · have := Int.ediv_nonneg (a := j - i - 1) (b := c) (by omega) (by omega)
    omega
  · rfl
def OkC (i j c : Int) : Prop := 0 < c ∧ c < 1073741824 ∧ -(2 ^ 61) ≤ i ∧ i < 2 ^ 61 ∧ -(2 ^ 61) ≤ j ∧ j < 2 ^ 61 ∧ j - i ≤ 16777216
instance (i j c : Int) : Decidable (OkC i j c) := inferInstanceAs (Decidable (_ ∧ _))
theorem OkC.rg {i j c : Int} (h : OkC i j c) : RgC i j c (cntC i j c) := by
  obtain ⟨h1, h2, h3, h4, h5, h6, h7⟩ := h
  have hn := cntC_le (i := i) (j := j) h1
  refine ⟨by omega, by omega, ?_, size_cnt h1⟩
  unfold Builtin.Range.small
  rw [size_cnt h1]
  simp only [Builtin.Range.rangeFitsLong, Bool.and_eq_true, Bool.or_eq_true, decide_eq_true_eq, beq_iff_eq, if_pos (show c > 0 by omega)]
  split at hn <;> refine ⟨⟨⟨⟨⟨by omega, by omega⟩, by omega, by omega⟩, by omega, by omega⟩, by omega, by omega⟩, .inr ⟨by omega, by omega⟩⟩
def mR3 (a : MA) : MI := fun σ S => (a σ S).bind fun ds S1 => match ds with
  | [.int i, .int j, .int c] => if OkC i j c then .ok (rangeC i c (cntC i j c)) S1 else .bad
  | _ => .bad
section
variable {X : Cx} {n : En} {W : WS} {pos : Pos} {tg : Expr}
theorem reps3 {K : PySem.W.Frag} {F : Hp} {ρ : List Addr} {d e f : D} {vs : List V} (r : Reps K F ρ [d, e, f] vs) : ∃ v u x, vs = [v, u, x] ∧ Rep K F ρ d v ∧ Rep K F ρ e u ∧ Rep K F ρ f x := by
  unfold Reps at r
  obtain ⟨v, r1, rfl, h1, h2⟩ := r
  obtain ⟨u, x, rfl, h3, h4⟩ := reps2 h2
  exact ⟨v, u, x, rfl, h1, h3, h4⟩
theorem di_range3 {a b c : Expr} {ma : MA} {p : Pos} (hg : Gl X "range") (hm : X.mg "range" = none) (ha : DA X n W ma [a, b, c])
    (hs : starEach [a, b, c] X.env = (false, eval a X.env) :: starEach [b, c] X.env := by rfl) (hpl : (backTo pos (starEach [b, c] X.env)).any (·.1) = false := by rfl) :
    DI X n W (mR3 ma) tg (.Call (.Name "range" p) [a, b, c] [] pos) := by
  refine PI.weak (pi_range3 hg hm ha hs hpl) fun σ H Q q => ?_
  obtain ⟨F, ρ, σd, S, rs, o⟩ := q
  refine ⟨F, ρ, σd, S, rs, Out.bind o fun ds S1 o1 vs H1 F1 ρ1 x1 w1 r1 => ?_⟩
  split at o1
  · rename_i i j c
    split at o1
    · rename_i hj
      obtain ⟨v, u, x, rfl, h1, h2, h3⟩ := reps3 r1
      rw [rep_int h1, rep_int h2, rep_int h3]
      have hn := cntC_le (i := i) (j := j) hj.1
      have h7 := hj.2.2.2.2.2.2
      exact ⟨i, j, c, _, rfl, hj.rg, o1 _ H1 F1 ρ1 x1 w1 (.rangeC (by rw [sizeLine_eq]; split at hn <;> omega))⟩
    · exact o1.elim
  · exact o1.elim
/-! ### (a, b, ..) = a list that stays as it is -/
def gU (r : MGs) : MG := fun d σ => match d with
  | .lst ds => r ds σ
  | _ => none
theorem dg_unl {is : List Nat} {r : MGs} {es : List Expr} {k m : Nat} [l : LenG r m] (hc : X.calm = true) (h : DGs X n is r es) (hn : (assignEach es X.env).length = m := by rfl) (hst : (assignEach es X.env).findIdx? (·.1) = none := by rfl) : DG X n is (gU r) (.Tuple es k pos) := by
  refine PG.weak (pg_unl hc h hn hst) fun v σ H Q q => ?_
  obtain ⟨F, ρ, σd, S, d, σd', rs, rr, e, q⟩ := q
  unfold gU at e
  split at e
  · rename_i ds
    obtain ⟨a, vs, rfl, h1, h2, h3⟩ := lst_of rs.w rr rfl
    exact ⟨a, vs, rfl, h1, by rw [h2.length, l.len _ _ _ e], F, ρ, σd, S, ds, σd', rs, h2, e, q⟩
  · cases e
end
/-! how they run -/
section
variable {σ : Sls} {S : Store} {ma : MA} {r : MGs} {ds : List D}
def r3C (c : Bool) (i k : Int) (n : Nat) (S : Store) : R (List D) := if c = true then .ok (rangeC i k n) S else .bad
def r3K (r : R (List D)) : R (List D) := r.bind fun ds S1 => match ds with
  | [.int i, .int j, .int c] => r3C (decide (OkC i j c)) i c (cntC i j c) S1
  | _ => .bad
theorem e_r3 : mR3 ma σ S = r3K (ma σ S) := by
  unfold mR3 r3K r3C R.bind
  cases ma σ S with
  | ok ds S1 => simp only [decide_eq_true_eq]
  | exc _ _ _ => rfl
  | bad => rfl
theorem r3_ok {i j c : Int} (h : OkC i j c) : r3K (.ok [.int i, .int j, .int c] S) = .ok (rangeC i c (cntC i j c)) S := by
  show r3C (decide (OkC i j c)) i c (cntC i j c) S = _
  unfold r3C
  rw [decide_eq_true h, if_pos rfl]
theorem e_gU : gU r (.lst ds) σ = r ds σ := rfl
end
end PL

set_option Elab.async false
set_option linter.all false
set_option maxRecDepth 100000
set_option maxHeartbeats 4000000
namespace PL
open PySem PySem.Spec PyProof.Rows L2
/-! ### sorted: lists of tuples of ints and texts of one shape -/
abbrev SK1 := List (Int ⊕ List Nat)
def slt (a b : SK1) : Bool := PyProof.Rows.lexLt itemOrd a b
def rowV (sh : Nat → Bool) : Nat → List V → Option SK1
  | _, [] => some []
  | i, .int n :: r => if sh i = true then none else (rowV sh (i + 1) r).map (Sum.inl n :: ·)
  | i, .str x :: r => if sh i = true then (rowV sh (i + 1) r).map (Sum.inr x.cps.toList :: ·) else none
  | _, _ :: _ => none
def rowK (sh : Nat → Bool) : Nat → List D → Option SK1
  | _, [] => some []
  | i, .int n :: r => if sh i = true then none else (rowK sh (i + 1) r).map (Sum.inl n :: ·)
  | i, .str x :: r => if sh i = true then (rowK sh (i + 1) r).map (Sum.inr x.cps.toList :: ·) else none
  | _, _ :: _ => none
theorem rowV_items {sh : Nat → Bool} : ∀ {i : Nat} {xs : List V} {us : List Value}, Vals xs us → tupItems sh i us = rowV sh i xs
  | i, _, _, .nil => by unfold rowV tupItems; rfl
  | i, x :: xs, u :: us, .cons r t => by
    cases x with
    | int n =>
      obtain ⟨tk, rfl⟩ := r
      unfold rowV tupItems
      rw [rowV_items t]
    | str z =>
      obtain ⟨tk, rfl⟩ := r
      unfold rowV tupItems
      rw [rowV_items t]
    | non => cases r; unfold rowV tupItems; rfl
    | bl b => cases r; unfold rowV tupItems; rfl
    | ref a => cases r; unfold rowV tupItems; rfl
    | byt b => obtain ⟨tk, rfl⟩ := r; unfold rowV tupItems; rfl
    | flt b => obtain ⟨tk, rfl⟩ := r; unfold rowV tupItems; rfl
    | ty n => cases r; unfold rowV tupItems; rfl
theorem rowK_int {sh : Nat → Bool} {i : Nat} {n : Int} {r : List D} {l : SK1} (h : rowK sh i (.int n :: r) = some l) : ¬ sh i = true ∧ ∃ l', rowK sh (i + 1) r = some l' ∧ l = Sum.inl n :: l' := by
  simp only [rowK] at h
  by_cases hs : sh i = true
  · rw [if_pos hs] at h; cases h
  · rw [if_neg hs] at h
    cases e : rowK sh (i + 1) r with
    | none => rw [e] at h; cases h
    | some l' => rw [e] at h; cases h; exact ⟨hs, l', rfl, rfl⟩
theorem rowK_str {sh : Nat → Bool} {i : Nat} {n : Str} {r : List D} {l : SK1} (h : rowK sh i (.str n :: r) = some l) : sh i = true ∧ ∃ l', rowK sh (i + 1) r = some l' ∧ l = Sum.inr n.cps.toList :: l' := by
  simp only [rowK] at h
  by_cases hs : sh i = true
  · rw [if_pos hs] at h
    cases e : rowK sh (i + 1) r with
    | none => rw [e] at h; cases h
    | some l' => rw [e] at h; cases h; exact ⟨hs, l', rfl, rfl⟩
  · rw [if_neg hs] at h; cases h
theorem rowK_cons {sh : Nat → Bool} {i : Nat} {d : D} {r : List D} {l : SK1} (h : rowK sh i (d :: r) = some l) : (∃ n, d = .int n) ∨ ∃ x, d = .str x := by
  cases d with
  | int n => exact .inl ⟨n, rfl⟩
  | str x => exact .inr ⟨x, rfl⟩
  | _ => simp only [rowK] at h; cases h
theorem rowK_rep {K : PySem.W.Frag} {F : Hp} {ρ : List Addr} {sh : Nat → Bool} : ∀ (ds : List D) {i : Nat} {vs : List V} {l : SK1}, Reps K F ρ ds vs → rowK sh i ds = some l → rowV sh i vs = some l
  | [], i, vs, l, r, e => by
    unfold Reps at r
    rw [r]
    simp only [rowK] at e
    simp only [rowV]
    exact e
  | d :: ds, i, vs, l, r, e => by
    unfold Reps at r
    obtain ⟨v, vs', rfl, h1, h2⟩ := r
    rcases rowK_cons e with ⟨n, rfl⟩ | ⟨x, rfl⟩
    · obtain ⟨hs, l', e', rfl⟩ := rowK_int e
      rw [rep_int h1]
      simp only [rowV]
      rw [if_neg hs, rowK_rep ds h2 e']
      rfl
    · obtain ⟨hs, l', e', rfl⟩ := rowK_str e
      rw [rep_str h1]
      simp only [rowV]
      rw [if_pos hs, rowK_rep ds h2 e']
      rfl
/-- x is a tuple whose items have the key l -/
def KeyV (K : PySem.W.Frag) (H : Hp) (sh : Nat → Bool) (x : V) (l : SK1) : Prop := ∃ t xs, x = .ref t ∧ SqT K H t xs ∧ rowV sh 0 xs = some l ∧ l ≠ []
def rSrt (K : PySem.W.Frag) (sh : Nat → Bool) : List V → Hp → VK → Prop := fun vs H Q => ∃ (a : Addr) (xs : List V), vs = [V.ref a] ∧ SqL K H a xs ∧ (∀ x ∈ xs, ∃ l, KeyV K H sh x l) ∧
  ∀ (ys : List V) (p : Addr), ys.Perm xs → ys.Pairwise (fun x y => ∀ l m, KeyV K H sh x l → KeyV K H sh y m → slt m l = false) → H p = none → Q (.ref p) (upd H p (.lst ys))
section
variable {X : Cx} {pins : List (Addr × Obj)} {σ : L2.St} {H : Hp} {s : Shared}
theorem keyV_raw (I : Inv X pins σ H s) {sh : Nat → Bool} {t : Addr} {l : SK1} (h : KeyV X.K H sh (.ref t) l) : G.tupKeyC s.heap sh (.ref t) = some l ∧ ∃ f, TupOf s.heap sh (.ref t) f := by
  obtain ⟨t', xs, e, hq, hr, hn⟩ := h
  cases e
  obtain ⟨its, rv, ⟨o, ho, hc, n, hd⟩, _⟩ := I.tuple hq
  have hi := rowV_items (sh := sh) (i := 0) rv
  rw [hr] at hi
  constructor
  · unfold G.tupKeyC
    have hT : G.isTupObj s.heap (.ref t) = true := by
      unfold G.isTupObj
      simp only [ho, hc]
      rfl
    rw [if_pos hT]
    unfold tupKey
    simp only [ho, hd]
    exact hi
  · cases its with
    | nil =>
      unfold tupItems at hi
      cases hi
      exact (hn rfl).elim
    | cons u us =>
      refine ⟨u, t, o, _, n, rfl, ho, hc, hd, rfl, fun h0 => ?_, fun h0 => ?_⟩
      · unfold tupItems at hi
        split at hi
        · rename_i e; cases e
        · rename_i k tk r e; cases e; exact ⟨_, _, rfl⟩
        · rename_i k tk r e
          rw [if_neg (by rw [h0]; exact Bool.false_ne_true)] at hi
          cases hi
        · cases hi
      · unfold tupItems at hi
        split at hi
        · rename_i e; cases e
        · rename_i k tk r e
          rw [if_pos h0] at hi
          cases hi
        · rename_i k tk r e; cases e; exact ⟨_, _, rfl⟩
        · cases hi
theorem tupsOf_all {h : Heap} {sh : Nat → Bool} : ∀ {us : List Value}, (∀ u ∈ us, ∃ f, TupOf h sh u f) → ∃ fs, TupsOf h sh us fs
  | [], _ => ⟨[], .nil⟩
  | u :: us, q => by
    obtain ⟨f, hf⟩ := q u List.mem_cons_self
    obtain ⟨fs, hfs⟩ := tupsOf_all fun v hv => q v (List.mem_cons_of_mem _ hv)
    exact ⟨f :: fs, .cons hf hfs⟩
theorem call_srt {X : Cx} (sh : Nat → Bool) : CallR X (.builtin "sorted") (rSrt X.K sh) := by
  intro pins s σ H vs us Q I r h
  obtain ⟨a, xs, rfl, hl, hk, q⟩ := h
  obtain ⟨its, rv, hL, hz⟩ := I.list hl
  rw [Vals.ref1 r]
  obtain ⟨ex, er⟩ := bkV_refs rv fun x hx => by
    obtain ⟨l, t, _, e, _⟩ := hk x hx
    exact ⟨t, e⟩
  have raw : ∀ u ∈ its, ∃ t, u = .ref t ∧ ∃ l, KeyV X.K H sh (.ref t) l := fun u hu => by
    obtain ⟨t, rfl⟩ := er u hu
    have hm : V.ref t ∈ xs := by rw [ex]; exact List.mem_map_of_mem hu
    obtain ⟨l, hl⟩ := hk _ hm
    exact ⟨t, rfl, l, hl⟩
  obtain ⟨fs, hfs⟩ := tupsOf_all (h := s.heap) (sh := sh) (us := its) fun u hu => by
    obtain ⟨t, rfl, l, hl⟩ := raw u hu
    exact (keyV_raw I hl).2
  have hz' : its.length ≤ sizeLine := by rw [← rv.length]; exact hz
  refine G.sorted_tups hL.isList hfs (fun u hu => ?_) hz' fun st hp hs _ => ?_
  · obtain ⟨t, rfl, l, hl⟩ := raw u hu
    exact ⟨l, (keyV_raw I hl).1⟩
  have hpl : (arrOf st).toList.Perm (its.zip its) := by
    have := Array.perm_iff_toList_perm.mp hp
    rwa [pairsOf_toList] at this
  have hsame : ∀ p ∈ (arrOf st).toList, p.1 = p.2 ∧ p.1 ∈ its := fun p hp' => mem_zip_self (hpl.mem_iff.mp hp')
  have hperm : ((arrOf st).toList.map Prod.snd).Perm its := by
    have := hpl.map Prod.snd
    rwa [List.map_snd_zip (Nat.le_refl _)] at this
  obtain ⟨ep, hat⟩ := sortedAll_at s.heap its ((arrOf st).map (·.2))
  have hout : ((arrOf st).map (·.2)).toList = (arrOf st).toList.map Prod.snd := by rw [Array.toList_map]
  have hrf : ∀ u ∈ ((arrOf st).map (·.2)).toList, ∃ t, u = Value.ref t := fun u hu => by
    rw [hout] at hu
    exact er u (hperm.mem_iff.mp hu)
  have hxp : (((arrOf st).map (·.2)).toList.map bkV).Perm xs := by
    rw [hout, ex]
    exact hperm.map bkV
  have hsz : (((arrOf st).map (·.2)).toList.map bkV).length ≤ sizeLine := by rw [hxp.length_eq]; exact hz
  refine ⟨.ref (s.heap.objs.size + 1), upd H (s.heap.objs.size + 1) (.lst (((arrOf st).map (·.2)).toList.map bkV)), ?_, rfl, q _ _ hxp ?_ (I.hok.fresh (Nat.le_succ _))⟩
  · exact I.laid (t' := s.toks) (fun _ _ => sortedAll_old) (Nat.le_succ _) ⟨hsz, _, ep, bkV_vals hrf, hat⟩
  rw [hout, List.map_map, List.pairwise_map, List.pairwise_iff_getElem]
  intro i j hi hj hij l m hl hm
  have hsj := hs i j (Nat.le_of_lt hij) (by
    rw [pairsOf_size, ← hperm.length_eq, List.length_map]; exact hj)
  have kk : ∀ (k : Nat) (hk' : k < (arrOf st).toList.length) (l : SK1), KeyV X.K H sh (bkV ((arrOf st).toList[k]).2) l → KK (G.tupKindC s.heap sh) (arrOf st) k = l := fun k hk' l hl => by
    have hk2 : k < (arrOf st).size := by simpa using hk'
    have hmem := hsame _ (List.getElem_mem hk')
    obtain ⟨t, ht, _⟩ := raw _ hmem.2
    rw [← hmem.1, ht] at hl
    have e := (keyV_raw I (t := t) hl).1
    unfold KK
    rw [Array.getElem?_eq_getElem hk2]
    have e3 : (arrOf st)[k] = (arrOf st).toList[k] := by simp
    simp only
    rw [e3, ht]
    show (G.tupKeyC s.heap sh (.ref t)).getD [] = l
    rw [e]; rfl
  rw [kk i hi l hl, kk j hj m hm] at hsj
  exact hsj
end
/-! the sorted list as a function of the data -/
def keyD (sh : Nat → Bool) : D → SK1
  | .tup ds => (rowK sh 0 ds).getD []
  | _ => []
def okRow (sh : Nat → Bool) : D → Bool
  | .tup ds => match rowK sh 0 ds with
    | some (_ :: _) => true
    | _ => false
  | _ => false
def insD (sh : Nat → Bool) (d : D) : List D → List D
  | [] => [d]
  | e :: es => if slt (keyD sh e) (keyD sh d) = true then e :: insD sh d es else d :: e :: es
def isortD (sh : Nat → Bool) : List D → List D
  | [] => []
  | d :: ds => insD sh d (isortD sh ds)
def shapeOf : List D → Nat → Bool
  | .tup ds :: _, i => match ds[i]? with
    | some (.str _) => true
    | _ => false
  | _, _ => false
theorem insD_perm {sh : Nat → Bool} {d : D} : ∀ {es : List D}, (insD sh d es).Perm (d :: es)
  | [] => .refl _
  | e :: es => by
    unfold insD
    split
    · exact ((insD_perm (es := es)).cons e).trans (.swap d e es)
    · exact .refl _
theorem isortD_perm {sh : Nat → Bool} : ∀ {ds : List D}, (isortD sh ds).Perm ds
  | [] => .refl _
  | d :: ds => by
    unfold isortD
    exact insD_perm.trans ((isortD_perm (ds := ds)).cons d)
theorem slt_trans {a b c : SK1} : slt a b = true → slt b c = true → slt a c = true := lex_trans (O := itemOrd) a b c
theorem slt_neg {a b c : SK1} (h1 : slt b a = false) (h2 : slt c b = false) : slt c a = false := by
  cases h : slt c a with
  | false => rfl
  | true =>
    rcases lex_negTrans (O := itemOrd) c b a h with z | z
    · rw [show slt c b = true from z] at h2; cases h2
    · rw [show slt b a = true from z] at h1; cases h1
theorem slt_asymm {a b : SK1} (h : slt a b = true) : slt b a = false := by
  cases h2 : slt b a with
  | false => rfl
  | true =>
    have := slt_trans h h2
    rw [show slt a a = false from lex_irrefl (O := itemOrd) a] at this
    cases this
def LeD (sh : Nat → Bool) (x y : D) : Prop := slt (keyD sh y) (keyD sh x) = false
theorem insD_sorted {sh : Nat → Bool} {d : D} : ∀ {es : List D}, es.Pairwise (LeD sh) → (insD sh d es).Pairwise (LeD sh)
  | [], _ => List.pairwise_singleton _ _
  | e :: es, h => by
    have h1 := List.pairwise_cons.mp h
    unfold insD
    split
    · rename_i hlt
      refine List.pairwise_cons.mpr ⟨fun z hz => ?_, insD_sorted h1.2⟩
      rcases List.mem_cons.mp (insD_perm.mem_iff.mp hz) with rfl | hz
      · exact slt_asymm hlt
      · exact h1.1 z hz
    · rename_i hge
      have hge' : LeD sh d e := by unfold LeD; simpa using hge
      refine List.pairwise_cons.mpr ⟨fun z hz => ?_, h⟩
      rcases List.mem_cons.mp hz with rfl | hz
      · exact hge'
      · exact slt_neg hge' (h1.1 z hz)
theorem isortD_sorted {sh : Nat → Bool} : ∀ {ds : List D}, (isortD sh ds).Pairwise (LeD sh)
  | [] => .nil
  | d :: ds => by
    unfold isortD
    exact insD_sorted isortD_sorted
theorem cps_inj {x y : Str} (h : x.cps.toList = y.cps.toList) : x = y := by
  have : x.cps = y.cps := Array.toList_inj.mp h
  cases x; cases y
  simp only [Str.mk.injEq]
  exact this
theorem rowK_inj {sh : Nat → Bool} : ∀ (ds es : List D) {i : Nat} {l : SK1}, rowK sh i ds = some l → rowK sh i es = some l → ds = es
  | [], [], i, l, _, _ => rfl
  | [], e :: es, i, l, h1, h2 => by
    simp only [rowK] at h1
    cases h1
    rcases rowK_cons h2 with ⟨n, rfl⟩ | ⟨x, rfl⟩
    · obtain ⟨_, l', _, e'⟩ := rowK_int h2; cases e'
    · obtain ⟨_, l', _, e'⟩ := rowK_str h2; cases e'
  | d :: ds, [], i, l, h1, h2 => by
    simp only [rowK] at h2
    cases h2
    rcases rowK_cons h1 with ⟨n, rfl⟩ | ⟨x, rfl⟩
    · obtain ⟨_, l', _, e'⟩ := rowK_int h1; cases e'
    · obtain ⟨_, l', _, e'⟩ := rowK_str h1; cases e'
  | d :: ds, e :: es, i, l, h1, h2 => by
    rcases rowK_cons h1 with ⟨n, rfl⟩ | ⟨x, rfl⟩
    · obtain ⟨hs, l1, e1, rfl⟩ := rowK_int h1
      rcases rowK_cons h2 with ⟨m, rfl⟩ | ⟨y, rfl⟩
      · obtain ⟨_, l2, e2, z⟩ := rowK_int h2
        cases z
        rw [rowK_inj ds es e1 e2]
      · exact (hs (rowK_str h2).1).elim
    · obtain ⟨hs, l1, e1, rfl⟩ := rowK_str h1
      rcases rowK_cons h2 with ⟨m, rfl⟩ | ⟨y, rfl⟩
      · exact ((rowK_int h2).1 hs).elim
      · obtain ⟨_, l2, e2, z⟩ := rowK_str h2
        have z1 := List.cons.inj z
        have z2 := cps_inj (Sum.inr.inj z1.1)
        subst z2
        rw [← z1.2] at e2
        rw [rowK_inj ds es e1 e2]
theorem okRow_some {sh : Nat → Bool} {x : D} (h : okRow sh x = true) : ∃ ds l, x = .tup ds ∧ rowK sh 0 ds = some l ∧ l ≠ [] ∧ keyD sh x = l := by
  cases x with
  | tup ds =>
    simp only [okRow] at h
    cases e : rowK sh 0 ds with
    | none => rw [e] at h; cases h
    | some l =>
      rw [e] at h
      refine ⟨ds, l, rfl, e, fun z => ?_, by simp only [keyD]; rw [e]; rfl⟩
      rw [z] at h
      cases h
  | _ => simp only [okRow] at h; cases h
theorem okRow_inj {sh : Nat → Bool} {x y : D} (hx : okRow sh x = true) (hy : okRow sh y = true) (h : keyD sh x = keyD sh y) : x = y := by
  obtain ⟨ds, l, rfl, e1, _, k1⟩ := okRow_some hx
  obtain ⟨es, m, rfl, e2, _, k2⟩ := okRow_some hy
  rw [k1, k2] at h
  rw [← h] at e2
  rw [rowK_inj ds es e1 e2]
theorem sorted_uniq {sh : Nat → Bool} : ∀ {a b : List D}, a.Perm b → a.Pairwise (LeD sh) → b.Pairwise (LeD sh) → (∀ x ∈ a, okRow sh x = true) → a = b
  | [], b, hp, _, _, _ => by rw [List.nil_perm.mp hp]
  | x :: a, [], hp, _, _, _ => by have := hp.length_eq; simp at this
  | x :: a, y :: b, hp, ha, hb, hok => by
    have ha' := List.pairwise_cons.mp ha
    have hb' := List.pairwise_cons.mp hb
    have hxy : x = y := by
      have hx : x ∈ y :: b := hp.mem_iff.mp List.mem_cons_self
      have hy : y ∈ x :: a := hp.mem_iff.mpr List.mem_cons_self
      rcases List.mem_cons.mp hx with e | hx
      · exact e
      rcases List.mem_cons.mp hy with e | hy
      · exact e.symm
      have h1 := ha'.1 y hy
      have h2 := hb'.1 x hx
      exact okRow_inj (hok x List.mem_cons_self) (hok y (List.mem_cons_of_mem _ hy)) (lex_total (O := itemOrd) _ _ h2 h1)
    subst hxy
    rw [sorted_uniq (List.perm_cons x |>.mp hp) ha'.2 hb'.2 fun z hz => hok z (List.mem_cons_of_mem _ hz)]
theorem reps_permS {K : PySem.W.Frag} {F : Hp} {ρ : List Addr} {xs ys : List V} (h : ys.Perm xs) : ∀ {ds : List D}, Reps K F ρ ds xs → ∃ es : List D, es.Perm ds ∧ Reps K F ρ es ys := by
  induction h with
  | nil => exact fun {ds} r => ⟨ds, .refl _, r⟩
  | cons x h ih =>
    intro ds r
    cases ds with
    | nil => unfold Reps at r; cases r
    | cons d ds =>
      unfold Reps at r
      obtain ⟨v, r', e, h1, h2⟩ := r
      cases e
      obtain ⟨es, p, h3⟩ := ih h2
      exact ⟨d :: es, p.cons d, .cons h1 h3⟩
  | swap x y l =>
    intro ds r
    cases ds with
    | nil => unfold Reps at r; cases r
    | cons d ds =>
      unfold Reps at r
      obtain ⟨v, r', e, h1, h2⟩ := r
      cases e
      cases ds with
      | nil => unfold Reps at h2; cases h2
      | cons d2 ds =>
        unfold Reps at h2
        obtain ⟨v2, r2, e2, h3, h4⟩ := h2
        cases e2
        exact ⟨d2 :: d :: ds, .swap _ _ _, .cons h3 (.cons h1 h4)⟩
  | trans _ _ ih1 ih2 =>
    intro ds r
    obtain ⟨es, p, h1⟩ := ih2 r
    obtain ⟨fs, p2, h2⟩ := ih1 h1
    exact ⟨fs, p2.trans p, h2⟩
theorem okRow_key {K : PySem.W.Frag} {mg} {F H : Hp} {ρ : List Addr} {S : Store} {sh : Nat → Bool} {d : D} {v : V} (w : W0 K mg F H ρ S) (r : Rep K F ρ d v) (h : okRow sh d = true) : KeyV K H sh v (keyD sh d) := by
  obtain ⟨ds, l, rfl, e, hn, k⟩ := okRow_some h
  obtain ⟨t, xs, rfl, h1, h2, _⟩ := tup_of w r
  rw [k]
  exact ⟨t, xs, rfl, h1, rowK_rep ds h2 e, hn⟩
def sortD (S : Store) : List D → Option D
  | [x] => match lstOf S x with
    | some ds => if ds.all (okRow (shapeOf ds)) = true then some (.lst (isortD (shapeOf ds) ds)) else none
    | none => none
  | _ => none
theorem reps_pair {K : PySem.W.Frag} {F : Hp} {ρ : List Addr} {P : V → V → Prop} {R : D → D → Prop} (hPR : ∀ d e v u, Rep K F ρ d v → Rep K F ρ e u → P v u → R d e) : ∀ {ds : List D} {vs : List V}, Reps K F ρ ds vs → vs.Pairwise P → ds.Pairwise R
  | [], _, _, _ => .nil
  | d :: ds, vs, r, h => by
    unfold Reps at r
    obtain ⟨v, r', rfl, h1, h2⟩ := r
    have h' := List.pairwise_cons.mp h
    refine List.pairwise_cons.mpr ⟨fun e he => ?_, reps_pair hPR h2 h'.2⟩
    obtain ⟨i, hi, rfl⟩ := List.mem_iff_getElem.mp he
    obtain ⟨u, hu, ru⟩ := h2.get (List.getElem?_eq_getElem hi)
    exact hPR _ _ _ _ h1 ru (h'.1 u (List.mem_of_getElem? hu))
/-! built-in functions that give a new list -/
def CallL (X : Cx) (f : Value) (g : Store → List D → Option (List D)) : Prop := ∃ r, CallR X f r ∧
  ∀ mg F H ρ S ds vs ys Q, W0 X.K mg F H ρ S → Reps X.K F ρ ds vs → g S ds = some ys → (∀ us p, Reps X.K F ρ ys us → ys.length ≤ sizeLine → H p = none → Q (.ref p) (upd H p (.lst us))) → r vs H Q
def mBltL (g : Store → List D → Option (List D)) (a : MA) : M := fun σ S => (a σ S).bind fun ds S1 => match g S1 ds with
  | some ys => .ok (.lst ys) S1
  | none => .bad
def mBltN (g : Store → List D → Option (List D)) (a : MA) : M := fun σ S => (a σ S).bind fun ds S1 => match g S1 ds with
  | some ys => .ok (.ref S1.length) (S1 ++ [.lst ys])
  | none => .bad
section
variable {X : Cx} {n : En} {W : WS} {pos : Pos}
theorem bltL_ok {r : List V → Hp → VK → Prop} {g : Store → List D → Option (List D)} {ma : MA} (h : ∀ mg F H ρ S ds vs ys Q, W0 X.K mg F H ρ S → Reps X.K F ρ ds vs → g S ds = some ys → (∀ us p, Reps X.K F ρ ys us → ys.length ≤ sizeLine → H p = none → Q (.ref p) (upd H p (.lst us))) → r vs H Q)
    {σ : L2.St} {H : Hp} {Q : VK} (q : tM X.K X.mg n W (mBltL g ma) σ H Q) : tCB r (tMA X.K X.mg n W ma) σ H Q := by
  obtain ⟨F, ρ, σd, S, rs, o⟩ := q
  refine ⟨F, ρ, σd, S, rs, Out.bind o fun ds S1 o1 vs H1 F1 ρ1 x1 w1 r1 => ?_⟩
  split at o1
  · rename_i ys e
    exact h _ F1 H1 ρ1 S1 ds vs ys Q w1 r1 e fun us p hu hl hp => Post.lst (Post.next o1 x1) w1 hu hl p hp
  · exact o1.elim
theorem bltN_ok {r : List V → Hp → VK → Prop} {g : Store → List D → Option (List D)} {ma : MA} (h : ∀ mg F H ρ S ds vs ys Q, W0 X.K mg F H ρ S → Reps X.K F ρ ds vs → g S ds = some ys → (∀ us p, Reps X.K F ρ ys us → ys.length ≤ sizeLine → H p = none → Q (.ref p) (upd H p (.lst us))) → r vs H Q)
    {σ : L2.St} {H : Hp} {Q : VK} (q : tM X.K X.mg n W (mBltN g ma) σ H Q) : tCB r (tMA X.K X.mg n W ma) σ H Q := by
  obtain ⟨F, ρ, σd, S, rs, o⟩ := q
  refine ⟨F, ρ, σd, S, rs, Out.bind o fun ds S1 o1 vs H1 F1 ρ1 x1 w1 r1 => ?_⟩
  split at o1
  · rename_i ys e
    refine h _ F1 H1 ρ1 S1 ds vs ys Q w1 r1 e fun us p hu hl hp => ?_
    have x2 := ext_cell (ρ := ρ1) (F := F1) (o := .lst us) hp
    refine o1 (.ref p) _ _ _ (x1.trans x2) (w0_cell w1 hp ⟨us, upd_same, x2.reps hu, hl⟩) (.r ?_)
    rw [← w1.len, List.getElem?_append_right (Nat.le_refl _), Nat.sub_self]
    rfl
  · exact o1.elim
theorem de_bltL {id : String} {x : Str} {g : Store → List D → Option (List D)} {ma : MA} {e : Expr} {es : List Expr} {p : Pos} (hc : CallL X (.builtin id) g) (hg : Gl X x) (hm : X.mg x = none) (hv : bootBuiltins x = some (.builtin id)) (ha : DA X n W ma (e :: es))
    (hn : x ≠ "__name__" := by decide) (hdb : (x == ("__debug__" : Str)) = false := by decide) (hpl : (backTo pos (starEach es X.env)).any (·.1) = false := by rfl) (hs : starEach (e :: es) X.env = (false, eval e X.env) :: starEach es X.env := by rfl) :
    DE X n W (mBltL g ma) (.Call (.Name x p) (e :: es) [] pos) := by
  obtain ⟨r, h1, h2⟩ := hc
  exact PE.weak (pe_callB h1 hg hm hv ha hn hdb (hpl := hpl) (he := hs)) fun σ H Q q => bltL_ok h2 q
theorem de_bltN {id : String} {x : Str} {g : Store → List D → Option (List D)} {ma : MA} {e : Expr} {es : List Expr} {p : Pos} (hc : CallL X (.builtin id) g) (hg : Gl X x) (hm : X.mg x = none) (hv : bootBuiltins x = some (.builtin id)) (ha : DA X n W ma (e :: es))
    (hn : x ≠ "__name__" := by decide) (hdb : (x == ("__debug__" : Str)) = false := by decide) (hpl : (backTo pos (starEach es X.env)).any (·.1) = false := by rfl) (hs : starEach (e :: es) X.env = (false, eval e X.env) :: starEach es X.env := by rfl) :
    DE X n W (mBltN g ma) (.Call (.Name x p) (e :: es) [] pos) := by
  obtain ⟨r, h1, h2⟩ := hc
  exact PE.weak (pe_callB h1 hg hm hv ha hn hdb (hpl := hpl) (he := hs)) fun σ H Q q => bltN_ok h2 q
def sortL (S : Store) : List D → Option (List D)
  | [x] => match lstOf S x with
    | some ds => if ds.all (okRow (shapeOf ds)) = true then some (isortD (shapeOf ds) ds) else none
    | none => none
  | _ => none
theorem cl_sorted : CallL X (.builtin "sorted") sortL := by
  refine ⟨fun vs H Q => ∃ sh, rSrt X.K sh vs H Q, fun pins s σ H vs us Q I r ⟨sh, h⟩ => call_srt sh pins s σ H vs us Q I r h, fun mg F H ρ S ds vs ys Q w r e q => ?_⟩
  unfold sortL at e
  split at e
  · rename_i x
    split at e
    · rename_i es e0
      split at e
      · rename_i hok
        cases e
        obtain ⟨v, rfl, h1⟩ := reps1 r
        obtain ⟨a, xs, rfl, hl, hr, hz⟩ := lst_of w h1 e0
        rw [List.all_eq_true] at hok
        have key : ∀ {d : D} {v : V}, Rep X.K F ρ d v → okRow (shapeOf es) d = true → KeyV X.K H (shapeOf es) v (keyD (shapeOf es) d) := fun rd hd => okRow_key w rd hd
        refine ⟨shapeOf es, a, xs, rfl, hl, fun v hv => ?_, fun zs p hp hs hn => ?_⟩
        · obtain ⟨i, hi, rfl⟩ := List.mem_iff_getElem.mp hv
          have hi' : i < es.length := by rw [← hr.length]; exact hi
          obtain ⟨u, hu, ru⟩ := hr.get (List.getElem?_eq_getElem hi')
          rw [List.getElem?_eq_getElem hi] at hu
          cases hu
          exact ⟨_, key ru (hok _ (List.getElem_mem hi'))⟩
        · obtain ⟨fs, hf, hrf⟩ := reps_permS hp hr
          have hfok : ∀ d ∈ fs, okRow (shapeOf es) d = true := fun d hd => hok d (hf.mem_iff.mp hd)
          have hpw : fs.Pairwise fun d e => okRow (shapeOf es) d = true → okRow (shapeOf es) e = true → LeD (shapeOf es) d e :=
            reps_pair (fun d e v u rd re huv hd he => huv _ _ (key rd hd) (key re he)) hrf hs
          have hpw2 : fs.Pairwise (LeD (shapeOf es)) := List.Pairwise.imp_of_mem (fun {d e} hd he h => h (hfok d hd) (hfok e he)) hpw
          have heq := sorted_uniq (hf.trans isortD_perm.symm) hpw2 isortD_sorted hfok
          rw [← heq] at q
          exact q zs p hrf (by rw [hf.length_eq]; exact hz) hn
      · cases e
    · cases e
  · cases e
end
/-! how they run -/
def bltLK (g : Store → List D → Option (List D)) (r : R (List D)) : R D := r.bind fun ds S1 => match g S1 ds with
  | some ys => .ok (.lst ys) S1
  | none => .bad
def bltNK2 (o : Option (List D)) (S : Store) : R D := match o with
  | some ys => .ok (.ref S.length) (S ++ [.lst ys])
  | none => .bad
def bltLK2 (o : Option (List D)) (S : Store) : R D := match o with
  | some ys => .ok (.lst ys) S
  | none => .bad
def bltNK (g : Store → List D → Option (List D)) (r : R (List D)) : R D := r.bind fun ds S1 => bltNK2 (g S1 ds) S1
section
variable {g : Store → List D → Option (List D)} {σ : Sls} {S : Store} {ma : MA} {ds ys : List D} {x : D}
theorem e_bltL : mBltL g ma σ S = bltLK g (ma σ S) := rfl
theorem e_bltL1 : bltLK g (.ok ds S) = bltLK2 (g S ds) S := rfl
theorem e_bltL2 : bltLK2 (some ys) S = .ok (.lst ys) S := rfl
theorem e_bltN : mBltN g ma σ S = bltNK g (ma σ S) := rfl
theorem e_bltN1 : bltNK g (.ok ds S) = bltNK2 (g S ds) S := rfl
theorem e_bltN2 : bltNK2 (some ys) S = .ok (.ref S.length) (S ++ [.lst ys]) := rfl
theorem sortL_l (h : ds.all (okRow (shapeOf ds)) = true) : sortL S [.lst ds] = some (isortD (shapeOf ds) ds) := by
  show (if ds.all (okRow (shapeOf ds)) = true then some (isortD (shapeOf ds) ds) else none) = _
  rw [if_pos h]
end
end PL

set_option Elab.async false
set_option linter.all false
set_option maxRecDepth 100000
set_option maxHeartbeats 4000000
namespace PL
open PySem PySem.Spec PyProof.Rows L2
/-! ### comprehensions with two fors -/
def flatS (σ : Sls) : Bool := σ.all fun s => !s.owns
theorem RS.flat {K : PySem.W.Frag} {mg : Str → Option Value} {n : En} {F H F' H' : Hp} {ρ ρ' : List Addr} {σd : Sls} {S S' : Store} {σ : L2.St} (r : RS K mg n F H ρ σd S σ) (hf : flatS σd = true) (m : Mon F ρ F' ρ') (w : W0 K mg F' H' ρ' S') (en : Ext n.ρ n.F n.H ρ' F' H') : RS K mg n F' H' ρ' σd S' σ := by
  have no : ∀ i a, ¬ Own σd σ i a := fun i a ⟨⟨s, e, hs⟩, _⟩ => by
    have := List.all_eq_true.mp hf s (List.mem_of_getElem? e)
    rw [hs] at this
    cases this
  refine ⟨w, r.len, fun i s e => ?_, fun p q a _ h1 _ => (no p a h1).elim, fun p a h1 => (no p a h1).elim, en⟩
  obtain ⟨x, e1, e2⟩ := r.sl i s e
  refine ⟨x, e1, ?_⟩
  cases s with
  | no => trivial
  | val d =>
    obtain ⟨v, e3, e4⟩ := e2
    exact ⟨v, e3, m.rep e4⟩
  | _ =>
    have := List.all_eq_true.mp hf _ (List.mem_of_getElem? e)
    cases this
def lc2L (g : MG) (c : MB) (it1 : MI) (own1 : List Nat) (g1 : MG) (c1 : MB) (e : M) (σ : Sls) : List D → Store → R (List D)
  | [], S => .ok [] S
  | d :: ds, S => match g d σ with
    | none => .bad
    | some σ1 => if flatS σ1 = true then match c σ1 S with
      | .ok true S1 => match it1 σ1 S1 with
        | .ok es S2 => match lcL g1 c1 e (wipeS σ1 own1) es S2 with
          | .ok ys S3 => match lc2L g c it1 own1 g1 c1 e σ ds S3 with
            | .ok zs S4 => .ok (ys ++ zs) S4
            | _ => .bad
          | _ => .bad
        | _ => .bad
      | .ok false S1 => lc2L g c it1 own1 g1 c1 e σ ds S1
      | _ => .bad
      else .bad
/-- at most a thousand items in all -/
def mLc2 (it : MI) (own : List Nat) (g : MG) (c : MB) (it1 : MI) (own1 : List Nat) (g1 : MG) (c1 : MB) (e : M) : M := fun σ S => (it σ S).bind fun ds S1 => match lc2L g c it1 own1 g1 c1 e (wipeS σ own) ds S1 with
  | .ok ys S2 => if ys.length ≤ 1000000 then .ok (.lst ys) S2 else .bad
  | _ => .bad
section
variable {X : Cx} {n : En} {W : WS} {pos : Pos}
theorem lc2_ok {K : PySem.W.Frag} {mg : Str → Option Value} {n : En} {mi mi1 : MI} {g g1 : MG} {c c1 : MB} {e : M} {own own1 is is1 : List Nat} {σ : L2.St} {H : Hp} {Q : VK} (his : ∀ i ∈ is, i ∈ own) (his1 : ∀ i ∈ is1, i ∈ own1) (q : tM K mg n WN (mLc2 mi own g c mi1 own1 g1 c1 e) σ H Q) :
    tLc2 (tMI K mg n WN mi) (tMG K mg n is g) (tMB K mg n WN c) (tMI K mg n WN mi1) (tMG K mg n is1 g1) (tMB K mg n WN c1) (tM K mg n WN e) own own1 σ H Q := by
  obtain ⟨F, ρ, σd, S, rs, o⟩ := q
  refine ⟨F, ρ, σd, S, rs, Out.bind o fun ds S1 o1 J H1 F1 ρ1 x1 w1 itok dl hD => ?_⟩
  have rs1 := rs.next x1 w1
  have hF1 : F1 dl = none := w1.fnone hD
  have hρ1 : dl ∉ ρ1 := fun z => w1.there z hD
  let Fin : List D → R (List D) → Prop := fun acc r => Out r (fun zs S2 => (acc ++ zs).length ≤ 1000000 ∧ Post K mg ρ F H S2 (.lst (acc ++ zs)) Q) (fun _ _ _ => False)
  let Fin2 : Nat → List D → R (List D) → Prop := fun i acc r => Out r (fun ys S2 => Fin (acc ++ ys) (lc2L g c mi1 own1 g1 c1 e (wipeS σd own) (ds.drop (i + 1)) S2)) (fun _ _ _ => False)
  let Inv : Hp → Hp → List Addr → Store → List V → List D → Prop := fun Hc F2 ρ2 S2 acc accD => Ext ρ1 F1 H1 ρ2 F2 Hc ∧ W0 K mg F2 Hc ρ2 S2 ∧ Hc dl = some (.lst acc) ∧ F2 dl = none ∧ dl ∉ ρ2 ∧ Reps K F2 ρ2 accD acc
  have start : Fin [] (lc2L g c mi1 own1 g1 c1 e (wipeS σd own) ds S1) := by
    show Out _ _ _
    cases el : lc2L g c mi1 own1 g1 c1 e (wipeS σd own) ds S1 with
    | ok ys S2 =>
      rw [el] at o1
      simp only at o1
      split at o1
      · rename_i hl; exact ⟨hl, o1⟩
      · exact o1.elim
    | exc _ _ _ => rw [el] at o1; exact o1
    | bad => rw [el] at o1; exact o1
  refine ⟨fun i m Hc => m + i = ds.length ∧ ∃ F2 ρ2 S2 acc accD, Inv Hc F2 ρ2 S2 acc accD ∧ Fin accD (lc2L g c mi1 own1 g1 c1 e (wipeS σd own) (ds.drop i) S2),
    ⟨ds.length, rfl, F1, ρ1, S1, [], [], ⟨(Ext.refl _ _ _).updD hD, w1.off_upd hF1 hρ1, upd_same, hF1, hρ1, .nil⟩, start⟩, ?_⟩
  rintro i m Hc ⟨hm, F2, ρ2, S2, acc, accD, ⟨x2, w2, hD2, hF2, hρ2, r2⟩, o2⟩
  have rs2 := rs1.next x2 w2
  by_cases hi : i < ds.length
  · refine .inr ⟨itok.go i F2 Hc ρ2 S2 x2.fle x2.mon.pre w2 hi, fun Hc => ∃ F2 ρ2 S2 acc accD, Inv Hc F2 ρ2 S2 acc accD ∧ Fin accD (lc2L g c mi1 own1 g1 c1 e (wipeS σd own) (ds.drop (i + 1)) S2), fun Hc' ⟨F', ρ', S', a, aD, h1, h2⟩ => ⟨m - 1, by omega, by omega, F', ρ', S', a, aD, h1, h2⟩, fun x H3 hy => ?_⟩
    obtain ⟨F3, x3, w3, r3⟩ := itok.yld i F2 Hc ρ2 S2 x H3 ds[i] x2.fle x2.mon.pre w2 (List.getElem?_eq_getElem hi) hy
    obtain ⟨hD3, hF3, hρ3⟩ := x3.off hD2 hF2 hρ2
    have rs3 := rs2.next x3 w3
    rw [List.drop_eq_getElem_cons hi] at o2
    unfold lc2L at o2
    cases eg : g ds[i] (wipeS σd own) with
    | none => rw [eg] at o2; exact o2.elim
    | some σ3 =>
      simp only [eg] at o2
      have hfl : flatS σ3 = true := by
        cases hq : flatS σ3 with
        | true => rfl
        | false => rw [hq, if_neg Bool.false_ne_true] at o2; exact o2.elim
      rw [if_pos hfl] at o2
      refine ⟨F3, ρ2, wipeS σd own, S2, ds[i], σ3, rs3.wipe own, r3, eg, fun σ4 rs4 off4 => ⟨wipe_eq off4 his, F3, ρ2, σ3, S2, rs4, ?_⟩⟩
      cases ec : c σ3 S2 with
      | exc _ _ _ => rw [ec] at o2; exact o2.elim
      | bad => rw [ec] at o2; exact o2.elim
      | ok t S5 =>
        rw [ec] at o2
        intro H5 F5 ρ5 x5 w5
        obtain ⟨hD5, hF5, hρ5⟩ := x5.off hD3 hF3 hρ3
        have x25 : Ext ρ1 F1 H1 ρ5 F5 H5 := (x2.trans x3).trans x5
        have rs5 := rs4.next x5 w5
        have r5 := (x3.trans x5).reps r2
        cases t with
        | false => exact ⟨F5, ρ5, S5, acc, accD, ⟨x25, w5, hD5, hF5, hρ5, r5⟩, o2⟩
        | true =>
          rw [if_pos rfl]
          refine ⟨F5, ρ5, σ3, S5, rs5, ?_⟩
          cases ei : mi1 σ3 S5 with
          | exc _ _ _ => simp only [ei] at o2; exact o2.elim
          | bad => simp only [ei] at o2; exact o2.elim
          | ok es S6 =>
            simp only [ei] at o2
            have o3 : Fin2 i accD (lcL g1 c1 e (wipeS σ3 own1) es S6) := by
              show Out _ _ _
              cases el : lcL g1 c1 e (wipeS σ3 own1) es S6 with
              | exc _ _ _ => simp only [el] at o2; exact o2.elim
              | bad => simp only [el] at o2; exact o2.elim
              | ok ys S7 =>
                simp only [el] at o2
                show Fin (accD ++ ys) (lc2L g c mi1 own1 g1 c1 e (wipeS σd own) (ds.drop (i + 1)) S7)
                cases eo : lc2L g c mi1 own1 g1 c1 e (wipeS σd own) (ds.drop (i + 1)) S7 with
                | exc _ _ _ => simp only [eo] at o2; exact o2.elim
                | bad => simp only [eo] at o2; exact o2.elim
                | ok zs S8 =>
                  simp only [eo] at o2
                  have o2' : (accD ++ (ys ++ zs)).length ≤ 1000000 ∧ Post K mg ρ F H S8 (.lst (accD ++ (ys ++ zs))) Q := o2
                  rw [← List.append_assoc] at o2'
                  exact o2'
            clear o2
            intro J1 H6 F6 ρ6 x6 w6 itok1
            obtain ⟨hD6, hF6, hρ6⟩ := x6.off hD5 hF5 hρ5
            have x26 := x25.trans x6
            have rs6 := rs5.next x6 w6
            refine ⟨fun j k Hc => k + j = es.length ∧ ∃ F7 ρ7 S7 a aD, Inv Hc F7 ρ7 S7 a aD ∧ Mon F6 ρ6 F7 ρ7 ∧ Fin2 i aD (lcL g1 c1 e (wipeS σ3 own1) (es.drop j) S7),
              ⟨es.length, rfl, F6, ρ6, S6, acc, accD, ⟨x26, w6, hD6, hF6, hρ6, x6.reps r5⟩, .refl _ _, o3⟩, ?_⟩
            rintro j k Hd ⟨hk, F7, ρ7, S7, a, aD, ⟨x7, w7, hD7, hF7, hρ7, r7⟩, x67, o7⟩
            have rs7 := rs6.flat hfl x67 w7 (rs1.en.trans x7)
            by_cases hj : j < es.length
            · refine .inr ⟨itok1.go j F7 Hd ρ7 S7 x67.fle x67.pre w7 hj, fun Hd => ∃ F7 ρ7 S7 a aD, Inv Hd F7 ρ7 S7 a aD ∧ Mon F6 ρ6 F7 ρ7 ∧ Fin2 i aD (lcL g1 c1 e (wipeS σ3 own1) (es.drop (j + 1)) S7), fun Hc' ⟨F', ρ', S', a, aD, h1, h2, h3⟩ => ⟨k - 1, by omega, by omega, F', ρ', S', a, aD, h1, h2, h3⟩, fun y H8 hy1 => ?_⟩
              obtain ⟨F8, x8, w8, r8⟩ := itok1.yld j F7 Hd ρ7 S7 y H8 es[j] x67.fle x67.pre w7 (List.getElem?_eq_getElem hj) hy1
              obtain ⟨hD8, hF8, hρ8⟩ := x8.off hD7 hF7 hρ7
              have rs8 := rs7.next x8 w8
              rw [List.drop_eq_getElem_cons hj] at o7
              unfold lcL at o7
              cases eg1 : g1 es[j] (wipeS σ3 own1) with
              | none => simp only [eg1] at o7; exact o7.elim
              | some σ5 =>
                simp only [eg1] at o7
                refine ⟨F8, ρ7, wipeS σ3 own1, S7, es[j], σ5, rs8.wipe own1, r8, eg1, fun σ6 rsx offx => ⟨wipe_eq offx his1, F8, ρ7, σ5, S7, rsx, ?_⟩⟩
                cases ec1 : c1 σ5 S7 with
                | exc _ _ _ => simp only [ec1] at o7; exact o7.elim
                | bad => simp only [ec1] at o7; exact o7.elim
                | ok t1 S9 =>
                  simp only [ec1] at o7
                  intro H9 F9 ρ9 x9 w9
                  obtain ⟨hD9, hF9, hρ9⟩ := x9.off hD8 hF8 hρ8
                  have x79 := x8.trans x9
                  have rs9 := rsx.next x9 w9
                  cases t1 with
                  | false => exact ⟨F9, ρ9, S9, a, aD, ⟨x7.trans x79, w9, hD9, hF9, hρ9, x79.reps r7⟩, x67.trans x79.mon, o7⟩
                  | true =>
                    rw [if_pos rfl]
                    refine ⟨F9, ρ9, σ5, S9, rs9, ?_⟩
                    cases ee : e σ5 S9 with
                    | exc _ _ _ => simp only [ee] at o7; exact o7.elim
                    | bad => simp only [ee] at o7; exact o7.elim
                    | ok y1 S10 =>
                      simp only [ee] at o7
                      intro v H10 F10 ρ10 x10 w10 r10
                      obtain ⟨hD10, hF10, hρ10⟩ := x10.off hD9 hF9 hρ9
                      have x710 := x79.trans x10
                      have racc : Reps K F10 ρ10 (aD ++ [y1]) (a ++ [v]) := (x710.reps r7).append (.one r10)
                      have o8 : Fin2 i (aD ++ [y1]) (lcL g1 c1 e (wipeS σ3 own1) (es.drop (j + 1)) S10) ∧ aD.length + 1 ≤ 1000000 := by
                        cases el : lcL g1 c1 e (wipeS σ3 own1) (es.drop (j + 1)) S10 with
                        | exc _ _ _ => simp only [el] at o7; exact o7.elim
                        | bad => simp only [el] at o7; exact o7.elim
                        | ok ys S11 =>
                          simp only [el] at o7
                          have o9 : Fin (aD ++ (y1 :: ys)) (lc2L g c mi1 own1 g1 c1 e (wipeS σd own) (ds.drop (i + 1)) S11) := o7
                          rw [show aD ++ (y1 :: ys) = aD ++ [y1] ++ ys by simp] at o9
                          refine ⟨o9, ?_⟩
                          have o10 : Out _ _ _ := o9
                          cases eo : lc2L g c mi1 own1 g1 c1 e (wipeS σd own) (ds.drop (i + 1)) S11 with
                          | exc _ _ _ => rw [eo] at o10; exact o10.elim
                          | bad => rw [eo] at o10; exact o10.elim
                          | ok zs S12 =>
                            rw [eo] at o10
                            have := o10.1
                            simp only [List.length_append, List.length_cons, List.length_nil] at this
                            omega
                      have hsz : a.length < sizeLine := by
                        rw [r7.length]
                        exact Nat.lt_of_lt_of_le o8.2 (by decide)
                      exact ⟨a, hD10, hsz, F10, ρ10, S10, a ++ [v], aD ++ [y1], ⟨(x7.trans x710).updD hD, w10.off_upd hF10 hρ10, upd_same, hF10, hρ10, racc⟩, x67.trans x710.mon, o8.1⟩
            · have ej : j = es.length := by omega
              subst ej
              rw [List.drop_length] at o7
              unfold lcL at o7
              refine .inl ⟨itok1.stop F7 Hd ρ7 S7 x67.fle x67.pre w7, F7, ρ7, S7, a, aD, ⟨x7, w7, hD7, hF7, hρ7, r7⟩, ?_⟩
              have o8 : Fin (aD ++ []) _ := o7
              rw [List.append_nil] at o8
              exact o8
  · have e1 : i = ds.length := by omega
    subst e1
    rw [List.drop_length] at o2
    unfold lc2L at o2
    refine .inl ⟨itok.stop F2 Hc ρ2 S2 x2.fle x2.mon.pre w2, ?_⟩
    have o3 : (accD ++ []).length ≤ 1000000 ∧ Post K mg ρ F H S2 (.lst (accD ++ [])) Q := o2
    rw [List.append_nil] at o3
    refine o3.2 (.ref dl) Hc (upd F2 dl (.lst acc)) ρ2 (x1.trans (x2.fzD hD hF2)) (w2.fz hD2 hF2 hρ2) (.l (.inl (.inl upd_same)) (Reps.mono (fun b u hb => by rw [upd_ne (ne_of_none hb hF2)]; exact hb) ⟨[], by simp⟩ _ _ r2) ?_)
    exact Nat.le_trans o3.1 (by decide)
theorem de_lc2 {own : List (Str × Nat)} {vs1 is is1 : List Nat} {elt tg iter tg1 iter1 : Expr} {ifs ifs1 : List Expr} {scope : Scope} {mi mi1 : MI} {g g1 : MG} {c c1 : MB} {e : M} (hc : X.calm = true) (hN : X.N.Nodup) (hi : DI X n WN mi tg iter) (ok : BlkOk X.N X.env.scope scope own)
    (hg : ∀ (s : Shared) (H : Hp) (C : Addr) (cl : List (Str × Addr)) (fp : List Addr), DG (X.blk s H scope (compEnvC scope cl C X.env) fp) n is g tg) (ht : ∀ (s : Shared) (H : Hp) (C : Addr) (cl : List (Str × Addr)) (fp : List Addr), DTs (X.blk s H scope (compEnvC scope cl C X.env) fp) n WN c ifs)
    (hi1 : ∀ (s : Shared) (H : Hp) (C : Addr) (cl : List (Str × Addr)) (fp : List Addr), DI (X.blk s H scope (compEnvC scope cl C X.env) fp) n WN mi1 tg1 iter1)
    (hg1 : ∀ (s : Shared) (H : Hp) (C : Addr) (cl : List (Str × Addr)) (fp : List Addr), DG (X.blk s H scope (compEnvC scope cl C X.env) fp) n is1 g1 tg1) (ht1 : ∀ (s : Shared) (H : Hp) (C : Addr) (cl : List (Str × Addr)) (fp : List Addr), DTs (X.blk s H scope (compEnvC scope cl C X.env) fp) n WN c1 ifs1)
    (he : ∀ (s : Shared) (H : Hp) (C : Addr) (cl : List (Str × Addr)) (fp : List Addr), DE (X.blk s H scope (compEnvC scope cl C X.env) fp) n WN e elt) (his : ∀ i ∈ is, i ∈ own.map (·.2) := by decide) (his1 : ∀ i ∈ is1, i ∈ vs1 := by decide) (hv : ∀ i ∈ vs1, i ∈ own.map (·.2) := by decide)
    (hs : ∀ x, foldedSetIterable iter X.env x = pure x := by intro _; rfl) (hs1 : ∀ env x, foldedSetIterable iter1 env x = pure x := by intro _ _; rfl) :
    DE X n WN (mLc2 mi (own.map (·.2)) g c mi1 vs1 g1 c1 e) (.ListComp elt [⟨tg, iter, ifs, 0⟩, ⟨tg1, iter1, ifs1, 0⟩] scope pos) :=
  PE.weak (pe_lc2 hc hN hi ok hv hg ht hi1 hg1 ht1 he hs hs1) fun σ H Q q => lc2_ok his his1 q
/-! a tuple of the module -/
theorem de_globE {x : Str} {d : D} (hg : Gl X x) (h : ∃ u, X.mg x = some u ∧ KC X.K d u) (hd : (x == ("__debug__" : Str)) = false := by decide) : DE X n W (mC d) (.Name x pos) := by
  obtain ⟨u, hm, h⟩ := h
  exact de_glob hg hm h hd
end
def litV : D → V
  | .int i => .int i
  | .str x => .str x
  | .bl b => .bl b
  | _ => .non
theorem lit_reps {K : PySem.W.Frag} {F : Hp} {ρ : List Addr} : ∀ {ds : List D}, ds.all flatD = true → Reps K F ρ ds (ds.map litV)
  | [], _ => .nil
  | d :: ds, h => by
    rw [List.all_cons, Bool.and_eq_true] at h
    refine .cons ?_ (lit_reps h.2)
    cases d with
    | int i => exact .i i
    | str x => exact .s x
    | bl b => exact .b b
    | non => exact .n
    | _ => cases h.1
theorem KC.tup {K : PySem.W.Frag} {a : Addr} {od : Option Addr} {its : Array Value} {m : Nat} {osl : Array (Option Value)} {ds : List D} (h1 : K.lookup a = some ⟨.type "tuple", od, .seq its m, osl⟩) (hv : Vals (ds.map litV) its.toList) (hf : ds.all flatD = true) (hl : ds.length ≤ 1000) : KC K (.tup ds) (.ref a) := by
  have hz : its.size ≤ sizeLine := by
    have h2 : ds.length = its.size := by simpa using hv.length
    rw [← h2]
    exact small_line hl
  exact ⟨.ref a, rfl, fun F ρ => .t (.inr ⟨_, its, m, h1, rfl, rfl, hz, hv⟩) (lit_reps hf) (small_line hl)⟩
/-! how they run -/
def lc2K2 (r : R (List D)) : R D := match r with
  | .ok ys S2 => if ys.length ≤ 1000000 then .ok (.lst ys) S2 else .bad
  | _ => .bad
def lc2K (r : R (List D)) (own : List Nat) (g : MG) (c : MB) (it1 : MI) (own1 : List Nat) (g1 : MG) (c1 : MB) (e : M) (σ : Sls) : R D := r.bind fun ds S1 => lc2K2 (lc2L g c it1 own1 g1 c1 e (wipeS σ own) ds S1)
section
variable {it it1 : MI} {own own1 : List Nat} {g g1 : MG} {c c1 : MB} {e : M} {σ : Sls} {S : Store} {ds ys : List D}
theorem e_lc2i : mLc2 it own g c it1 own1 g1 c1 e σ S = lc2K (it σ S) own g c it1 own1 g1 c1 e σ := by
  unfold mLc2 lc2K lc2K2 R.bind
  cases it σ S with
  | ok _ _ => rfl
  | exc _ _ _ => rfl
  | bad => rfl
theorem e_lc2i1 : lc2K (.ok ds S) own g c it1 own1 g1 c1 e σ = lc2K2 (lc2L g c it1 own1 g1 c1 e (wipeS σ own) ds S) := rfl
theorem e_lc2i2 (h : ys.length ≤ 1000000) : lc2K2 (.ok ys S) = .ok (.lst ys) S := if_pos h
end
end PL

set_option Elab.async false
set_option linter.all false
set_option maxRecDepth 100000
set_option maxHeartbeats 4000000
set_option exponentiation.threshold 2000
namespace PL
open PySem PySem.Spec PyProof.Rows L2
/-! how the rules over lists of the store run, part 2 -/
def lcGK2 (r : R (List D)) : R D := match r with
  | .ok ys S2 => .ok (.lst ys) S2
  | _ => .bad
def lcGK (r : R D) (own : List Nat) (g : MG) (c : MB) (e : M) (σ : Sls) : R D := r.bind fun d S1 => lcGK2 (lcG g c e (wipeS σ own) S1 d)
def lcNK2 (r : R (List D)) : R D := match r with
  | .ok ys S2 => .ok (.ref S2.length) (S2 ++ [.lst ys])
  | _ => .bad
def lcGNK (r : R D) (own : List Nat) (g : MG) (c : MB) (e : M) (σ : Sls) : R D := r.bind fun d S1 => lcNK2 (lcG g c e (wipeS σ own) S1 d)
def lcNK (r : R (List D)) (own : List Nat) (g : MG) (c : MB) (e : M) (σ : Sls) : R D := r.bind fun ds S1 => lcNK2 (lcL g c e (wipeS σ own) ds S1)
def lcGR (o : Option Cell) (g : MG) (c : MB) (e : M) (σ : Sls) (m : Nat) (S : Store) : R (List D) := match o with
  | some (.lst ds) => lcR g c e σ m ds.length ds.length S
  | _ => .bad
def repK2 (ds : List D) (r : R D) : R D := r.bind fun d S2 => match d with
  | .int k => if k ≤ 1000000 ∧ -1000000 ≤ k ∧ ds.length ≤ 10 then .ok (.ref S2.length) (S2 ++ [.lst (repL k.toNat ds)]) else .bad
  | _ => .bad
def repK (r : R (List D)) (n : M) (σ : Sls) : R D := r.bind fun ds S1 => repK2 ds (n σ S1)
section
variable {σ : Sls} {S : Store} {it e nn : M} {mi : MI} {ma : MA} {g : MG} {c : MB} {d x y : D} {ds ys : List D} {m : Nat} {own : List Nat}
theorem e_lcG : mLcG it own g c e σ S = lcGK (it σ S) own g c e σ := by
  unfold mLcG lcGK lcGK2 R.bind
  cases it σ S with
  | ok d S1 => rfl
  | exc _ _ _ => rfl
  | bad => rfl
theorem e_lcG1 : lcGK (.ok d S) own g c e σ = lcGK2 (lcG g c e (wipeS σ own) S d) := rfl
theorem e_lcG2 : lcGK2 (.ok ys S) = .ok (.lst ys) S := rfl
theorem e_lcGl : lcG g c e σ S (.lst ds) = lcL g c e σ ds S := rfl
theorem e_lcGt : lcG g c e σ S (.tup ds) = lcL g c e σ ds S := rfl
theorem e_lcGr : lcG g c e σ S (.ref m) = lcGR S[m]? g c e σ m S := by
  unfold lcG lcGR
  cases h : S[m]? with
  | none => simp only [h]
  | some c => cases c <;> simp only [h]
theorem e_lcGr1 : lcGR (some (.lst ds)) g c e σ m S = lcR g c e σ m ds.length ds.length S := rfl
theorem e_lcGN : mLcGN it own g c e σ S = lcGNK (it σ S) own g c e σ := by
  unfold mLcGN lcGNK lcNK2 R.bind
  cases it σ S with
  | ok d S1 => rfl
  | exc _ _ _ => rfl
  | bad => rfl
theorem e_lcGN1 : lcGNK (.ok d S) own g c e σ = lcNK2 (lcG g c e (wipeS σ own) S d) := rfl
theorem e_lcN : mLcN mi own g c e σ S = lcNK (mi σ S) own g c e σ := by
  unfold mLcN lcNK lcNK2 R.bind
  cases mi σ S with
  | ok d S1 => rfl
  | exc _ _ _ => rfl
  | bad => rfl
theorem e_lcN1 : lcNK (.ok ds S) own g c e σ = lcNK2 (lcL g c e (wipeS σ own) ds S) := rfl
theorem e_lcN2 : lcNK2 (.ok ys S) = .ok (.ref S.length) (S ++ [.lst ys]) := rfl
theorem e_rep : mRepN ma nn σ S = repK (ma σ S) nn σ := rfl
theorem e_rep1 : repK (.ok ds S) nn σ = repK2 ds (nn σ S) := rfl
theorem e_rep2 {k : Int} (h1 : k ≤ 1000000) (h2 : -1000000 ≤ k) (h3 : ds.length ≤ 10) : repK2 ds (.ok (.int k) S) = .ok (.ref S.length) (S ++ [.lst (repL k.toNat ds)]) := if_pos ⟨h1, h2, h3⟩
theorem repL_one {α : Type} {k : Nat} {x : α} : repL k [x] = List.replicate k x := by
  unfold repL
  induction k with
  | zero => rfl
  | succ k ih => rw [List.replicate_succ, List.flatten_cons, ih, List.replicate_succ]; rfl
/-- a comprehension over a list of the store that does not change -/
theorem lcR_map {α : Type} (q f : α → D) (p : α → Bool) {xs : List α} (hS : S[m]? = some (.lst (xs.map q)))
    (h : ∀ z ∈ xs, ∃ σ1, g (q z) σ = some σ1 ∧ c σ1 S = .ok (p z) S ∧ (p z = true → e σ1 S = .ok (f z) S)) :
    ∀ (k : Nat), k ≤ xs.length → lcR g c e σ m (xs.map q).length k S = .ok (((xs.drop (xs.length - k)).filter p).map f) S
  | 0, _ => by
    unfold lcR
    rw [hS]
    simp only
    rw [if_pos trivial, Nat.sub_zero, List.drop_length]
    rfl
  | k + 1, hk => by
    have ih := lcR_map q f p hS h k (by omega)
    have hi : xs.length - (k + 1) < xs.length := by omega
    obtain ⟨σ1, h1, h2, h3⟩ := h xs[xs.length - (k + 1)] (List.getElem_mem hi)
    unfold lcR
    rw [hS]
    simp only
    rw [if_pos trivial, List.getElem?_map, List.length_map, List.getElem?_eq_getElem hi]
    simp only [Option.map_some, h1, h2]
    rw [List.drop_eq_getElem_cons hi, show xs.length - (k + 1) + 1 = xs.length - k by omega]
    rw [List.length_map] at ih
    cases hp : p xs[xs.length - (k + 1)] with
    | true =>
      simp only [h3 hp, ih]
      rw [List.filter_cons_of_pos hp, List.map_cons]
    | false =>
      simp only [ih]
      rw [List.filter_cons_of_neg (by rw [hp]; exact Bool.false_ne_true)]
theorem lcR_all {α : Type} (q f : α → D) (p : α → Bool) (xs : List α) (hS : S[m]? = some (.lst (xs.map q)))
    (h : ∀ z ∈ xs, ∃ σ1, g (q z) σ = some σ1 ∧ c σ1 S = .ok (p z) S ∧ (p z = true → e σ1 S = .ok (f z) S)) :
    lcR g c e σ m (xs.map q).length (xs.map q).length S = .ok ((xs.filter p).map f) S := by
  have := lcR_map q f p hS h xs.length (Nat.le_refl _)
  rw [Nat.sub_self, List.drop_zero] at this
  rw [← this, List.length_map]
theorem forR_to {b : MS} (P : Nat → Sls → Store → Prop) (G : Fl → Prop) {ds : List D} (h : P 0 σ S) (hm : ∀ i σ S, P i σ S → S[m]? = some (.lst ds))
    (st : ∀ k d σ S, ds[k]? = some d → P k σ S → StpG (P (k + 1)) b S (g d σ)) (fin : ∀ σ2 S2, P ds.length σ2 S2 → G (.nx σ2 S2)) : G (forR g b m ds.length ds.length σ S) := by
  obtain ⟨σ2, S2, e, p⟩ := forR_inv (g := g) (b := b) P hm (fun i d σ S hd hp => stpG_ex (st i d σ S hd hp)) ds.length 0 rfl h
  rw [e]
  exact fin σ2 S2 p
/-! loops with kept cells -/
def zipDK (st : Bool) (r : R (List D)) : R (List D × Dep) := r.bind fun ds S1 => R.of (zipDD st S1 ds) S1
def enDK (r : R (List D)) : R (List D × Dep) := r.bind fun ds S1 => R.of (enDD S1 ds) S1
noncomputable def forDK (r : R (List D × Dep)) (g : MG) (b : MS) (σ : Sls) : Fl := match r with
  | .ok q S1 => forD g b q.2 q.1 σ S1
  | .exc c d S1 => .exc c d σ S1
  | .bad => .bad
theorem e_zipD {st : Bool} : mZipD st ma σ S = zipDK st (ma σ S) := rfl
theorem e_zipD1 {st : Bool} : zipDK st (.ok ds S) = R.of (zipDD st S ds) S := rfl
theorem e_enD : mEnD ma σ S = enDK (ma σ S) := rfl
theorem e_enD1 : enDK (.ok ds S) = R.of (enDD S ds) S := rfl
theorem e_ofq {q : List D × Dep} : (R.of (some q) S : R (List D × Dep)) = .ok q S := rfl
theorem e_forD {b : MS} {md : MID} : mForD md g b σ S = forDK (md σ S) g b σ := rfl
theorem e_forD1 {b : MS} {q : List D × Dep} : forDK (.ok q S) g b σ = forD g b q.2 q.1 σ S := rfl
theorem itemsS_l : itemsS S (.lst ds) = some (ds, []) := rfl
theorem itemsS_t : itemsS S (.tup ds) = some (ds, []) := rfl
theorem itemsS_r (h : S[m]? = some (.lst ds)) : itemsS S (.ref m) = some (ds, [(m, ds)]) := by
  unfold itemsS
  simp only [h]
theorem zipDD_of {st : Bool} {a b : List D} {dp dq : Dep} (h1 : itemsS S x = some (a, dp)) (h2 : itemsS S y = some (b, dq)) (h : st = false ∨ a.length = b.length) : zipDD st S [x, y] = some (pairsL a b, dp ++ dq) := by
  unfold zipDD
  simp only [h1, h2]
  rw [if_pos h]
theorem enDD_of {a : List D} {dp : Dep} (h1 : itemsS S x = some (a, dp)) : enDD S [x] = some (numL a 0, dp) := by
  show (itemsS S x).map _ = _
  rw [h1]; rfl
theorem forD_inv {b : MS} {dp : Dep} (P : Nat → Sls → Store → Prop) (hd : ∀ i σ S, P i σ S → dpOk dp S) : ∀ (ds : List D) (i : Nat) {σ : Sls} {S : Store}, P i σ S →
    (∀ k d σ S, ds[k]? = some d → P (i + k) σ S → StpG (P (i + k + 1)) b S (g d σ)) →
    ∃ σ2 S2, forD g b dp ds σ S = .nx σ2 S2 ∧ P (i + ds.length) σ2 S2
  | [], i, σ, S, h, _ => by
    refine ⟨σ, S, ?_, h⟩
    unfold forD
    exact if_pos (hd _ _ _ h)
  | d :: ds, i, σ, S, h, st => by
    obtain ⟨σ1, σ2, S2, e1, e2, e3⟩ := stpG_ex (st 0 d σ S rfl h)
    obtain ⟨σ3, S3, e4, e5⟩ := forD_inv P hd ds (i + 1) (σ := σ2) (S := S2) e3 (fun k d σ S hk hp => by
      have := st (k + 1) d σ S hk (by rw [show i + (k + 1) = i + 1 + k by omega]; exact hp)
      rw [show i + 1 + k + 1 = i + (k + 1) + 1 by omega]
      exact this)
    refine ⟨σ3, S3, ?_, by rw [List.length_cons, show i + (ds.length + 1) = i + 1 + ds.length by omega]; exact e5⟩
    unfold forD
    rw [if_pos (hd _ _ _ h), e1]
    simp only
    rcases e2 with e2 | e2
    · rw [e2]; exact e4
    · rw [e2]; exact e4
theorem forD_to {b : MS} {dp : Dep} (P : Nat → Sls → Store → Prop) (G : Fl → Prop) {ds : List D} (h : P 0 σ S) (hd : ∀ i σ S, P i σ S → dpOk dp S)
    (st : ∀ k d σ S, ds[k]? = some d → P k σ S → StpG (P (k + 1)) b S (g d σ)) (fin : ∀ σ2 S2, P ds.length σ2 S2 → G (.nx σ2 S2)) : G (forD g b dp ds σ S) := by
  obtain ⟨σ2, S2, e, p⟩ := forD_inv (g := g) (b := b) P hd ds 0 h (fun k d σ S e q => by
    rw [Nat.zero_add] at q ⊢
    exact st k d σ S e q)
  rw [e]
  rw [Nat.zero_add] at p
  exact fin σ2 S2 p
end
section
variable {g : MG} {b : MS}
theorem forD_nil : ∀ (ds : List D) (σ : Sls) (S : Store), forD g b [] ds σ S = forL g b ds σ S
  | [], σ, S => by
    unfold forD forL
    exact if_pos (fun p hp => nomatch hp)
  | d :: ds, σ, S => by
    unfold forD forL
    rw [if_pos (show dpOk [] S from fun p hp => nomatch hp)]
    cases g d σ with
    | none => rfl
    | some σ1 =>
      simp only
      cases b σ1 S with
      | nx σ2 S2 => exact forD_nil ds σ2 S2
      | ct σ2 S2 => exact forD_nil ds σ2 S2
      | _ => rfl
theorem e_forD1n {ds : List D} {σ : Sls} {S : Store} : forDK (.ok (ds, []) S) g b σ = forL g b ds σ S := forD_nil ds σ S
end
/-! snapshots of data without lists of the store -/
section
variable {S : Store}
mutual
theorem snap_ok : ∀ (n k : Nat) (d : D), okD n d = true → n < k → snap S k d = some d
  | n, 0, d, _, h => by omega
  | _, k + 1, .non, _, _ => by unfold snap; rfl
  | _, k + 1, .bl b, _, _ => by unfold snap; rfl
  | _, k + 1, .int i, _, _ => by unfold snap; rfl
  | _, k + 1, .str x, h, _ => by unfold snap; rfl
  | n + 1, k + 1, .tup ds, h, hk => by
    unfold okD at h
    unfold snap
    rw [snap_oks n k ds h (by omega)]; rfl
  | n + 1, k + 1, .lst ds, h, hk => by
    unfold okD at h
    unfold snap
    rw [snap_oks n k ds h (by omega)]; rfl
  | 0, _ + 1, .tup ds, h, _ => by unfold okD at h; cases h
  | 0, _ + 1, .lst ds, h, _ => by unfold okD at h; cases h
  | 0, _ + 1, .dK _ _, h, _ => by unfold okD at h; cases h
  | 0, _ + 1, .dT _ _, h, _ => by unfold okD at h; cases h
  | 0, _ + 1, .ref _, h, _ => by unfold okD at h; cases h
  | n + 1, _ + 1, .dK _ _, h, _ => by unfold okD at h; cases h
  | n + 1, _ + 1, .dT _ _, h, _ => by unfold okD at h; cases h
  | n + 1, _ + 1, .ref _, h, _ => by unfold okD at h; cases h
theorem snap_oks : ∀ (n k : Nat) (ds : List D), okL n ds = true → n < k → mapO (snap S k) ds = some ds
  | n, k, [], h, _ => by unfold mapO; rfl
  | n, k, d :: ds, h, hk => by
    unfold okL at h
    rw [Bool.and_eq_true] at h
    unfold mapO
    rw [snap_ok n k d h.1 hk, snap_oks n k ds h.2 hk]
end
theorem snap_cell {m : Nat} {ds : List D} (h : S[m]? = some (.lst ds)) (h2 : okL 40 ds = true) {k : Nat} (hk : 41 < k) : snap S k (.ref m) = some (.lst ds) := by
  obtain ⟨k, rfl⟩ : ∃ j, k = j + 1 := ⟨k - 1, by omega⟩
  unfold snap
  simp only [h]
  rw [snap_oks 40 k ds h2 (by omega)]; rfl
theorem snap_lst {xs ys : List D} {k : Nat} (h : mapO (snap S k) xs = some ys) : snap S (k + 1) (.lst xs) = some (.lst ys) := by
  unfold snap
  rw [h]; rfl
theorem snap_tup {xs ys : List D} {k : Nat} (h : mapO (snap S k) xs = some ys) : snap S (k + 1) (.tup xs) = some (.tup ys) := by
  unfold snap
  rw [h]; rfl
mutual
theorem okD_le : ∀ (n k : Nat) (d : D), okD n d = true → n ≤ k → okD k d = true
  | _, k, .non, _, _ => by unfold okD; rfl
  | _, k, .bl b, _, _ => by unfold okD; rfl
  | _, k, .int i, _, _ => by unfold okD; rfl
  | _, k, .str x, h, _ => by unfold okD at h ⊢; exact h
  | n + 1, k + 1, .tup ds, h, hk => by
    unfold okD at h ⊢
    exact okL_le n k ds h (by omega)
  | n + 1, k + 1, .lst ds, h, hk => by
    unfold okD at h ⊢
    exact okL_le n k ds h (by omega)
  | n + 1, 0, _, _, h => by omega
  | 0, _, .tup ds, h, _ => by unfold okD at h; cases h
  | 0, _, .lst ds, h, _ => by unfold okD at h; cases h
  | 0, _, .dK _ _, h, _ => by unfold okD at h; cases h
  | 0, _, .dT _ _, h, _ => by unfold okD at h; cases h
  | 0, _, .ref _, h, _ => by unfold okD at h; cases h
  | n + 1, _, .dK _ _, h, _ => by unfold okD at h; cases h
  | n + 1, _, .dT _ _, h, _ => by unfold okD at h; cases h
  | n + 1, _, .ref _, h, _ => by unfold okD at h; cases h
theorem okL_le : ∀ (n k : Nat) (ds : List D), okL n ds = true → n ≤ k → okL k ds = true
  | n, k, [], h, _ => by unfold okL; rfl
  | n, k, d :: ds, h, hk => by
    unfold okL at h ⊢
    rw [Bool.and_eq_true] at h
    rw [okD_le n k d h.1 hk, okL_le n k ds h.2 hk]; rfl
end
/-- equality by snapshots -/
theorem eqG_snap {d e x y : D} (h1 : snap S 60 d = some x) (h2 : snap S 60 e = some y) (hx : okD 60 x = true) (hy : okD 60 y = true) : eqG S d e = eqD S x y ∨ (isTL x = false ∧ isTL y = false ∧ eqG S d e = eqD S d e) := by
  unfold eqG
  simp only [h1, h2]
  by_cases h : isTL x = true ∨ isTL y = true
  · left
    rw [if_pos h]
    obtain ⟨p, q, e1, e2, e3, e4, e5⟩ := eqD_ok (S := S) hx hy h
    rw [eqD_tl h, toP_ok hx, toP_ok hy]
    first | done | rfl
  · right
    rw [if_neg h]
    rw [not_or, Bool.not_eq_true, Bool.not_eq_true] at h
    exact ⟨h.1, h.2, rfl⟩
theorem eqG_ok {d e : D} (hx : okD 59 d = true) (hy : okD 59 e = true) : eqG S d e = eqD S d e := by
  rcases eqG_snap (snap_ok 59 60 d hx (by decide)) (snap_ok 59 60 e hy (by decide)) (okD_le 59 60 d hx (by decide)) (okD_le 59 60 e hy (by decide)) with h | h
  · exact h
  · exact h.2.2
theorem eqG_tl {d e x y : D} (h1 : snap S 60 d = some x) (h2 : snap S 60 e = some y) (hx : okD 60 x = true) (hy : okD 60 y = true) (h : isTL x = true ∨ isTL y = true) : eqG S d e = eqD S x y := by
  rcases eqG_snap h1 h2 hx hy with g | g
  · exact g
  · rcases h with h | h
    · rw [g.1] at h; cases h
    · rw [g.2.1] at h; cases h
/-- the same snapshot: equal -/
theorem eqG_same {d e x : D} (h1 : snap S 60 d = some x) (h2 : snap S 60 e = some x) (hx : okD 60 x = true) (h : isTL x = true) : eqG S d e = some true := by
  rw [eqG_tl h1 h2 hx hx (.inl h)]
  exact eq_self hx
/-- a list of the store against the empty list -/
theorem eqG_nil {m : Nat} {ds : List D} (h : S[m]? = some (.lst ds)) (h2 : okL 40 ds = true) : eqG S (.ref m) (.lst []) = some ds.isEmpty := by
  have hx : okD 60 (.lst ds) = true := by unfold okD; exact okL_le 40 59 ds h2 (by decide)
  rw [eqG_tl (snap_cell h h2 (by decide)) (by unfold snap mapO; rfl : snap S 60 (.lst []) = some (.lst [])) hx (by decide) (.inl rfl)]
  exact eq_nil (okL_le 40 59 ds h2 (by decide))
theorem eqG_ii {i j : Int} : eqG S (.int i) (.int j) = some (decide (i = j)) := eqG_ok rfl rfl
theorem eqG_in {i : Int} : eqG S (.int i) .non = some false := eqG_ok rfl rfl
theorem eqG_ni {i : Int} : eqG S .non (.int i) = some false := eqG_ok rfl rfl
theorem eqG_nn : eqG S .non .non = some true := eqG_ok rfl rfl
theorem eqG_bb {i j : Bool} : eqG S (.bl i) (.bl j) = some (decide (i = j)) := eqG_ok rfl rfl
theorem eqGB_of {d e : D} : eqGB S d e = (eqG S d e).map .bl := rfl
theorem neGB_of {d e : D} : neGB S d e = (eqG S d e).map fun b => .bl (!b) := rfl
end
/-! indexes from behind -/
theorem ixN_last {n : Nat} : ixN (n + 1) (-1) = some n := by
  unfold ixN
  rw [if_neg (by omega), if_pos (by omega)]
  congr 1
  omega
theorem atI_last {α : Type} {xs : List α} {x : α} : atI (xs ++ [x]) (-1) = some x := by
  unfold atI
  rw [List.length_append, List.length_singleton, ixN_last]
  simp
theorem atI_getLast {α : Type} {xs : List α} : atI xs (-1) = xs.getLast? := by
  rcases List.eq_nil_or_concat xs with h | ⟨l, b, h⟩
  · subst h; rfl
  · subst h; rw [List.concat_eq_append, atI_last]; simp
theorem atI_0 {α : Type} {xs : List α} : atI xs 0 = xs.head? := by
  cases xs with
  | nil => rfl
  | cons x xs => rw [atI0]; rfl
theorem atI_in {α : Type} {xs : List α} {i : Nat} (h : i < xs.length) : atI xs (i : Int) = some xs[i] := atI_nat (List.getElem?_eq_getElem h)
theorem ixN_in {n i : Nat} (h : i < n) : ixN n (i : Int) = some i := by
  unfold ixN
  rw [if_pos (by omega), if_pos (by omega)]
  rfl
theorem cut_0l {α : Type} {xs : List α} : cutL xs none (some (-1)) = xs.dropLast := by
  unfold cutL HT.sIx
  simp only [Nat.sub_zero, List.drop_zero]
  rw [if_pos (by decide), List.dropLast_eq_take]
  congr 1
  omega
theorem log2_b {i : Int} (h1 : -(10 ^ 200) ≤ i) (h2 : i ≤ 10 ^ 200) : i.natAbs.log2 < 1000 := by
  refine Nat.lt_of_lt_of_le (PySem.Flt.log2_lt_of (k := 1000) (by decide) ?_) (Nat.le_refl _)
  have e : (10 : Int) ^ 200 = ((10 ^ 200 : Nat) : Int) := by norm_cast
  rw [e] at h1 h2
  have e2 : (10 : Nat) ^ 200 < 2 ^ 1000 := by decide
  omega
/-- a product of numbers of some hundred digits -/
theorem mulOk_b {i j : Int} (h1 : -(10 ^ 200) ≤ i) (h2 : i ≤ 10 ^ 200) (h3 : -(10 ^ 200) ≤ j) (h4 : j ≤ 10 ^ 200) : MulOk i j := by
  have := log2_b h1 h2
  have := log2_b h3 h4
  exact .inr (by omega)
/-! appending to a list of the store, step by step -/
def lstAtR : Option Cell → Bool
  | some (.lst _) => true
  | _ => false
def appRK3 (o : Option Store) (σ : Sls) : Fl := match o with
  | some S3 => .nx σ S3
  | none => .bad
def appRK1 (c : Bool) (x : D) (r : R D) (σ : Sls) : Fl := if c = true then Fl.of r σ fun d S2 => appRK3 (appS S2 x d) σ else .bad
def appRK (r : R D) (e : M) (σ : Sls) : Fl := Fl.of r σ fun x S1 => appRK1 (lstAt S1 x) x (e σ S1) σ
section
variable {σ : Sls} {S T : Store} {o e : M} {d x : D} {ds : List D} {m k : Nat} {c a : Cell}
theorem e_appR : mAppR o e σ S = appRK (o σ S) e σ := by
  unfold mAppR appRK appRK1 appRK3
  cases o σ S with
  | ok x S1 => rfl
  | exc _ _ _ => rfl
  | bad => rfl
theorem e_appR1 : appRK (.ok x S) e σ = appRK1 (lstAt S x) x (e σ S) σ := rfl
theorem e_appR2 : appRK1 true x (.ok d S) σ = appRK3 (appS S x d) σ := rfl
theorem e_appR3 : appRK3 (some S) σ = .nx σ S := rfl
theorem lstAt_e : lstAt S (.ref m) = lstAtR S[m]? := by
  unfold lstAt lstAtR
  cases h : S[m]? with
  | none => simp only [h]
  | some c => cases c <;> simp only [h]
theorem lstAtR_1 : lstAtR (some (.lst ds)) = true := rfl
theorem get_app0 : (S ++ T)[S.length]? = T[0]? := by rw [List.getElem?_append_right (Nat.le_refl _), Nat.sub_self]
theorem get_appk : (S ++ T)[S.length + k]? = T[k]? := by rw [List.getElem?_append_right (Nat.le_add_right _ _), Nat.add_sub_cancel_left]
theorem set_app0 : (S ++ T).set S.length c = S ++ T.set 0 c := by rw [List.set_append_right _ _ (Nat.le_refl _), Nat.sub_self]
theorem set_appk : (S ++ T).set (S.length + k) c = S ++ T.set k c := by rw [List.set_append_right _ _ (Nat.le_add_right _ _), Nat.add_sub_cancel_left]
theorem set_appl (h : m < S.length) : (S ++ T).set m c = S.set m c ++ T := List.set_append_left _ _ h
theorem get_appl (h : m < S.length) : (S ++ T)[m]? = S[m]? := List.getElem?_append_left h
end
/-! lists of the store, read as a whole -/
def lstR : Option Cell → Option (List D)
  | some (.lst ds) => some ds
  | _ => none
section
variable {S : Store} {m : Nat} {ds : List D} {x : D}
theorem lstOf_r : lstOf S (.ref m) = lstR S[m]? := by
  unfold lstOf lstR
  cases h : S[m]? with
  | none => simp only [h]
  | some c => cases c <;> simp only [h]
theorem lstR_1 : lstR (some (.lst ds)) = some ds := rfl
theorem o_tupr : tupleD S [.ref m] = (lstR S[m]?).map .tup := by rw [← lstOf_r]; rfl
theorem o_listr : listD S [.ref m] = (lstR S[m]?).map .lst := by rw [← lstOf_r]; rfl
theorem o_lenr : lenD S [.ref m] = (lstR S[m]?).map fun ds => .int ds.length := by rw [← lstOf_r]; rfl
theorem o_slir {l h : Option Int} : sliD S (.ref m) l h = (lstR S[m]?).map fun ds => .lst (cutL ds l h) := by rw [← lstOf_r]; rfl
theorem o_maxl : maxD S [.lst ds] = (intsOf ds).bind fun ns => (maxI ns).map D.int := by
  show (match (lstOf S (.lst ds)).bind intsOf with | some ns => (maxI ns).map D.int | none => none) = _
  show (match intsOf ds with | some ns => (maxI ns).map D.int | none => none) = _
  cases intsOf ds <;> rfl
theorem o_minl : minD S [.lst ds] = (intsOf ds).bind fun ns => (minI ns).map D.int := by
  show (match (lstOf S (.lst ds)).bind intsOf with | some ns => (minI ns).map D.int | none => none) = _
  show (match intsOf ds with | some ns => (minI ns).map D.int | none => none) = _
  cases intsOf ds <;> rfl
def truR : Option Cell → Option Bool
  | some (.lst ds) => some (!ds.isEmpty)
  | some (.dK ks _) => some (!ks.isEmpty)
  | _ => none
theorem o_trur : truD S (.ref m) = truR S[m]? := by
  unfold truD truR
  cases h : S[m]? with
  | none => simp only [h]
  | some c => cases c <;> simp only [h]
theorem truR_1 : truR (some (.lst ds)) = some (!ds.isEmpty) := rfl
theorem atI5 {α : Type} {x y z u v w : α} {l : List α} : atI (x :: y :: z :: u :: v :: w :: l) 5 = some w := atI_nat (j := 5) rfl
end
section
variable {S : Store} {m : Nat} {ds a b : List D} {x y : D} {dp dq : Dep} {st : Bool}
def itemsR (m : Nat) : Option Cell → Option (List D × Dep)
  | some (.lst ds) => some (ds, [(m, ds)])
  | _ => none
theorem itemsS_e : itemsS S (.ref m) = itemsR m S[m]? := by
  unfold itemsS itemsR
  cases h : S[m]? with
  | none => simp only [h]
  | some c => cases c <;> simp only [h]
theorem itemsR_1 : itemsR m (some (.lst ds)) = some (ds, [(m, ds)]) := rfl
theorem enDD_e : enDD S [x] = (itemsS S x).map fun a => (numL a.1 0, a.2) := rfl
def zipQC (c : Bool) (a b : List D) (dp dq : Dep) : Option (List D × Dep) := if c = true then some (pairsL a b, dp ++ dq) else none
def zipQ (st : Bool) : Option (List D × Dep) → Option (List D × Dep) → Option (List D × Dep)
  | some (a, dp), some (b, dq) => zipQC (!st || decide (a.length = b.length)) a b dp dq
  | _, _ => none
theorem zipDD_e : zipDD st S [x, y] = zipQ st (itemsS S x) (itemsS S y) := by
  show (match itemsS S x, itemsS S y with
    | some a, some b => if st = false ∨ a.1.length = b.1.length then some (pairsL a.1 b.1, a.2 ++ b.2) else none
    | _, _ => none) = _
  cases itemsS S x with
  | none => rfl
  | some p =>
    cases itemsS S y with
    | none => rfl
    | some q =>
      unfold zipQ zipQC
      cases st with
      | true => simp
      | false => simp
theorem zipQ_1 : zipQ st (some (a, dp)) (some (b, dq)) = zipQC (!st || decide (a.length = b.length)) a b dp dq := rfl
theorem zipQC_1 : zipQC true a b dp dq = some (pairsL a b, dp ++ dq) := rfl
theorem pairsL_map {α β : Type} {f : α → D} {g : β → D} : ∀ {xs : List α} {ys : List β}, pairsL (xs.map f) (ys.map g) = (xs.zip ys).map fun q => .tup [f q.1, g q.2]
  | [], _ => rfl
  | _ :: _, [] => rfl
  | x :: xs, y :: ys => by
    rw [List.map_cons, List.map_cons, List.zip_cons_cons, List.map_cons, pairsL_c, pairsL_map]
theorem ediv_b {g a b : Int} (hg : 1 ≤ g) (h0 : 0 ≤ b) (h1 : -b ≤ a) (h2 : a ≤ b) : -b ≤ a / g ∧ a / g ≤ b := by
  constructor
  · rw [Int.le_ediv_iff_mul_le (by omega)]
    have := Int.mul_le_mul_of_nonneg_left hg h0
    rw [Int.neg_mul]
    omega
  · refine Int.ediv_le_of_le_mul (by omega) ?_
    have := Int.mul_le_mul_of_nonneg_left hg h0
    omega
end
theorem ixN_lastA {α : Type} {xs : List α} {x : α} : ixN (xs ++ [x]).length (-1) = some xs.length := by
  rw [List.length_append, List.length_singleton, ixN_last]
theorem set_lastA {α : Type} {xs : List α} {x y : α} : (xs ++ [x]).set xs.length y = xs ++ [y] := by
  rw [List.set_append_right _ _ (Nat.le_refl _), Nat.sub_self]; rfl
theorem appU_1 {i : Nat} {ds : List D} {d : D} {S : Store} {σ : Sls} (h : ds.length < 1000000) : appK2 i ds (.ok d S) σ = .nx (σ.set i (.uq (ds ++ [d]))) S := by
  rw [e_app2, if_pos (Nat.lt_of_lt_of_le h (by decide))]
def tyR : Option Cell → Option Ty
  | some (.lst _) => some .list
  | some (.dK _ _) => some .dict
  | some (.dT _ _) => some .dict
  | _ => none
theorem o_tyr {S : Store} {m : Nat} : tyOf S (.ref m) = tyR S[m]? := by
  unfold tyOf tyR
  cases h : S[m]? with
  | none => simp only [h]
  | some c => cases c <;> simp only [h]
theorem tyR_1 {ds : List D} : tyR (some (.lst ds)) = some .list := rfl
end PL

set_option Elab.async false
set_option linter.all false
set_option maxRecDepth 100000
set_option maxHeartbeats 4000000
namespace PL
open PySem PySem.Spec PyProof.Rows L2
section
variable {S : Store}
theorem eqG_ss {i j : Str} : eqG S (.str i) (.str j) = some (decide (i = j)) := by
  unfold eqG snap
  rfl
theorem sortL_r {m : Nat} {ds : List D} (h : S[m]? = some (.lst ds)) (h2 : ds.all (okRow (shapeOf ds)) = true) : sortL S [.ref m] = some (isortD (shapeOf ds) ds) := by
  have e : lstOf S (.ref m) = some ds := by
    unfold lstOf
    simp only [h]
  unfold sortL
  simp only [e]
  rw [if_pos h2]
/-- a cell against a plain list of the same items -/
theorem eqG_cell {m : Nat} {ds : List D} (h : S[m]? = some (.lst ds)) (h2 : okL 40 ds = true) : eqG S (.ref m) (.lst ds) = some true := by
  have hx : okD 59 (.lst ds) = true := by unfold okD; exact okL_le 40 58 ds h2 (by decide)
  exact eqG_same (snap_cell h h2 (by decide)) (snap_ok 59 60 _ hx (by decide)) (okD_le 59 60 _ hx (by decide)) rfl
theorem okL_mem {n : Nat} : ∀ {xs : List D}, okL n xs = true ↔ ∀ x ∈ xs, okD n x = true
  | [] => by unfold okL; simp
  | x :: xs => by
    unfold okL
    rw [Bool.and_eq_true, okL_mem]
    simp
theorem okL_sort {n : Nat} {sh : Nat → Bool} {xs : List D} (h : okL n xs = true) : okL n (isortD sh xs) = true :=
  okL_mem.mpr fun x hx => okL_mem.mp h x (isortD_perm.mem_iff.mp hx)
end
end PL

set_option Elab.async false
set_option linter.all false
set_option maxRecDepth 100000
set_option maxHeartbeats 4000000
namespace PL
open PySem PySem.Spec PyProof.Rows L2
/-! ### repr of lists and tuples -/
def reprOk (p : PyData) : Bool := p.showable && !p.hasDict && decide (p.depth ≤ 100) && decide (p.shown.length ≤ sizeLine)
/-- what is shown: the snapshot's data -/
def dataOf (S : Store) (d : D) : Option PyData := match snap S 60 d with
  | some x => if isTL x = true then toP0 x else none
  | none => none
def reprD (S : Store) : List D → Option D
  | [d] => match dataOf S d with
    | some p => if reprOk p = true then some (.str p.shown) else none
    | none => none
  | _ => none
theorem toP0_tl {x : D} {p : PyData} (h : isTL x = true) (e : toP0 x = some p) : (∃ ps, p = .list ps) ∨ ∃ ps, p = .tuple ps := by
  cases x with
  | tup ds =>
    simp only [toP0] at e
    cases e1 : toPs ds with
    | none => rw [e1] at e; cases e
    | some ps => rw [e1] at e; cases e; exact .inr ⟨_, rfl⟩
  | lst ds =>
    simp only [toP0] at e
    cases e1 : toPs ds with
    | none => rw [e1] at e; cases e
    | some ps => rw [e1] at e; cases e; exact .inl ⟨_, rfl⟩
  | _ => cases h
section
variable {X : Cx}
theorem call_repr (hg : X.A.guards = some []) (hu : X.A.units + 190 < cLine) : CallR X (.builtin "repr") fun xs H Q => ∃ v p, xs = [v] ∧ Dp X.K H v p ∧ ((∃ ps, p = .list ps) ∨ ∃ ps, p = .tuple ps) ∧ reprOk p = true ∧ Q (.str p.shown) H := by
  intro pins s σ H xs us Q I r h
  obtain ⟨v, p, rfl, hd, ht, hk, q⟩ := h
  obtain ⟨a, rfl⟩ : ∃ a, v = .ref a := by
    rcases ht with ⟨ps, rfl⟩ | ⟨ps, rfl⟩ <;> cases hd <;> exact ⟨_, rfl⟩
  rw [Vals.ref1 r]
  obtain ⟨as, hr⟩ := Dp.reads I p (.ref a) (.ref a) hd rfl
  unfold reprOk at hk
  simp only [Bool.and_eq_true, Bool.not_eq_true', decide_eq_true_eq] at hk
  obtain ⟨⟨⟨k1, k2⟩, k3⟩, k4⟩ := hk
  exact repr_of_reads' hr k1 (fun e => by rw [k2] at e; cases e) hg (by omega) (fun _ _ e => e) (fun h' u tk hk => ⟨.str p.shown, H, I.kept hk, ⟨_, rfl⟩, q⟩) k4
theorem cs_repr {k : Nat} (hr : RoomG k X.A) : CallS X (.builtin "repr") reprD := by
  refine ⟨_, call_repr hr.gd (by have := hr.toRoom.un; omega), fun mg F H ρ S ds vs d Q w r e p => ?_⟩
  unfold reprD at e
  split at e
  · rename_i x
    split at e
    · rename_i pd ep
      split at e
      · rename_i hok
        cases e
        obtain ⟨v, rfl, h1⟩ := reps1 r
        unfold dataOf at ep
        split at ep
        · rename_i y ey
          split at ep
          · rename_i ht
            exact ⟨v, pd, rfl, dp_snap w 60 _ _ _ _ h1 ey ep, toP0_tl ht ep, hok, Post.same p w (.s _)⟩
          · cases ep
        · cases ep
      · cases e
    · cases e
  · cases e
end
end PL

set_option Elab.async false
set_option linter.all false
set_option maxRecDepth 100000
set_option maxHeartbeats 4000000
namespace PL
open PySem PySem.Spec PyProof.Rows L2
/-! ### two lists joined, the result a new cell -/
def catO (S : Store) (x y : D) : Option (List D) := match lstOf S x, lstOf S y with
  | some a, some b => if a.length + b.length ≤ 1000000 then some (a ++ b) else none
  | _, _ => none
def catK2 (o : Option (List D)) (S : Store) : R D := match o with
  | some ys => .ok (.ref S.length) (S ++ [.lst ys])
  | none => .bad
def catK1 (x : D) (r : R D) : R D := r.bind fun y S2 => catK2 (catO S2 x y) S2
def catK (r : R D) (b : M) (σ : Sls) : R D := r.bind fun x S1 => catK1 x (b σ S1)
def mCatN (a b : M) : M := fun σ S => catK (a σ S) b σ
section
variable {σ : Sls} {S : Store} {a b : M} {x y : D} {xs ys : List D}
theorem e_cat : mCatN a b σ S = catK (a σ S) b σ := rfl
theorem e_cat1 : catK (.ok x S) b σ = catK1 x (b σ S) := rfl
theorem e_cat2 : catK1 x (.ok y S) = catK2 (catO S x y) S := rfl
theorem e_cat3 : catK2 (some ys) S = .ok (.ref S.length) (S ++ [.lst ys]) := rfl
theorem catO_of (h1 : lstOf S x = some xs) (h2 : lstOf S y = some ys) (h : xs.length + ys.length ≤ 1000000) : catO S x y = some (xs ++ ys) := by
  unfold catO
  simp only [h1, h2]
  rw [if_pos h]
end
section
variable {X : Cx} {n : En} {W : WS} {pos : Pos}
theorem de_cat {ma mb : M} {a b : Expr} (ha : DE X n W ma a) (hb : DE X n W mb b) : DE X n W (mCatN ma mb) (.BinOp a .Add b pos) := by
  refine PE.weak (pe_op op_catL ha hb) fun σ H Q h => ?_
  obtain ⟨F, ρ, σd, S, rs, o⟩ := h
  refine ⟨F, ρ, σd, S, rs, Out.bind o fun d1 S1 o1 v1 H1 F1 ρ1 x1 w1 r1 => ⟨F1, ρ1, σd, S1, rs.next x1 w1, Out.bind o1 fun d2 S2 o2 v2 H2 F2 ρ2 x2 w2 r2 => ?_⟩⟩
  cases ec : catO S2 d1 d2 with
  | none => rw [ec] at o2; exact o2.elim
  | some zs =>
    rw [ec] at o2
    unfold catO at ec
    split at ec
    · rename_i xs ys e1 e2
      split at ec
      · rename_i hl
        cases ec
        have hl2 : xs.length + ys.length ≤ sizeLine := Nat.le_trans hl (by rw [sizeLine_eq]; decide)
        obtain ⟨a1, vs1, rfl, s1, q1, l1⟩ := lst_of w2 (x2.rep r1) e1
        obtain ⟨a2, vs2, rfl, s2, q2, l2⟩ := lst_of w2 r2 e2
        refine ⟨a1, a2, vs1, vs2, rfl, rfl, s1, s2, by rw [q1.length, q2.length]; exact hl2, fun p hp => ?_⟩
        have x3 := ext_cell (ρ := ρ2) (F := F2) (o := .lst (vs1 ++ vs2)) hp
        refine o2 (.ref p) _ _ _ ((x1.trans x2).trans x3) (w0_cell w2 hp ⟨vs1 ++ vs2, upd_same, x3.reps (q1.append q2), by rw [List.length_append]; exact hl2⟩) (.r ?_)
        rw [← w2.len, List.getElem?_append_right (Nat.le_refl _), Nat.sub_self]
        rfl
      · cases ec
    · cases ec
end
end PL

set_option Elab.async false
set_option linter.all false
set_option maxRecDepth 100000
set_option maxHeartbeats 4000000
namespace PL
open PySem PySem.Spec PyProof.Rows L2
/-! ### x.index(y), ints -/
def idxLD (S : Store) (x y : D) : Option D := match (lstOf S x).bind intsOf, y with
  | some ns, .int j => if j ∈ ns then some (.int (ns.idxOf j : Nat)) else none
  | _, _ => none
def idxLK1 (x : D) (r : R D) : R D := r.bind fun y S2 => R.of (idxLD S2 x y) S2
def idxLK (r : R D) (b : M) (σ : Sls) : R D := r.bind fun x S1 => if (lstOf S1 x).isSome = true then idxLK1 x (b σ S1) else .bad
def mIdxL (a b : M) : M := fun σ S => idxLK (a σ S) b σ
section
variable {σ : Sls} {S : Store} {a b : M} {x y : D} {xs ys : List D}
theorem e_idl : mIdxL a b σ S = idxLK (a σ S) b σ := rfl
theorem e_idl1 (h : lstOf S x = some xs) : idxLK (.ok x S) b σ = idxLK1 x (b σ S) := by
  show (if (lstOf S x).isSome = true then idxLK1 x (b σ S) else .bad) = _
  rw [h]; rfl
theorem e_idl2 : idxLK1 x (.ok y S) = R.of (idxLD S x y) S := rfl
theorem idxLD_of {ns : List Int} {j : Int} (h : lstOf S x = some (ns.map D.int)) (hj : j ∈ ns) : idxLD S x (.int j) = some (.int (ns.idxOf j : Nat)) := by
  have e : ∀ ns : List Int, intsOf (ns.map D.int) = some ns := fun ns => by
    induction ns with
    | nil => rfl
    | cons i r ih => rw [List.map_cons]; unfold intsOf; rw [ih]; rfl
  unfold idxLD
  rw [h]
  simp only [Option.bind_some, e]
  rw [if_pos hj]
end
theorem eqV_int {i j : Int} : eqV (.int i) (.int j) = decide (i = j) := by
  first | rfl | (unfold eqV; simp) | simp [eqV]
theorem idx_before (j : Int) : ∀ (ns : List Int) (m : Nat) (z : Int), m < ns.idxOf j → ns[m]? = some z → z ≠ j
  | [], m, z, _, h => by simp at h
  | i :: r, m, z, hm, h => by
    rw [List.idxOf_cons] at hm
    by_cases e : i = j
    · subst e
      simp at hm
    · cases m with
      | zero => cases h; exact e
      | succ m =>
        refine idx_before j r m z ?_ h
        have e' : (i == j) = false := beq_eq_false_iff_ne.mpr e
        rw [e'] at hm
        simp only [cond_false] at hm
        omega
theorem idx_first (j : Int) (ns : List Int) (h : j ∈ ns) : ns[ns.idxOf j]? = some j ∧ ∀ m z, m < ns.idxOf j → ns[m]? = some z → z ≠ j := by
  refine ⟨?_, fun m z hm hz => idx_before j ns m z hm hz⟩
  rw [List.getElem?_eq_getElem (List.idxOf_lt_length_of_mem h), List.getElem_idxOf]
section
variable {X : Cx} {n : En} {W : WS} {pos : Pos}
theorem de_idl {o e : Expr} {mo me : M} {p2 p3 : Pos} (ho : DE X n W mo o) (he : DE X n W me e)
    (hb : attributeBase o "index" X.env (eval o X.env) = eval o X.env := by rfl) (hline : (p2.endLine == p3.line) = true := by rfl)
    (hs : starEach [e] X.env = (false, eval e X.env) :: starEach [] X.env := by rfl) (hpl : (backTo p3 (starEach [] X.env)).any (·.1) = false := by rfl)
    (hfew : ((backTo p3 (starEach [e] X.env)).all (fun x => !x.1) && (backToKw p3 (keywordEach [] X.env)).all (fun x => x.1.isSome)
      && decide (([e] : List Expr).length + ([] : List Keyword).length + (if ([] : List Keyword).isEmpty then 0 else 1) < 30)) = true := by rfl) :
    DE X n W (mIdxL mo me) (.Call (.Attribute o "index" p2) [e] [] p3) := by
  refine PE.weak (pe_bm PySem.F.plainAttrs_list PySem.F.slot_list_index PySem.F.type_list_index mt_index ho (pa_cons he pa_nil hs) hb hfew hline hs hpl) fun σ H Q q => ?_
  obtain ⟨F, ρ, σd, S, rs, o⟩ := q
  refine ⟨F, ρ, σd, S, rs, Out.bind o fun x S1 o1 vx H1 F1 ρ1 x1 w1 r1 => ?_⟩
  split at o1
  · rename_i hl
    cases el : lstOf S1 x with
    | none => rw [el] at hl; cases hl
    | some xs0 =>
      obtain ⟨a, vs0, rfl, h1, h2, h3⟩ := lst_of w1 r1 el
      refine ⟨.inl ⟨rfl, _, h1⟩, F1, ρ1, σd, S1, rs.next x1 w1, Out.bind o1 fun y S2 o2 vy H2 F2 ρ2 x2 w2 r2 => ?_⟩
      obtain ⟨d, ed, p⟩ := Out.of o2
      unfold idxLD at ed
      split at ed
      · rename_i ns j en
        split at ed
        · rename_i hj
          cases ed
          obtain ⟨a2, ea, h4⟩ := ints_of w2 (x2.rep r1) en
          cases ea
          obtain ⟨f1, f2⟩ := idx_first j ns hj
          refine ⟨a, ns.map V.int, .int j, ns.idxOf j, .int j, rfl, by rw [rep_int r2], h4, rfl, List.all_eq_true.mpr fun z hz => ?_, by rw [List.getElem?_map, f1]; rfl, by rw [eqV_int]; simp, fun m z' hm hz => ?_, ?_⟩
          · obtain ⟨i, _, rfl⟩ := List.mem_map.mp hz
            rfl
          · rw [List.getElem?_map] at hz
            cases e : ns[m]? with
            | none => rw [e] at hz; cases hz
            | some z =>
              rw [e] at hz
              cases hz
              rw [eqV_int]
              simpa using f2 m z hm e
          · exact Post.same (Post.next p (x1.trans x2)) w2 (.i _)
        · cases ed
      · cases ed
  · exact o1.elim
end
/-! ### d.get(k, x) -/
def getD2 (S : Store) (x y z : D) : Option D := match dictOf S x, keyOf y with
  | some p, some k => if p.1.length = p.2.length then some ((lookD p.1 p.2 k).getD z) else none
  | _, _ => none
def getK2 (x y : D) (r : R D) : R D := r.bind fun z S3 => R.of (getD2 S3 x y z) S3
def getK1 (x : D) (r : R D) (c : M) (σ : Sls) : R D := r.bind fun y S2 => getK2 x y (c σ S2)
def getK (r : R D) (b c : M) (σ : Sls) : R D := r.bind fun x S1 => if (dictOf S1 x).isSome = true then getK1 x (b σ S1) c σ else .bad
def mGet2 (a b c : M) : M := fun σ S => getK (a σ S) b c σ
section
variable {σ : Sls} {S : Store} {a b c : M} {x y z : D} {p : List Key × List D}
theorem e_get2 : mGet2 a b c σ S = getK (a σ S) b c σ := rfl
theorem e_get21 {ks : List Key} {ds : List D} : getK (.ok (.dK ks ds) S) b c σ = getK1 (.dK ks ds) (b σ S) c σ := rfl
theorem e_get22 : getK1 x (.ok y S) c σ = getK2 x y (c σ S) := rfl
theorem e_get23 : getK2 x y (.ok z S) = R.of (getD2 S x y z) S := rfl
def optGet (o : Option D) (z : D) : D := o.getD z
theorem o_get {ks : List Key} {ds : List D} (h : ks.length = ds.length) : getD2 S (.dK ks ds) y z = (keyOf y).map fun k => optGet (lookD ks ds k) z := by
  unfold getD2 optGet
  cases keyOf y with
  | none => rfl
  | some k => show (if ks.length = ds.length then some _ else none) = _; rw [if_pos h]; rfl
theorem optGet_s {d : D} : optGet (some d) z = d := rfl
theorem optGet_n : optGet none z = z := rfl
end
section
variable {X : Cx} {n : En} {W : WS} {pos : Pos}
theorem de_get2 {o e f : Expr} {mo me mf : M} {p2 p3 : Pos} (hu65 : X.A.units + 65 < cLine) (ho : DE X n W mo o) (he : DE X n W me e) (hf : DE X n W mf f)
    (hb : attributeBase o "get" X.env (eval o X.env) = eval o X.env := by rfl) (hline : (p2.endLine == p3.line) = true := by rfl)
    (hfew : ((backTo p3 (starEach [e, f] X.env)).all (fun x => !x.1) && (backToKw p3 (keywordEach [] X.env)).all (fun x => x.1.isSome)
      && decide (([e, f] : List Expr).length + ([] : List Keyword).length + (if ([] : List Keyword).isEmpty then 0 else 1) < 30)) = true := by rfl)
    (htr : backTo p3 (starEach [e, f] X.env) = [(false, eval e X.env), (false, eval f X.env)] := by rfl) :
    DE X n W (mGet2 mo me mf) (.Call (.Attribute o "get" p2) [e, f] [] p3) := by
  have hu : X.A.units + 1 < cLine := by omega
  refine PE.weak (pe_dget2 hu ho he hf ⟨hb, hfew, hline, htr⟩) fun σ H Q q => ?_
  obtain ⟨F, ρ, σd, S, rs, o⟩ := q
  refine ⟨F, ρ, σd, S, rs, Out.bind o fun x S1 o1 vx H1 F1 ρ1 x1 w1 r1 => ?_⟩
  split at o1
  · rename_i hl
    cases el : dictOf S1 x with
    | none => rw [el] at hl; cases hl
    | some p0 =>
      obtain ⟨a, vs0, rfl, h1, h2, h3⟩ := dict_of w1 r1 el
      refine ⟨a, rfl, .inl ⟨_, .inl h1⟩, F1, ρ1, σd, S1, rs.next x1 w1, Out.bind o1 fun y S2 o2 vy H2 F2 ρ2 x2 w2 r2 => ⟨F2, ρ2, σd, S2, (rs.next x1 w1).next x2 w2, Out.bind o2 fun z S3 o3 vz H3 F3 ρ3 x3 w3 r3 => ?_⟩⟩
      obtain ⟨d, ed, pd⟩ := Out.of o3
      unfold getD2 at ed
      split at ed
      · rename_i p k ep ek
        split at ed
        · rename_i hlen
          cases ed
          have x23 := x2.trans x3
          obtain ⟨a3, vs, ea, g1, g2, g3⟩ := dict_of w3 (x23.rep r1) ep
          cases ea
          have hk := keyOf_rep r2 ek
          have x13 := (x1.trans x2).trans x3
          cases e4 : lookD p.1 p.2 k with
          | some d =>
            obtain ⟨v, g4, g5⟩ := (lookD_reps (x := k) g2).1 d e4
            rw [e4] at pd
            exact ⟨some v, .inl ⟨_, k, .inl g1, hk, g4.symm⟩, pd v H3 F3 ρ3 x13 w3 g5⟩
          | none =>
            have g4 := (lookD_reps (x := k) g2).2 e4 hlen
            rw [e4] at pd
            exact ⟨none, .inl ⟨_, k, .inl g1, hk, g4.symm⟩, pd vz H3 F3 ρ3 x13 w3 r3⟩
        · cases ed
      · cases ed
  · exact o1.elim
end
/-! ### l.extend(m): both cells -/
def extS (S : Store) (x y : D) : Option Store := match x, y with
  | .ref m, .ref k => match S[m]?, S[k]? with
    | some (.lst ds), some (.lst es) => if ds.length + es.length ≤ 1000000 then some (S.set m (.lst (ds ++ es))) else none
    | _, _ => none
  | _, _ => none
def extK2 (o : Option Store) (σ : Sls) : Fl := match o with
  | some S3 => .nx σ S3
  | none => .bad
def mExtR (o e : M) : MS := fun σ S => Fl.of (o σ S) σ fun x S1 => if lstAt S1 x = true then Fl.of (e σ S1) σ fun d S2 => extK2 (extS S2 x d) σ else .bad
section
variable {X : Cx} {n : En} {W : WS} {pos : Pos}
theorem st_extR {o e : Expr} {mo me : M} {p2 p3 : Pos} (ho : DE X n W mo o) (he : DE X n W me e)
    (hb : attributeBase o "extend" X.env (eval o X.env) = eval o X.env := by rfl) (hline : (p2.endLine == p3.line) = true := by rfl)
    (hs : starEach [e] X.env = (false, eval e X.env) :: starEach [] X.env := by rfl) (hpl : (backTo p3 (starEach [] X.env)).any (·.1) = false := by rfl)
    (hfew : ((backTo p3 (starEach [e] X.env)).all (fun x => !x.1) && (backToKw p3 (keywordEach [] X.env)).all (fun x => x.1.isSome)
      && decide (([e] : List Expr).length + ([] : List Keyword).length + (if ([] : List Keyword).isEmpty then 0 else 1) < 30)) = true := by rfl)
    (hsw : swapsWith (.Call (.Attribute o "extend" p2) [e] [] p3) none pos.line X.env = pure false := by rfl) :
    DS X n W (mExtR mo me) (.Expr (.Call (.Attribute o "extend" p2) [e] [] p3) pos) := by
  refine PS.weak (ps_expr (pe_bm PySem.F.plainAttrs_list PySem.F.slot_list_extend PySem.F.type_list_extend mt_extend ho (pa_cons he pa_nil hs) hb hfew hline hs hpl) hsw) fun E σ H q => ?_
  obtain ⟨F, ρ, σd, S, rs, o⟩ := q
  refine ⟨F, ρ, σd, S, rs, (outs_of o).imp fun x S1 o1 vx H1 F1 ρ1 x1 w1 r1 => ?_⟩
  split at o1
  · rename_i hl
    unfold lstAt at hl
    split at hl
    · rename_i m
      split at hl
      · rename_i ds0 hc0
        obtain ⟨b, rfl, hb⟩ := rep_ref r1
        obtain ⟨vs0, k1, k2, k3⟩ := w1.cell m b _ hb hc0
        refine ⟨.inl ⟨rfl, _, .inl (.inl k1)⟩, F1, ρ1, σd, S1, rs.next x1 w1, (outs_of o1).imp fun d S2 o2 v H2 F2 ρ2 x2 w2 r2 => ?_⟩
        cases e3 : extS S2 (.ref m) d with
        | none => rw [e3] at o2; exact o2.elim
        | some S3 =>
          rw [e3] at o2
          unfold extS at e3
          split at e3
          · rename_i m' k' em
            cases em
            split at e3
            · rename_i ds es hc hc2
              split at e3
              · rename_i hl2
                cases e3
                have hl3 : ds.length + es.length ≤ sizeLine := Nat.le_trans hl2 (by rw [sizeLine_eq]; decide)
                obtain ⟨b', eb, hb2⟩ := rep_ref (x2.rep r1)
                cases eb
                obtain ⟨c, ec, hb3⟩ := rep_ref r2
                cases ec
                obtain ⟨vs, h4, h5, h6⟩ := w2.cell m b _ hb2 hc
                obtain ⟨us, h7, h8, h9⟩ := w2.cell k' c _ hb3 hc2
                have rs2 := (rs.next x1 w1).next x2 w2
                exact ⟨b, c, vs, us, rfl, rfl, h4, h7, by rw [h5.length, h8.length]; exact hl3, o2 _ _ F2 ρ2 (x1.mon.trans x2.mon) (rs2.next (ext_mut (List.mem_of_getElem? hb2) (by rw [h4]; exact fun z => nomatch z)) (w2.mut hb2 ⟨vs ++ us, upd_same, h5.append h8, by rw [List.length_append]; exact hl3⟩))⟩
              · cases e3
            · cases e3
          · cases e3
      · cases hl
    · cases hl
  · exact o1.elim
end
end PL

set_option Elab.async false
set_option linter.all false
set_option maxRecDepth 100000
set_option maxHeartbeats 4000000
namespace PL
open PySem PySem.Spec PyProof.Rows L2
/-! ### min of a list of pairs of ints -/
def prsOf : List D → Option (List (Int × Int))
  | [] => some []
  | .tup [.int i, .int j] :: ds => (prsOf ds).map ((i, j) :: ·)
  | _ => none
def prP (p : Int × Int) : PyData := .tuple [.int p.1, .int p.2]
def prT (p : Int × Int) : D := .tup [.int p.1, .int p.2]
def ltP (y a : Int × Int) : Bool := decide (y.1 < a.1 ∨ (y.1 = a.1 ∧ y.2 < a.2))
def minP (p : Int × Int) (ps : List (Int × Int)) : Int × Int := ps.foldl (fun a y => if ltP y a = true then y else a) p
theorem prsOf_eq : ∀ {ds : List D} {ps : List (Int × Int)}, prsOf ds = some ps → ds = ps.map prT
  | [], ps, h => by cases h; rfl
  | d :: ds, ps, h => by
    unfold prsOf at h
    split at h
    · rename_i e; cases e
    · rename_i i j r e
      cases e
      cases e2 : prsOf ds with
      | none => rw [e2] at h; cases h
      | some qs =>
        rw [e2] at h
        cases h
        rw [prsOf_eq e2]
        rfl
    · cases h
theorem prsOf_map : ∀ ps : List (Int × Int), prsOf (ps.map prT) = some ps
  | [] => rfl
  | p :: ps => by
    rw [List.map_cons]
    show (prsOf (ps.map prT)).map ((p.1, p.2) :: ·) = _
    rw [prsOf_map ps]; rfl
theorem lt_pr (y a : Int × Int) : PySem.W.dataLt (prP y) (prP a) = ltP y a := by
  unfold prP ltP
  rw [PySem.W.dataLt_ii]
theorem min_pr : ∀ (ps : List (Int × Int)) (p : Int × Int), PySem.W.minD (prP p) (ps.map prP) = prP (minP p ps)
  | [], p => rfl
  | q :: ps, p => by
    have ih := min_pr ps (if ltP q p = true then q else p)
    unfold PySem.W.minD minP at ih ⊢
    rw [List.map_cons, List.foldl_cons, List.foldl_cons, lt_pr]
    rw [← ih]
    congr 1
    split <;> rfl
theorem min_mem : ∀ (ps : List (Int × Int)) (p : Int × Int), minP p ps ∈ p :: ps
  | [], p => List.mem_cons_self
  | q :: ps, p => by
    have ih := min_mem ps (if ltP q p = true then q else p)
    show minP (if ltP q p = true then q else p) ps ∈ _
    rcases List.mem_cons.mp ih with h | h
    · rw [h]
      split
      · exact List.mem_cons_of_mem _ List.mem_cons_self
      · exact List.mem_cons_self
    · exact List.mem_cons_of_mem _ (List.mem_cons_of_mem _ h)
theorem all_pr {h : Heap} {L : List Value} {a b c d : Int} {as bs : List Addr} (r1 : ReadsAll h L [.int a, .int b] as) (r2 : ReadsAll h L [.int c, .int d] bs) : a = c ∧ b = d := by
  cases r1 with
  | cons x1 y1 =>
    cases r2 with
    | cons x2 y2 =>
      cases y1 with
      | cons z1 w1 =>
        cases y2 with
        | cons z2 w2 =>
          cases x1
          cases x2
          cases z1
          cases z2
          exact ⟨rfl, rfl⟩
theorem reads_pr {h : Heap} {v : Value} {p q : Int × Int} {as bs : List Addr} (r1 : Reads h v (prP p) as) (r2 : Reads h v (prP q) bs) : p = q := by
  unfold prP at r1 r2
  cases r1 with
  | tuple e1 c1 d1 a1 =>
    cases r2 with
    | tuple e2 c2 d2 a2 =>
      rw [e1] at e2
      cases e2
      rw [d1] at d2
      cases d2
      obtain ⟨h1, h2⟩ := all_pr a1 a2
      exact Prod.ext h1 h2
def minG (S : Store) : List D → Option D
  | [x] => match lstOf S x with
    | some ds => match prsOf ds with
      | some (p :: ps) => some (prT (minP p ps))
      | _ => none
    | none => none
  | _ => none
def minDG (S : Store) (ds : List D) : Option D := (minD S ds).or (minG S ds)
section
variable {X : Cx}
theorem dp_prs {K : PySem.W.Frag} {mg} {F H : Hp} {ρ : List Addr} {S : Store} (w : W0 K mg F H ρ S) : ∀ {ps : List (Int × Int)} {vs : List V}, Reps K F ρ (ps.map prT) vs → DpAll K H vs (ps.map prP)
  | [], vs, r => by
    unfold Reps at r
    rw [r]
    exact .nil
  | p :: ps, vs, r => by
    rw [List.map_cons] at r
    unfold Reps at r
    obtain ⟨v, vs', rfl, h1, h2⟩ := r
    exact .cons (dp_of w.fh _ v _ h1 (by unfold prT; simp only [toP0, toPs, prP, Option.map_some])) (dp_prs w h2)
theorem call_minP (hh : X.A.handled = none) (hu : X.A.units + 64 < cLine) : CallR X (.builtin "min") fun xs H Q => ∃ (a : Addr) (us : List V) (p : Int × Int) (ps : List (Int × Int)), xs = [.ref a] ∧ SqL X.K H a us ∧ DpAll X.K H us ((p :: ps).map prP) ∧
    ∀ (i : Nat) (u : V), us[i]? = some u → (p :: ps)[i]? = some (minP p ps) → Q u H := by
  intro pins s σ H xs ws Q I r h
  obtain ⟨a, us, p, ps, rfl, hl, hd, q⟩ := h
  obtain ⟨its, rv, hL, hz⟩ := I.list hl
  rw [Vals.ref1 r]
  obtain ⟨as, hr⟩ := Dp.readsAll I _ us its hd rv
  have hr' : ReadsAll s.heap its.toArray.toList (prP p :: ps.map prP) as := by simpa using hr
  have hdep : PyData.depthAll (prP p :: ps.map prP) ≤ 2 := by
    have : ∀ qs : List (Int × Int), PyData.depthAll (qs.map prP) ≤ 2 := fun qs => by
      induction qs with
      | nil => rw [List.map_nil]; simp only [PyData.depthAll]; omega
      | cons q qs ih => rw [List.map_cons]; simp only [PyData.depthAll, prP, PyData.depth] at ih ⊢; omega
    exact this (p :: ps)
  have hal : PySem.W.AlikeAll (prP p :: ps.map prP) := by
    have : ∀ x ∈ (p :: ps).map prP, ∃ q, x = prP q := fun x hx => by
      obtain ⟨q, _, rfl⟩ := List.mem_map.mp hx
      exact ⟨q, rfl⟩
    refine ⟨fun x hx y hy => ?_, fun x hx => ?_⟩
    · obtain ⟨q, rfl⟩ := this x hx
      obtain ⟨q2, rfl⟩ := this y hy
      rfl
    · obtain ⟨q, rfl⟩ := this x hx
      exact fun z => nomatch z
  refine PySem.W.min_list_data hh hL.isList hr' hal (by omega) fun i v h' tk bs hi hv hk => ?_
  have hi' : its[i]? = some v := by simpa using hi
  obtain ⟨u, hu1, hu2⟩ : ∃ u, us[i]? = some u ∧ RelV u v := by
    obtain ⟨hlt, e⟩ := List.getElem?_eq_some_iff.mp hi'
    have hlu : i < us.length := by rw [rv.length]; exact hlt
    obtain ⟨v', h1, h2⟩ := rv.get (List.getElem?_eq_getElem hlu)
    rw [hi'] at h1
    cases h1
    exact ⟨_, List.getElem?_eq_getElem hlu, h2⟩
  rw [min_pr] at hv
  obtain ⟨cs, hv2, hlt, _, _⟩ := PySem.W.readsAll_at hr' i v (by simpa using hi')
  have hpi : ∃ q, (p :: ps)[i]? = some q := by
    rw [← List.map_cons, List.length_map] at hlt
    exact ⟨_, List.getElem?_eq_getElem hlt⟩
  obtain ⟨q0, hq0⟩ := hpi
  have hgd : (prP p :: ps.map prP).getD i .none = prP q0 := by
    rw [← List.map_cons, List.getD_eq_getElem?_getD, List.getElem?_map, hq0]; rfl
  rw [hgd] at hv2
  have hv3 := PySem.W.reads_keeps hk hv2
  have := reads_pr hv3 hv
  subst this
  exact ⟨u, H, I.kept hk, hu2, q i u hu1 hq0⟩
theorem cs_minG (hh : X.A.handled = none) (hc : X.calm = true) (hu : X.A.units + 64 < cLine) : CallS X (.builtin "min") minDG := by
  obtain ⟨r, h1, h2⟩ := cs_min hc
  refine ⟨_, h1.or (call_minP hh hu), fun mg F H ρ S ds vs d Q w rp e p => ?_⟩
  unfold minDG at e
  cases e1 : minD S ds with
  | some d1 =>
    rw [e1] at e
    cases e
    exact .inl (h2 mg F H ρ S ds vs _ Q w rp e1 p)
  | none =>
    rw [e1] at e
    have e : minG S ds = some d := e
    unfold minG at e
    split at e
    · rename_i x
      split at e
      · rename_i es e0
        split at e
        · rename_i p0 ps e2
          cases e
          obtain ⟨v, rfl, h3⟩ := reps1 rp
          obtain ⟨a, us, rfl, h4, h5, _⟩ := lst_of w h3 e0
          have hes := prsOf_eq e2
          subst hes
          refine .inr ⟨a, us, p0, ps, rfl, h4, dp_prs w h5, fun i u hu1 hp => ?_⟩
          obtain ⟨u', hu2, hr⟩ := h5.get (show ((p0 :: ps).map prT)[i]? = some (prT (minP p0 ps)) by rw [List.getElem?_map, hp]; rfl)
          rw [hu1] at hu2
          cases hu2
          exact Post.same p w hr
        · cases e
      · cases e
    · cases e
end
end PL

set_option Elab.async false
set_option linter.all false
set_option maxRecDepth 100000
set_option maxHeartbeats 4000000
namespace PL
open PySem PySem.Spec PyProof.Rows L2
open PySem.Sem (wp)
/-! ### zip with strict=False -/
def zkF : List (Str × Value) := [(Str.ofString "strict", .bool false)]
theorem meets_zsF (k1 k2 : Bool) (l1 l2 : Addr) (xs ys : Array Value) :
    Meets (Builtin.«zip.__new__» ⟨[.type "zip", .ref l1, .ref l2], zkF⟩) (fun _ R s => SQ k1 s.heap l1 xs ∧ SQ k2 s.heap l2 ys ∧
      R (.ok (.ret (.ref (zh4 s.heap k1 k2 l1 l2).objs.size))) { s with heap := zh5 false s.heap k1 k2 l1 l2 }) :=
  .of_wp fun prog w A R s h => by
    obtain ⟨hp, g, d, tk, os⟩ := s
    obtain ⟨h1, h2, h⟩ := h
    have hsub := sub_zip
    have q1 : ∀ {A' : Around} {E : Value → Shared → Prop} {Q : Value → Shared → Prop}, Q (.ref hp.objs.size) ⟨hp.push (itO k1 l1), g, d, tk, os⟩ → wpAny (model prog w) A' (pyIter (.ref l1)) Q E ⟨hp, g, d, tk, os⟩ :=
      fun q => sq_iter (s := ⟨hp, g, d, tk, os⟩) h1 q
    have q2 : ∀ {A' : Around} {E : Value → Shared → Prop} {Q : Value → Shared → Prop}, Q (.ref (hp.push (itO k1 l1)).objs.size) ⟨(hp.push (itO k1 l1)).push (itO k2 l2), g, d, tk, os⟩ → wpAny (model prog w) A' (pyIter (.ref l2)) Q E ⟨hp.push (itO k1 l1), g, d, tk, os⟩ :=
      fun q => sq_iter (s := ⟨hp.push (itO k1 l1), g, d, tk, os⟩) (SQ.push h2 _) q
    show wpAny _ _ (Builtin.«zip.__new__» ⟨[.type "zip", .ref l1, .ref l2], [(Str.ofString "strict", .bool false)]⟩) _ _ _
    have e2 : (Str.ofString "strict" != ("strict" : Str)) = false := by decide +kernel
    wp_walk using q1, q2
    exact ⟨_, rfl, h⟩
theorem tc_zsF (a b : Value) : checkTypeCall "zip" ⟨[a, b], zkF⟩ = pure () := by
  unfold zkF; kernel_rfl
theorem nc_zsF (a b : Value) : checkBuiltinCall "zip.__new__" ⟨[.type "zip", a, b], zkF⟩ = pure () := by
  unfold zkF; kernel_rfl
theorem ao_zsF (obj a b : Value) : argsOk "object.__init__" ⟨[obj, a, b], zkF⟩ := by
  unfold argsOk zkF; kernel_rfl
theorem call_zsF {prog : Program} {w : World} {A : Around} {E : Value → Shared → Prop} {s : Shared} {k1 k2 : Bool} {l1 l2 : Addr} {xs ys : Array Value} {Q : Value → Shared → Prop} (hl1 : SQ k1 s.heap l1 xs) (hl2 : SQ k2 s.heap l2 ys)
    (h : ∀ h', ZS false h' (s.heap.objs.size + 4) (s.heap.objs.size + 2) (s.heap.objs.size + 3) .none → IsPair h' (s.heap.objs.size + 2) (.ref s.heap.objs.size) (.ref (s.heap.objs.size + 1)) →
      IsPair h' (s.heap.objs.size + 3) .none .none → SI k1 h' s.heap.objs.size l1 0 → SI k2 h' (s.heap.objs.size + 1) l2 0 → h'.objs.size = s.heap.objs.size + 5 →
      (∀ c o, s.heap.get? c = some o → h'.get? c = some o) → Q (.ref (s.heap.objs.size + 4)) { s with heap := h' }) :
    wpAny (model prog w) A (call (.type "zip") [.ref l1, .ref l2] zkF) Q E s := by
  have y1 : (zh1 s.heap k1 l1).objs.size = s.heap.objs.size + 1 := Heap.size_push ..
  have y2 : (zh2 s.heap k1 k2 l1 l2).objs.size = s.heap.objs.size + 2 := by rw [Heap.size_push, y1]
  have y3 : (zh3 s.heap k1 k2 l1 l2).objs.size = s.heap.objs.size + 3 := by rw [Heap.size_push, y2]
  have y4 : (zh4 s.heap k1 k2 l1 l2).objs.size = s.heap.objs.size + 4 := by rw [Heap.size_push, y3]
  have y5 : (zh5 false s.heap k1 k2 l1 l2).objs.size = s.heap.objs.size + 5 := by rw [Heap.size_push, y4]
  have g5 : (zh5 false s.heap k1 k2 l1 l2).get? (zh4 s.heap k1 k2 l1 l2).objs.size = some _ := Heap.get?_push_size _ rfl
  have g4 : (zh5 false s.heap k1 k2 l1 l2).get? (zh3 s.heap k1 k2 l1 l2).objs.size = some _ := Heap.get?_push_of_some _ (Heap.get?_push_size _ rfl)
  have g3 : (zh5 false s.heap k1 k2 l1 l2).get? (zh2 s.heap k1 k2 l1 l2).objs.size = some _ := Heap.get?_push_of_some _ (Heap.get?_push_of_some _ (Heap.get?_push_size _ rfl))
  have g2 : (zh5 false s.heap k1 k2 l1 l2).get? (zh1 s.heap k1 l1).objs.size = some _ := Heap.get?_push_of_some _ (Heap.get?_push_of_some _ (Heap.get?_push_of_some _ (Heap.get?_push_size _ rfl)))
  have g1 : (zh5 false s.heap k1 k2 l1 l2).get? s.heap.objs.size = some _ := Heap.get?_push_of_some _ (Heap.get?_push_of_some _ (Heap.get?_push_of_some _ (Heap.get?_push_of_some _ (Heap.get?_push_size _ rfl))))
  have fin : SQ k1 s.heap l1 xs ∧ SQ k2 s.heap l2 ys ∧ (wants (fun obj s₁ => s₁.TypeIs obj "zip" ∧ Q obj s₁) E) (.ok (.ret (.ref (zh4 s.heap k1 k2 l1 l2).objs.size))) { s with heap := zh5 false s.heap k1 k2 l1 l2 } := by
    refine ⟨hl1, hl2, ?_⟩
    show _ ∧ _
    rw [y2, y3, y4] at g5
    rw [y1, y2] at g3
    rw [y3] at g4
    rw [y1] at g2
    rw [y4]
    exact ⟨⟨_, g5, rfl⟩, h _ g5 g3 g4 (si_new k1 g1) (si_new k2 g2) y5 fun c o x =>
      Heap.get?_push_of_some _ (Heap.get?_push_of_some _ (Heap.get?_push_of_some _ (Heap.get?_push_of_some _ (Heap.get?_push_of_some _ x))))⟩
  exact callType_newKw F.called_zip (by decide) (tc_zsF _ _) (nc_zsF _ _) (fun obj => ao_zsF obj _ _) F.entry_zip_new (meets_zsF k1 k2 l1 l2 xs ys) fin
theorem zs_madeF {X : Cx} {pins : List (Addr × Obj)} {σ : L2.St} {H : Hp} {s : Shared} {k1 k2 : Bool} {a b : Addr} {xs ys : List V} {elts : List Expr} {kk : Nat} {tpos : Pos} {Q : Value → Shared → Prop} (I : Inv X pins σ H s) (hx : SqK X.K k1 H a xs) (hy : SqK X.K k2 H b ys)
    (q : ∀ (s' : Shared) (z : Addr) (fp : List Addr) (Sf : Nat → Heap → Prop), Inv X pins σ H s' → Turn X.prog X.w X.K (.Tuple elts kk tpos) (Itzk X.K false k1 k2 a b) fp z Sf → Sf 0 s'.heap → (∀ c, c ∈ fp → FpOk X pins H c) → (∀ {A : Around} {E : Value → Shared → Prop} {Q : Value → Shared → Prop}, Q (.ref z) s' → wpAny (model X.prog X.w) A (pyIter (.ref z)) Q E s') → Q (.ref z) s') :
    wpAny (model X.prog X.w) X.A (call (.type "zip") [.ref a, .ref b] zkF) Q X.xe s := by
  obtain ⟨its, rv, p1⟩ := sqk_inv I hx
  obtain ⟨its2, rv2, p2⟩ := sqk_inv I hy
  refine call_zsF p1 p2 fun h' m1 m2 m3 m4 m5 sz kp => ?_
  have I2 : Inv X pins σ H { s with heap := h' } := I.kept (t' := s.toks) kp
  refine q _ _ [s.heap.objs.size + 4, s.heap.objs.size + 2, s.heap.objs.size + 3, s.heap.objs.size, s.heap.objs.size + 1] _ I2 (turn_zs (PySem.W.ktu_apart s.heap.objs.size a b p1.lt p2.lt)) ⟨m1, m2, ⟨_, _, m3⟩, m4, m5⟩ (fun c hcm => ?_) (fun h => zs_self m1 h)
  have hle : s.heap.objs.size ≤ c := by
    rcases mem5 hcm with e | e | e | e | e <;> rw [e] <;> omega
  exact I.fpOk hle (I.hok.fresh hle)
section
variable {X : Cx} {n : En} {W : WS} {pos : Pos} {elts : List Expr} {kk : Nat} {tpos : Pos} {e e2 : Expr} {ta : TA} {p : Pos}
theorem pi_zsF {p2 kp : Pos} {jj} (hg : Gl X "zip") (hm : X.mg "zip" = none) (ha : PA X [e, e2] ta)
    (hs : backTo pos (starEach [e, e2] X.env) = (false, eval e X.env) :: backTo pos (starEach [e2] X.env) := by rfl) (hpl : (backTo pos (starEach [e, e2] X.env)).any (·.1) = false := by rfl)
    (hk1 : (backToKw pos (keywordEach [⟨some (Str.ofString "strict"), .Constant (.bool false) jj p2, kp⟩] X.env)).all (·.1.isSome) = true := by rfl) (hk2 : (backToKw pos (keywordEach [⟨some (Str.ofString "strict"), .Constant (.bool false) jj p2, kp⟩] X.env)).any (·.1.isNone) = false := by rfl)
    (hk3 : (backToKw pos (keywordEach [⟨some (Str.ofString "strict"), .Constant (.bool false) jj p2, kp⟩] X.env)).filterMap (·.1) = [Str.ofString "strict"] := by rfl) :
    PI X (.Tuple elts kk tpos) (.Call (.Name "zip" p) [e, e2] [⟨some (Str.ofString "strict"), .Constant (.bool false) jj p2, kp⟩] pos) (iZs X.K false ta) := by
  refine ⟨fun pins s σ H R I h => ?_⟩
  refine wpAny_Call_Name_kw (ld_blt I hg hm PyProof.Rows.boot_zip ?_)
  rw [hs] at hpl ⊢
  have hk : PK X [⟨some (Str.ofString "strict"), .Constant (.bool false) jj p2, kp⟩] _ := pk_cons (pe_bl (b := false)) pk_nil
  refine call_tk hpl hk2 hk1 (thn (hs ▸ ha.run pos pins s σ H _ I h) fun us s1 ⟨vs, H1, I1, r1, q1⟩ => ?_)
  refine thn (hk.run pos pins s1 σ H1 (fun zs H2 => zs = [.bl false] ∧ H2 = H1) I1 ⟨rfl, rfl⟩) fun ws s2 ⟨zs, H2, I2, r2, q2⟩ => ?_
  obtain ⟨rfl, rfl⟩ := q2
  rw [hk3]
  obtain ⟨a, b, k1, k2, xs, ys, ex, hx, hy, q⟩ := q1
  subst ex
  rw [vals_rr r1, vals_b r2]
  exact zs_madeF I2 hx hy fun s' z fp Sf I3 tn s0 fpo self => self ⟨z, fp, Sf, _, H2, rfl, I3, tn, s0, fpo, q⟩
theorem di_zipF {ma : MA} {p2 kp : Pos} {jj} (hg : Gl X "zip") (hm : X.mg "zip" = none) (ha : DA X n W ma [e, e2])
    (hs : backTo pos (starEach [e, e2] X.env) = (false, eval e X.env) :: backTo pos (starEach [e2] X.env) := by rfl) (hpl : (backTo pos (starEach [e, e2] X.env)).any (·.1) = false := by rfl)
    (hk1 : (backToKw pos (keywordEach [⟨some (Str.ofString "strict"), .Constant (.bool false) jj p2, kp⟩] X.env)).all (·.1.isSome) = true := by rfl) (hk2 : (backToKw pos (keywordEach [⟨some (Str.ofString "strict"), .Constant (.bool false) jj p2, kp⟩] X.env)).any (·.1.isNone) = false := by rfl)
    (hk3 : (backToKw pos (keywordEach [⟨some (Str.ofString "strict"), .Constant (.bool false) jj p2, kp⟩] X.env)).filterMap (·.1) = [Str.ofString "strict"] := by rfl) :
    DI X n W (mZip false ma) (.Tuple elts kk tpos) (.Call (.Name "zip" p) [e, e2] [⟨some (Str.ofString "strict"), .Constant (.bool false) jj p2, kp⟩] pos) := by
  refine PI.weak (pi_zsF hg hm ha hs hpl hk1 hk2 hk3) fun σ H Q q => ?_
  obtain ⟨F, ρ, σd, S, rs, o⟩ := q
  refine ⟨F, ρ, σd, S, rs, Out.bind o fun ds S1 o1 vs H1 F1 ρ1 x1 w1 r1 => ?_⟩
  obtain ⟨ps, e, p⟩ := Out.of o1
  unfold zipD at e
  split at e
  · split at e
    · rename_i x y _ _ a b ea eb
      split at e
      · rename_i hs
        cases e
        obtain ⟨v, u, rfl, g1, g2⟩ := reps2 r1
        obtain ⟨k1, a1, vs1, rfl, m1, m2, m3⟩ := items_rep g1 ea
        obtain ⟨k2, a2, vs2, rfl, m4, m5, m6⟩ := items_rep g2 eb
        exact ⟨a1, a2, k1, k2, vs1, vs2, rfl, SqK.mono w1.fh m1, SqK.mono w1.fh m4, p _ H1 F1 ρ1 x1 w1 (.zip m1 m4 m2 m5 m3 hs)⟩
      · cases e
    · cases e
  · cases e
theorem di_zipDF {ma : MA} {p2 kp : Pos} {jj} (hg : Gl X "zip") (hm : X.mg "zip" = none) (ha : DA X n W ma [e, e2])
    (hs : backTo pos (starEach [e, e2] X.env) = (false, eval e X.env) :: backTo pos (starEach [e2] X.env) := by rfl) (hpl : (backTo pos (starEach [e, e2] X.env)).any (·.1) = false := by rfl)
    (hk1 : (backToKw pos (keywordEach [⟨some (Str.ofString "strict"), .Constant (.bool false) jj p2, kp⟩] X.env)).all (·.1.isSome) = true := by rfl) (hk2 : (backToKw pos (keywordEach [⟨some (Str.ofString "strict"), .Constant (.bool false) jj p2, kp⟩] X.env)).any (·.1.isNone) = false := by rfl)
    (hk3 : (backToKw pos (keywordEach [⟨some (Str.ofString "strict"), .Constant (.bool false) jj p2, kp⟩] X.env)).filterMap (·.1) = [Str.ofString "strict"] := by rfl) :
    DID X n W (mZipD false ma) (.Tuple elts kk tpos) (.Call (.Name "zip" p) [e, e2] [⟨some (Str.ofString "strict"), .Constant (.bool false) jj p2, kp⟩] pos) :=
  PI.weak (pi_zsF hg hm ha hs hpl hk1 hk2 hk3) fun σ H Q q => zipD_go q
end
end PL

set_option Elab.async false
set_option linter.all false
set_option maxRecDepth 100000
set_option maxHeartbeats 4000000
namespace PL
open PySem PySem.Spec PyProof.Rows L2
/-! ### a comprehension over zip, enumerate of cells of the store that stay as they are meanwhile -/
open Classical in
noncomputable def lcD (g : MG) (c : MB) (e : M) (σ : Sls) (dp : Dep) : List D → Store → R (List D)
  | [], S => if dpOk dp S then .ok [] S else .bad
  | d :: ds, S => if dpOk dp S then match g d σ with
    | none => .bad
    | some σ1 => match c σ1 S with
      | .ok true S1 => match e σ1 S1 with
        | .ok y S2 => match lcD g c e σ dp ds S2 with
          | .ok ys S3 => .ok (y :: ys) S3
          | _ => .bad
        | _ => .bad
      | .ok false S1 => lcD g c e σ dp ds S1
      | _ => .bad
    else .bad
noncomputable def mLcD (it : MID) (own : List Nat) (g : MG) (c : MB) (e : M) : M := fun σ S => (it σ S).bind fun q S1 => match lcD g c e (wipeS σ own) q.2 q.1 S1 with
  | .ok ys S2 => .ok (.lst ys) S2
  | _ => .bad
section
variable {X : Cx} {n : En} {W : WS} {pos : Pos}
theorem lcD_ok {K : PySem.W.Frag} {mg : Str → Option Value} {n : En} {mi : MID} {g : MG} {c : MB} {e : M} {own is : List Nat} {σ : L2.St} {H : Hp} {Q : VK} (his : ∀ i ∈ is, i ∈ own) (q : tM K mg n WN (mLcD mi own g c e) σ H Q) :
    tLc (tMID K mg n WN mi) (tMG K mg n is g) (tMB K mg n WN c) (tM K mg n WN e) own σ H Q := by
  obtain ⟨F, ρ, σd, S, rs, o⟩ := q
  refine ⟨F, ρ, σd, S, rs, Out.bind o fun q S1 o1 J H1 F1 ρ1 x1 w1 hdp itok dl hD => ?_⟩
  obtain ⟨ds, dp⟩ := q
  simp only at o1 itok hdp
  have rs1 := rs.next x1 w1
  have hF1 : F1 dl = none := w1.fnone hD
  have hρ1 : dl ∉ ρ1 := fun z => w1.there z hD
  have fin : ∀ {r : R (List D)} {acc0 : List D}, Out (match r with
      | .ok ys S2 => R.ok (D.lst (acc0 ++ ys)) S2
      | _ => .bad) (fun d S' => Post K mg ρ F H S' d Q) (fun c d S' => WN c d σd S') → Out r (fun ys S' => Post K mg ρ F H S' (.lst (acc0 ++ ys)) Q) (fun _ _ _ => False) := fun {r acc0} h => by
    cases r with
    | ok ys S2 => exact h
    | exc _ _ _ => exact h
    | bad => exact h
  refine ⟨fun i m Hc => m + i = ds.length ∧ ∃ F' ρ' S' acc accD, Ext ρ1 F1 H1 ρ' F' Hc ∧ W0 K mg F' Hc ρ' S' ∧ Hc dl = some (.lst acc) ∧ F' dl = none ∧ dl ∉ ρ' ∧ Reps K F' ρ' accD acc ∧ accD.length ≤ i ∧
    Out (lcD g c e (wipeS σd own) dp (ds.drop i) S') (fun ys S'' => Post K mg ρ F H S'' (.lst (accD ++ ys)) Q) (fun _ _ _ => False),
    ⟨ds.length, rfl, F1, ρ1, S1, [], [], (Ext.refl _ _ _).updD hD, w1.off_upd hF1 hρ1, upd_same, hF1, hρ1, .nil, Nat.le_refl _, fin (acc0 := []) o1⟩, ?_⟩
  rintro i m Hc ⟨hm, F2, ρ2, S2, acc, accD, x2, w2, hD2, hF2, hρ2, r2, hl2, o2⟩
  have rs2 := rs1.next x2 w2
  by_cases hi : i < ds.length
  · rw [List.drop_eq_getElem_cons hi] at o2
    unfold lcD at o2
    split at o2
    · rename_i hd2
      refine .inr ⟨itok.go i F2 Hc ρ2 S2 x2.fle x2.mon.pre w2 hd2 hi, _, fun _ z => z, fun x H3 hy => ?_⟩
      obtain ⟨F3, x3, w3, r3⟩ := itok.yld i F2 Hc ρ2 S2 x H3 ds[i] x2.fle x2.mon.pre w2 hd2 (List.getElem?_eq_getElem hi) hy
      obtain ⟨hD3, hF3, hρ3⟩ := x3.off hD2 hF2 hρ2
      have rs3 := rs2.next x3 w3
      cases eg : g ds[i] (wipeS σd own) with
      | none =>
        rw [eg] at o2
        exact o2.elim
      | some σ3 =>
        simp only [eg] at o2
        refine ⟨F3, ρ2, wipeS σd own, S2, ds[i], σ3, rs3.wipe own, r3, eg, fun σ4 rs4 off4 => ⟨wipe_eq off4 his, F3, ρ2, σ3, S2, rs4, ?_⟩⟩
        cases ec : c σ3 S2 with
        | exc _ _ _ => rw [ec] at o2; exact o2.elim
        | bad => rw [ec] at o2; exact o2.elim
        | ok t S5 =>
          rw [ec] at o2
          intro H5 F5 ρ5 x5 w5
          obtain ⟨hD5, hF5, hρ5⟩ := x5.off hD3 hF3 hρ3
          have x25 : Ext ρ1 F1 H1 ρ5 F5 H5 := (x2.trans x3).trans x5
          have rs5 := rs4.next x5 w5
          cases t with
          | false =>
            exact ⟨m - 1, by omega, by omega, F5, ρ5, S5, acc, accD, x25, w5, hD5, hF5, hρ5, (x3.trans x5).reps r2, by omega, o2⟩
          | true =>
            refine ⟨F5, ρ5, σ3, S5, rs5, ?_⟩
            cases ee : e σ3 S5 with
            | exc _ _ _ => simp only [ee] at o2; exact o2.elim
            | bad => simp only [ee] at o2; exact o2.elim
            | ok y S6 =>
              simp only [ee] at o2
              intro v H6 F6 ρ6 x6 w6 r6
              obtain ⟨hD6, hF6, hρ6⟩ := x6.off hD5 hF5 hρ5
              have racc : Reps K F6 ρ6 (accD ++ [y]) (acc ++ [v]) := (((x3.trans x5).trans x6).reps r2).append (.one r6)
              have hsz : acc.length < sizeLine := by
                have := itok.len
                rw [r2.length]
                omega
              refine ⟨acc, hD6, hsz, m - 1, by omega, by omega, F6, ρ6, S6, acc ++ [v], accD ++ [y], (x25.trans x6).updD hD, w6.off_upd hF6 hρ6, upd_same, hF6, hρ6, racc, by rw [List.length_append, List.length_singleton]; omega, ?_⟩
              cases el : lcD g c e (wipeS σd own) dp (ds.drop (i + 1)) S6 with
              | exc _ _ _ => simp only [el] at o2; exact o2.elim
              | bad => simp only [el] at o2; exact o2.elim
              | ok ys S7 =>
                simp only [el] at o2
                show Post K mg ρ F H S7 (.lst (accD ++ [y] ++ ys)) Q
                rw [List.append_assoc]
                exact o2
    · exact o2.elim
  · have e1 : i = ds.length := by omega
    subst e1
    rw [List.drop_length] at o2
    unfold lcD at o2
    split at o2
    · rename_i hd2
      refine .inl ⟨itok.stop F2 Hc ρ2 S2 x2.fle x2.mon.pre w2 hd2, ?_⟩
      have o3 : Post K mg ρ F H S2 (.lst (accD ++ [])) Q := o2
      rw [List.append_nil] at o3
      refine o3 (.ref dl) Hc (upd F2 dl (.lst acc)) ρ2 (x1.trans (x2.fzD hD hF2)) (w2.fz hD2 hF2 hρ2) (.l (.inl (.inl upd_same)) (Reps.mono (fun b u hb => by rw [upd_ne (ne_of_none hb hF2)]; exact hb) ⟨[], by simp⟩ _ _ r2) ?_)
      exact Nat.le_trans hl2 itok.len
    · exact o2.elim
theorem de_lcD {own : List (Str × Nat)} {is : List Nat} {elt tg iter : Expr} {ifs : List Expr} {scope : Scope} {mi : MID} {g : MG} {c : MB} {e : M} (hc : X.calm = true) (hN : X.N.Nodup) (hi : DID X n WN mi tg iter) (ok : BlkOk X.N X.env.scope scope own)
    (hg : ∀ (s : Shared) (H : Hp) (C : Addr) (cl : List (Str × Addr)) (fp : List Addr), DG (X.blk s H scope (compEnvC scope cl C X.env) fp) n is g tg) (ht : ∀ (s : Shared) (H : Hp) (C : Addr) (cl : List (Str × Addr)) (fp : List Addr), DTs (X.blk s H scope (compEnvC scope cl C X.env) fp) n WN c ifs)
    (he : ∀ (s : Shared) (H : Hp) (C : Addr) (cl : List (Str × Addr)) (fp : List Addr), DE (X.blk s H scope (compEnvC scope cl C X.env) fp) n WN e elt) (his : ∀ i ∈ is, i ∈ own.map (·.2) := by decide) (hs : ∀ x, foldedSetIterable iter X.env x = pure x := by intro _; rfl) :
    DE X n WN (mLcD mi (own.map (·.2)) g c e) (.ListComp elt [⟨tg, iter, ifs, 0⟩] scope pos) :=
  PE.weak (pe_lc hc hN hi ok hg ht he hs) fun σ H Q q => lcD_ok his q
end
/-! how it runs -/
noncomputable def lcDK (r : R (List D × Dep)) (own : List Nat) (g : MG) (c : MB) (e : M) (σ : Sls) : R D := r.bind fun q S1 => lcGK2 (lcD g c e (wipeS σ own) q.2 q.1 S1)
section
variable {σ : Sls} {S : Store} {e : M} {md : MID} {g : MG} {c : MB} {own : List Nat} {ds : List D}
theorem e_lcD : mLcD md own g c e σ S = lcDK (md σ S) own g c e σ := by
  unfold mLcD lcDK lcGK2 R.bind
  cases md σ S with
  | ok d S1 => rfl
  | exc _ _ _ => rfl
  | bad => rfl
theorem e_lcD1 {q : List D × Dep} : lcDK (.ok q S) own g c e σ = lcGK2 (lcD g c e (wipeS σ own) q.2 q.1 S) := rfl
theorem lcD_nil : ∀ (ds : List D) (S : Store), lcD g c e σ [] ds S = lcL g c e σ ds S
  | [], S => by
    unfold lcD lcL
    exact if_pos (show dpOk [] S from fun p h => nomatch h)
  | d :: ds, S => by
    unfold lcD lcL
    rw [if_pos (show dpOk [] S from fun p h => nomatch h)]
    cases g d σ with
    | none => rfl
    | some σ1 =>
      simp only
      cases c σ1 S with
      | ok b S1 =>
        cases b with
        | true =>
          simp only
          cases e σ1 S1 with
          | ok y S2 =>
            simp only [lcD_nil ds S2]
            all_goals (cases lcL g c e σ ds S2 <;> rfl)
          | exc _ _ _ => rfl
          | bad => rfl
        | false => simp only [lcD_nil ds S1]
      | exc _ _ _ => rfl
      | bad => rfl
theorem e_lcD1n : lcDK (.ok (ds, []) S) own g c e σ = lcGK2 (lcL g c e (wipeS σ own) ds S) := by rw [e_lcD1, lcD_nil]
theorem lcD_map {α : Type} (q f : α → D) (p : α → Bool) {dp : Dep} (hd : dpOk dp S) : ∀ (xs : List α), (∀ z ∈ xs, ∃ σ1, g (q z) σ = some σ1 ∧ c σ1 S = .ok (p z) S ∧ (p z = true → e σ1 S = .ok (f z) S)) →
    lcD g c e σ dp (xs.map q) S = .ok ((xs.filter p).map f) S
  | [], _ => by
    unfold lcD
    exact if_pos hd
  | z :: xs, h => by
    obtain ⟨σ1, h1, h2, h3⟩ := h z List.mem_cons_self
    have ih := lcD_map q f p hd xs fun y hy => h y (List.mem_cons_of_mem _ hy)
    rw [List.map_cons]
    unfold lcD
    rw [if_pos hd]
    simp only [h1, h2]
    cases hp : p z with
    | true => simp only [h3 hp, ih, List.filter_cons_of_pos hp, List.map_cons]
    | false => simp only [ih, List.filter_cons_of_neg (show ¬ p z = true by rw [hp]; exact Bool.false_ne_true)]
end
def extR (m : Nat) (S : Store) : Option Cell → Option Cell → Option Store
  | some (.lst ds), some (.lst es) => if ds.length + es.length ≤ 1000000 then some (S.set m (.lst (ds ++ es))) else none
  | _, _ => none
def extK1 (c : Bool) (x : D) (r : R D) (σ : Sls) : Fl := if c = true then Fl.of r σ fun d S2 => extK2 (extS S2 x d) σ else .bad
def extK (r : R D) (e : M) (σ : Sls) : Fl := Fl.of r σ fun x S1 => extK1 (lstAt S1 x) x (e σ S1) σ
section
variable {σ : Sls} {S : Store} {o e : M} {x d : D} {m k : Nat} {ds es : List D}
theorem e_ext : mExtR o e σ S = extK (o σ S) e σ := by
  unfold mExtR extK extK1
  cases o σ S with
  | ok x S1 => rfl
  | exc _ _ _ => rfl
  | bad => rfl
theorem e_ext1 : extK (.ok x S) e σ = extK1 (lstAt S x) x (e σ S) σ := rfl
theorem e_ext2 : extK1 true x (.ok d S) σ = extK2 (extS S x d) σ := rfl
theorem e_ext3 : extK2 (some S) σ = .nx σ S := rfl
theorem extS_r : extS S (.ref m) (.ref k) = extR m S S[m]? S[k]? := by
  unfold extS extR
  cases h : S[m]? with
  | none => simp only [h]
  | some c =>
    cases c with
    | lst ds =>
      cases h2 : S[k]? with
      | none => simp only [h, h2]
      | some c2 => cases c2 <;> simp only [h, h2]
    | _ => simp only [h]
theorem extR_1 (h : ds.length + es.length ≤ 1000000) : extR m S (some (.lst ds)) (some (.lst es)) = some (S.set m (.lst (ds ++ es))) := if_pos h
end
/-! min, max of three ints -/
def min3D (_ : Store) : List D → Option D
  | [.int i, .int j, .int k] => some (.int (if k < (if j < i then j else i) then k else (if j < i then j else i)))
  | _ => none
theorem cs_min3 {X : Cx} (hc : X.calm = true) : CallS X (.builtin "min") min3D := by
  refine ⟨_, call_min3Nu hc, fun mg F H ρ S ds vs d Q w r e p => ?_⟩
  unfold min3D at e
  split at e
  · rename_i i j k
    cases e
    obtain ⟨v, u, x, rfl, h1, h2, h3⟩ := reps3 r
    refine ⟨_, _, _, _, by rw [rep_int h1, rep_int h2, rep_int h3], ?_, Post.same p w (.i _)⟩
    have e1 : nuMin2 (.int i) (.int j) = some (.int (if j < i then j else i)) := by
      show some (if decide (j < i) = true then V.int j else V.int i) = _
      by_cases h : j < i
      · rw [if_pos h, decide_eq_true h]; rfl
      · rw [if_neg h, decide_eq_false h]; rfl
    unfold nuMin3
    rw [e1]
    show nuMin2 _ _ = _
    generalize (if j < i then j else i) = m
    show some (if decide (k < m) = true then V.int k else V.int m) = _
    by_cases h : k < m
    · rw [if_pos h, decide_eq_true h]; rfl
    · rw [if_neg h, decide_eq_false h]; rfl
  · cases e
theorem o_min3 {S : Store} {i j k : Int} : min3D S [.int i, .int j, .int k] = some (.int (if k < (if j < i then j else i) then k else (if j < i then j else i))) := rfl
end PL

set_option Elab.async false
set_option linter.all false
set_option maxRecDepth 100000
set_option maxHeartbeats 4000000
namespace PL
open PySem PySem.Spec PyProof.Rows L2
/-! ### clocks and stretches, plain -/
abbrev Prs := List (Int × Int)
def pairD (p : Int × Int) : D := .tup [.int p.1, .int p.2]
def triD (p : Int × Int × Int) : D := .tup [.int p.1, .int p.2.1, .int p.2.2]
def offB (a : Int) (st : Prs) (t : Int) : Int := st.foldl (fun a p => if p.1 ≤ t then p.2 else a) a
def offA (st : Prs) (t : Int) : Int := offB 0 st t
def stampF (g : Int) (st : Prs) (t : Int) : Int := (t + offA st t) / g * g
structure GoodC (g : Int) (st : Prs) : Prop where
  g1 : 1 ≤ g
  g2 : g ≤ 10 ^ 30
  len : st.length ≤ 20
  hd : ∃ o r, st = (0, o) :: r
  asc : st.Pairwise fun p q => p.1 < q.1
  mom : ∀ p ∈ st, 0 ≤ p.1 ∧ p.1 ≤ 1000000000000000000
  off : ∀ p ∈ st, -(10 ^ 80) ≤ p.2 ∧ p.2 ≤ 10 ^ 80
def pcs : Prs → List (Int × Int × Int)
  | [] => []
  | [p] => [(p.1, 1000000000000000000, p.2)]
  | p :: q :: r => (p.1, q.1 - 1, p.2) :: pcs (q :: r)
def endsF (st : Prs) : List Int := (st.drop 1).map (fun p => p.1 - 1) ++ [1000000000000000000]
theorem pcs_zip : ∀ st : Prs, st ≠ [] → (st.zip (endsF st)).map (fun q => (q.1.1, q.2, q.1.2)) = pcs st
  | [], h => (h rfl).elim
  | [p], _ => rfl
  | p :: q :: r, _ => by
    have ih := pcs_zip (q :: r) (by simp)
    unfold endsF at ih ⊢
    simp only [List.drop_succ_cons, List.drop_zero, List.map_cons, List.cons_append, List.zip_cons_cons] at ih ⊢
    rw [pcs, ← ih]
theorem endsF_len {st : Prs} (h : st ≠ []) : (endsF st).length = st.length := by
  unfold endsF
  cases st with
  | nil => exact (h rfl).elim
  | cons p r => simp
def InL (L : Prs) (t : Int) : Prop := ∃ p ∈ L, p.1 ≤ t ∧ t ≤ p.2
theorem inL_nil {t : Int} : ¬ InL [] t := fun ⟨_, h, _⟩ => nomatch h
theorem inL_cons {p : Int × Int} {L : Prs} {t : Int} : InL (p :: L) t ↔ (p.1 ≤ t ∧ t ≤ p.2) ∨ InL L t := by
  unfold InL
  simp
theorem inL_app {A L : Prs} {t : Int} : InL (A ++ L) t ↔ InL A t ∨ InL L t := by
  unfold InL
  simp only [List.mem_append]
  constructor
  · rintro ⟨p, h | h, h2⟩
    · exact .inl ⟨p, h, h2⟩
    · exact .inr ⟨p, h, h2⟩
  · rintro (⟨p, h, h2⟩ | ⟨p, h, h2⟩)
    · exact ⟨p, .inl h, h2⟩
    · exact ⟨p, .inr h, h2⟩
theorem offB_late {t : Int} : ∀ {st : Prs} {a : Int}, (∀ p ∈ st, t < p.1) → offB a st t = a
  | [], a, _ => rfl
  | p :: r, a, h => by
    have := h p List.mem_cons_self
    unfold offB
    rw [List.foldl_cons, if_neg (by omega)]
    exact offB_late fun q hq => h q (List.mem_cons_of_mem _ hq)
theorem offB_cons {t a : Int} {p : Int × Int} {r : Prs} (h : p.1 ≤ t) : offB a (p :: r) t = offB p.2 r t := by
  unfold offB
  rw [List.foldl_cons, if_pos h]
theorem offB_any {t a b : Int} {p : Int × Int} {r : Prs} (h : p.1 ≤ t) : offB a (p :: r) t = offB b (p :: r) t := by
  rw [offB_cons h, offB_cons h]
/-- the piece of a moment tells the offset -/
theorem pcs_off {t a : Int} : ∀ {st : Prs}, st.Pairwise (fun p q => p.1 < q.1) → ∀ x ∈ pcs st, x.1 ≤ t → t ≤ x.2.1 → x.2.2 = offB a st t
  | [], _, x, hx, _, _ => nomatch hx
  | [p], _, x, hx, h1, h2 => by
    rw [pcs, List.mem_singleton] at hx
    subst hx
    rw [offB_cons h1]; rfl
  | p :: q :: r, hp, x, hx, h1, h2 => by
    rw [pcs, List.mem_cons] at hx
    rw [List.pairwise_cons] at hp
    rcases hx with rfl | hx
    · rw [offB_cons h1, offB_late]
      intro z hz
      simp only at h2
      rcases List.mem_cons.mp hz with rfl | hz
      · omega
      · have := (List.pairwise_cons.mp hp.2).1 z hz
        omega
    · have hq : q.1 ≤ x.1 := by
        have : ∀ (st : Prs) (q : Int × Int), (q :: st).Pairwise (fun p q => p.1 < q.1) → ∀ x ∈ pcs (q :: st), q.1 ≤ x.1 := by
          intro st
          induction st with
          | nil => intro q _ x hx; rw [pcs, List.mem_singleton] at hx; subst hx; exact Int.le_refl _
          | cons y st ih =>
            intro q hq x hx
            rw [pcs, List.mem_cons] at hx
            rcases hx with rfl | hx
            · exact Int.le_refl _
            · have := ih y (List.pairwise_cons.mp hq).2 x hx
              have := (List.pairwise_cons.mp hq).1 y List.mem_cons_self
              omega
        exact this r q hp.2 x hx
      have hpq := hp.1 q List.mem_cons_self
      rw [offB_cons (by omega), pcs_off (a := p.2) hp.2 x hx h1 h2]
theorem pcs_ge : ∀ {st : Prs} {q : Int × Int}, (q :: st).Pairwise (fun p q => p.1 < q.1) → ∀ x ∈ pcs (q :: st), q.1 ≤ x.1
  | [], q, _, x, hx => by rw [pcs, List.mem_singleton] at hx; subst hx; exact Int.le_refl _
  | y :: st, q, hq, x, hx => by
    rw [pcs, List.mem_cons] at hx
    rcases hx with rfl | hx
    · exact Int.le_refl _
    · have := pcs_ge (List.pairwise_cons.mp hq).2 x hx
      have := (List.pairwise_cons.mp hq).1 y List.mem_cons_self
      omega
theorem pcs_le : ∀ {st : Prs}, st.Pairwise (fun p q => p.1 < q.1) → (∀ p ∈ st, p.1 ≤ 1000000000000000000) → ∀ x ∈ pcs st, x.2.1 ≤ 1000000000000000000 ∧ x.1 ≤ x.2.1
  | [], _, _, x, hx => nomatch hx
  | [p], _, h, x, hx => by rw [pcs, List.mem_singleton] at hx; subst hx; exact ⟨Int.le_refl _, h p List.mem_cons_self⟩
  | p :: q :: r, hp, h, x, hx => by
    rw [pcs, List.mem_cons] at hx
    rcases hx with rfl | hx
    · have := h q (by simp)
      have := (List.pairwise_cons.mp hp).1 q List.mem_cons_self
      simp only
      omega
    · exact pcs_le (List.pairwise_cons.mp hp).2 (fun z hz => h z (List.mem_cons_of_mem _ hz)) x hx
theorem pcs_ex {t : Int} (h1 : t ≤ 1000000000000000000) : ∀ {st : Prs} {q : Int × Int}, (q :: st).Pairwise (fun p q => p.1 < q.1) → q.1 ≤ t → ∃ x ∈ pcs (q :: st), x.1 ≤ t ∧ t ≤ x.2.1
  | [], q, _, h => ⟨_, List.mem_singleton.mpr rfl, h, h1⟩
  | y :: st, q, hq, h => by
    by_cases ht : t < y.1
    · exact ⟨(q.1, y.1 - 1, q.2), by rw [pcs]; exact List.mem_cons_self, h, by simp only; omega⟩
    · obtain ⟨x, hx, h2⟩ := pcs_ex h1 (List.pairwise_cons.mp hq).2 (by omega)
      exact ⟨x, by rw [pcs]; exact List.mem_cons_of_mem _ hx, h2⟩
theorem pcs_asc : ∀ {st : Prs}, st.Pairwise (fun p q => p.1 < q.1) → (pcs st).Pairwise fun x y => x.2.1 < y.1
  | [], _ => .nil
  | [p], _ => by rw [pcs]; exact List.pairwise_singleton _ _
  | p :: q :: r, h => by
    rw [pcs, List.pairwise_cons]
    refine ⟨fun x hx => ?_, pcs_asc (List.pairwise_cons.mp h).2⟩
    have := pcs_ge (List.pairwise_cons.mp h).2 x hx
    simp only
    omega
/-- the moments of a piece within bounds -/
def clipF (g : Int) (lo hi : Option Int) (x : Int × Int × Int) : Int × Int :=
  (match lo with
   | none => x.1
   | some a => if -(-a / g) * g - x.2.2 > x.1 then -(-a / g) * g - x.2.2 else x.1,
   match hi with
   | none => x.2.1
   | some b => if b / g * g + g - 1 - x.2.2 < x.2.1 then b / g * g + g - 1 - x.2.2 else x.2.1)
def partsF (g : Int) (lo hi : Option Int) (st : Prs) : Prs := ((pcs st).map (clipF g lo hi)).filter fun p => decide (p.1 ≤ p.2)
theorem low_iff {g a t : Int} (hg : 1 ≤ g) : a ≤ t / g * g ↔ -(-a / g) * g ≤ t := by
  have h1 : a ≤ t / g * g ↔ -(-a / g) ≤ t / g := by
    constructor
    · intro h
      have : -(t / g) ≤ -a / g := by
        rw [Int.le_ediv_iff_mul_le (by omega), Int.neg_mul]; omega
      omega
    · intro h
      have h2 : -(t / g) ≤ -a / g := by omega
      rw [Int.le_ediv_iff_mul_le (by omega), Int.neg_mul] at h2
      omega
  rw [h1, Int.le_ediv_iff_mul_le (by omega)]
theorem high_iff {g b t : Int} (hg : 1 ≤ g) : t / g * g ≤ b ↔ t ≤ b / g * g + g - 1 := by
  have h1 : t / g * g ≤ b ↔ t / g ≤ b / g := by rw [Int.le_ediv_iff_mul_le (by omega)]
  have h2 : t / g ≤ b / g ↔ t / g < b / g + 1 := by omega
  rw [h1, h2, Int.ediv_lt_iff_lt_mul (by omega), Int.add_mul]
  omega
theorem clip_mem {g t : Int} {lo hi : Option Int} {x : Int × Int × Int} (hg : 1 ≤ g) : ((clipF g lo hi x).1 ≤ t ∧ t ≤ (clipF g lo hi x).2) ↔ (x.1 ≤ t ∧ t ≤ x.2.1) ∧ (∀ a, lo = some a → a ≤ (t + x.2.2) / g * g) ∧ (∀ b, hi = some b → (t + x.2.2) / g * g ≤ b) := by
  have e1 : (clipF g lo hi x).1 ≤ t ↔ x.1 ≤ t ∧ ∀ a, lo = some a → a ≤ (t + x.2.2) / g * g := by
    unfold clipF
    cases lo with
    | none => simp
    | some a =>
      simp only [Option.some.injEq, forall_eq']
      rw [low_iff hg]
      split <;> constructor <;> intro h <;> omega
  have e2 : t ≤ (clipF g lo hi x).2 ↔ t ≤ x.2.1 ∧ ∀ b, hi = some b → (t + x.2.2) / g * g ≤ b := by
    unfold clipF
    cases hi with
    | none => simp
    | some b =>
      simp only [Option.some.injEq, forall_eq']
      rw [high_iff hg]
      split <;> constructor <;> intro h <;> omega
  rw [e1, e2]
  constructor
  · rintro ⟨⟨a, b⟩, c, d⟩; exact ⟨⟨a, c⟩, b, d⟩
  · rintro ⟨⟨a, c⟩, b, d⟩; exact ⟨⟨a, b⟩, c, d⟩
def Fits (lo hi : Option Int) (s : Int) : Prop := (∀ a, lo = some a → a ≤ s) ∧ (∀ b, hi = some b → s ≤ b)
theorem parts_mem {g t : Int} {lo hi : Option Int} {st : Prs} (hC : GoodC g st) : InL (partsF g lo hi st) t ↔ (0 ≤ t ∧ t ≤ 1000000000000000000) ∧ Fits lo hi (stampF g st t) := by
  obtain ⟨o, r, rfl⟩ := hC.hd
  unfold stampF offA Fits
  constructor
  · rintro ⟨p, hp, h1, h2⟩
    obtain ⟨hp, -⟩ := List.mem_filter.mp hp
    obtain ⟨x, hx, rfl⟩ := List.mem_map.mp hp
    obtain ⟨h3, h4⟩ := (clip_mem hC.g1).mp ⟨h1, h2⟩
    rw [pcs_off (a := 0) hC.asc x hx h3.1 h3.2] at h4
    have := pcs_ge hC.asc x hx
    have := pcs_le hC.asc (fun p hp => (hC.mom p hp).2) x hx
    exact ⟨⟨by simp only at *; omega, by omega⟩, h4⟩
  · rintro ⟨⟨h1, h2⟩, h3⟩
    obtain ⟨x, hx, h4⟩ := pcs_ex h2 hC.asc h1
    rw [← pcs_off (a := 0) hC.asc x hx h4.1 h4.2] at h3
    have h5 := (clip_mem (lo := lo) (hi := hi) hC.g1).mpr ⟨h4, h3⟩
    exact ⟨_, List.mem_filter.mpr ⟨List.mem_map.mpr ⟨x, hx, rfl⟩, by rw [decide_eq_true_eq]; omega⟩, h5⟩
/-- rising stretches -/
structure Ris (L : Prs) : Prop where
  asc : L.Pairwise fun p q => p.2 < q.1
  ne : ∀ p ∈ L, p.1 ≤ p.2
theorem clip_in {g : Int} {lo hi : Option Int} {x : Int × Int × Int} : x.1 ≤ (clipF g lo hi x).1 ∧ (clipF g lo hi x).2 ≤ x.2.1 := by
  unfold clipF
  constructor
  · cases lo with
    | none => exact Int.le_refl _
    | some a => simp only; split <;> omega
  · cases hi with
    | none => exact Int.le_refl _
    | some a => simp only; split <;> omega
theorem parts_ris {g : Int} {lo hi : Option Int} {st : Prs} (h : st.Pairwise fun p q => p.1 < q.1) : Ris (partsF g lo hi st) := by
  refine ⟨List.Pairwise.filter _ (List.pairwise_map.mpr ((pcs_asc h).imp fun {x y} hxy => ?_)), fun p hp => by simpa using (List.mem_filter.mp hp).2⟩
  have := (clip_in (g := g) (lo := lo) (hi := hi) (x := x)).2
  have := (clip_in (g := g) (lo := lo) (hi := hi) (x := y)).1
  omega
def joinStep (acc : Prs) (p : Int × Int) : Prs := match acc.getLast? with
  | some q => if p.1 ≤ q.2 + 1 then acc.dropLast ++ [(q.1, if q.2 > p.2 then q.2 else p.2)] else acc ++ [p]
  | none => acc ++ [p]
def joinF (L : Prs) : Prs := L.foldl joinStep []
/-- stretches that do not touch -/
structure Sep (L : Prs) : Prop where
  asc : L.Pairwise fun p q => p.2 + 1 < q.1
  ne : ∀ p ∈ L, p.1 ≤ p.2
theorem join_go : ∀ (L acc : Prs), Sep acc → Ris L → (∀ p ∈ acc, ∀ q ∈ L, p.2 < q.1) → Sep (L.foldl joinStep acc) ∧ ∀ t, InL (L.foldl joinStep acc) t ↔ InL acc t ∨ InL L t
  | [], acc, h, _, _ => ⟨h, fun t => by simp [inL_nil]⟩
  | p :: L, acc, h, hr, hd => by
    have hp := hr.ne p List.mem_cons_self
    have hL : Ris L := ⟨(List.pairwise_cons.mp hr.asc).2, fun q hq => hr.ne q (List.mem_cons_of_mem _ hq)⟩
    have hpL := (List.pairwise_cons.mp hr.asc).1
    have base : Sep (acc ++ [p]) → Sep (L.foldl joinStep (acc ++ [p])) ∧ ∀ t, InL (L.foldl joinStep (acc ++ [p])) t ↔ InL acc t ∨ InL (p :: L) t := fun hs => by
      obtain ⟨h1, h2⟩ := join_go L (acc ++ [p]) hs hL fun a ha q hq => by
        rcases List.mem_append.mp ha with ha | ha
        · exact hd a ha q (List.mem_cons_of_mem _ hq)
        · rw [List.mem_singleton.mp ha]; exact hpL q hq
      refine ⟨h1, fun t => ?_⟩
      rw [h2, inL_app, inL_cons, inL_cons]
      constructor
      · rintro ((h | h | h) | h)
        · exact .inl h
        · exact .inr (.inl h)
        · exact (inL_nil h).elim
        · exact .inr (.inr h)
      · rintro (h | h | h)
        · exact .inl (.inl h)
        · exact .inl (.inr (.inl h))
        · exact .inr h
    rw [List.foldl_cons]
    rcases List.eq_nil_or_concat acc with e | ⟨A, q, e⟩
    · subst e
      exact base ⟨List.pairwise_singleton _ _, fun z hz => by rw [List.mem_singleton.mp hz]; exact hp⟩
    · rw [List.concat_eq_append] at e
      subst e
      have hq := hd q (by simp) p List.mem_cons_self
      have hA := List.pairwise_append.mp h.asc
      have ej : joinStep (A ++ [q]) p = if p.1 ≤ q.2 + 1 then A ++ [(q.1, if q.2 > p.2 then q.2 else p.2)] else A ++ [q] ++ [p] := by
        unfold joinStep
        rw [List.getLast?_append, List.getLast?_singleton]
        simp only [Option.or, List.dropLast_concat]
      rw [ej]
      split
      · rename_i hle
        rw [if_neg (by omega)]
        have hq2 := h.ne q (by simp)
        obtain ⟨h1, h2⟩ := join_go L (A ++ [(q.1, p.2)]) ⟨List.pairwise_append.mpr ⟨hA.1, List.pairwise_singleton _ _, fun a ha b hb => by
            rw [List.mem_singleton.mp hb]; exact hA.2.2 a ha q (by simp)⟩, fun z hz => by
            rcases List.mem_append.mp hz with hz | hz
            · exact h.ne z (List.mem_append_left _ hz)
            · rw [List.mem_singleton.mp hz]; simp only; omega⟩ hL (fun a ha b hb => by
            have hb2 := hpL b hb
            rcases List.mem_append.mp ha with ha | ha
            · exact hd a (List.mem_append_left _ ha) b (List.mem_cons_of_mem _ hb)
            · rw [List.mem_singleton.mp ha]; exact hb2)
        refine ⟨h1, fun t => ?_⟩
        rw [h2, inL_app, inL_app, inL_cons, inL_cons, inL_cons]
        simp only
        constructor
        · rintro ((h | h | h) | h)
          · exact .inl (.inl h)
          · by_cases ht : t ≤ q.2
            · exact .inl (.inr (.inl ⟨h.1, ht⟩))
            · exact .inr (.inl ⟨by omega, h.2⟩)
          · exact (inL_nil h).elim
          · exact .inr (.inr h)
        · rintro ((h | h | h) | h | h)
          · exact .inl (.inl h)
          · exact .inl (.inr (.inl ⟨h.1, by omega⟩))
          · exact (inL_nil h).elim
          · exact .inl (.inr (.inl ⟨by omega, h.2⟩))
          · exact .inr h
      · rename_i hgt
        refine base ⟨List.pairwise_append.mpr ⟨h.asc, List.pairwise_singleton _ _, fun a ha b hb => ?_⟩, fun z hz => ?_⟩
        · rw [List.mem_singleton.mp hb]
          rcases List.mem_append.mp ha with ha | ha
          · have := hA.2.2 a ha q (by simp)
            have := h.ne q (by simp)
            omega
          · rw [List.mem_singleton.mp ha]; omega
        · rcases List.mem_append.mp hz with hz | hz
          · exact h.ne z hz
          · rw [List.mem_singleton.mp hz]; exact hp
theorem join_sep {L : Prs} (h : Ris L) : Sep (joinF L) := (join_go L [] ⟨.nil, fun _ h => nomatch h⟩ h (fun _ h => nomatch h)).1
theorem join_mem {L : Prs} (h : Ris L) {t : Int} : InL (joinF L) t ↔ InL L t := by
  have := (join_go L [] ⟨.nil, fun _ h => nomatch h⟩ h (fun _ h => nomatch h)).2 t
  unfold joinF
  rw [this]
  simp [inL_nil]
def withinF (g : Int) (lo hi : Option Int) (st : Prs) : Prs := joinF (partsF g lo hi st)
theorem within_mem {g t : Int} {lo hi : Option Int} {st : Prs} (hC : GoodC g st) : InL (withinF g lo hi st) t ↔ (0 ≤ t ∧ t ≤ 1000000000000000000) ∧ Fits lo hi (stampF g st t) := by
  unfold withinF
  rw [join_mem (parts_ris hC.asc), parts_mem hC]
theorem within_sep {g : Int} {lo hi : Option Int} {st : Prs} (hC : GoodC g st) : Sep (withinF g lo hi st) := join_sep (parts_ris hC.asc)
theorem joinStep_len {acc : Prs} {p : Int × Int} : (joinStep acc p).length ≤ acc.length + 1 := by
  unfold joinStep
  split
  · split
    · rw [List.length_append, List.length_dropLast, List.length_singleton]; omega
    · simp
  · simp
theorem join_len : ∀ (L acc : Prs), (L.foldl joinStep acc).length ≤ acc.length + L.length
  | [], acc => by simp
  | p :: L, acc => by
    rw [List.foldl_cons, List.length_cons]
    have := join_len L (joinStep acc p)
    have := joinStep_len (acc := acc) (p := p)
    omega
theorem pcs_len : ∀ st : Prs, (pcs st).length = st.length
  | [] => rfl
  | [p] => rfl
  | p :: q :: r => by rw [pcs, List.length_cons, List.length_cons, pcs_len (q :: r)]
theorem parts_len {g : Int} {lo hi : Option Int} {st : Prs} : (partsF g lo hi st).length ≤ st.length := by
  unfold partsF
  refine Nat.le_trans (List.length_filter_le _ _) ?_
  rw [List.length_map, pcs_len]
  exact Nat.le_refl _
theorem within_len {g : Int} {lo hi : Option Int} {st : Prs} : (withinF g lo hi st).length ≤ st.length := by
  have := join_len (partsF g lo hi st) []
  have := parts_len (g := g) (lo := lo) (hi := hi) (st := st)
  unfold withinF joinF
  simp only [List.length_nil, Nat.zero_add] at *
  omega
theorem pairD_ok {p : Int × Int} {n : Nat} : okD (n + 1) (pairD p) = true := rfl
theorem prs_ok {L : Prs} {n : Nat} : okL (n + 1) (L.map pairD) = true := okL_map _ _ fun _ _ => pairD_ok
/-- the last offset, as the last of the steps up to a moment -/
theorem last_off {t : Int} : ∀ (st : Prs) (a : Int), (((st.filter fun p => decide (p.1 ≤ t)).map (·.2)).getLast?).getD a = offB a st t
  | [], a => rfl
  | p :: r, a => by
    by_cases h : p.1 ≤ t
    · rw [List.filter_cons_of_pos (by simpa using h), List.map_cons, offB_cons h, ← last_off r p.2]
      cases e : ((r.filter fun p => decide (p.1 ≤ t)).map (·.2)) with
      | nil => rfl
      | cons x xs => rw [List.getLast?_cons_cons]; simp [List.getLast?_cons]
    · rw [List.filter_cons_of_neg (by simpa using h), last_off r a]
      unfold offB
      rw [List.foldl_cons, if_neg h]
theorem offB_b {t a b : Int} (h0 : -b ≤ a ∧ a ≤ b) : ∀ {st : Prs}, (∀ p ∈ st, -b ≤ p.2 ∧ p.2 ≤ b) → -b ≤ offB a st t ∧ offB a st t ≤ b := by
  intro st
  induction st generalizing a with
  | nil => intro _; exact h0
  | cons p r ih =>
    intro h
    unfold offB
    rw [List.foldl_cons]
    refine ih ?_ fun q hq => h q (List.mem_cons_of_mem _ hq)
    split
    · exact h p List.mem_cons_self
    · exact h0
theorem GoodC.offb {g : Int} {st : Prs} (h : GoodC g st) (t : Int) : -(10 ^ 80) ≤ offA st t ∧ offA st t ≤ 10 ^ 80 := offB_b (by decide) h.off
theorem GoodC.ne {g : Int} {st : Prs} (h : GoodC g st) : st ≠ [] := by
  obtain ⟨o, r, rfl⟩ := h.hd
  simp
theorem pcs_proj : ∀ st : Prs, (pcs st).map (fun z => (z.1, z.2.2)) = st
  | [] => rfl
  | [p] => rfl
  | p :: q :: r => by rw [pcs, List.map_cons, pcs_proj (q :: r)]
/-- what the last of the pieces up to a moment tells -/
theorem pcs_last {g t : Int} {st : Prs} (hC : GoodC g st) (ht : 0 ≤ t) : (((pcs st).filter fun z => decide (z.1 ≤ t)).map fun z => D.int z.2.2).getLast? = some (.int (offA st t)) := by
  have e : ((pcs st).filter fun z => decide (z.1 ≤ t)).map (fun z => D.int z.2.2) = ((st.filter fun p => decide (p.1 ≤ t)).map (·.2)).map D.int := by
    conv => rhs; rw [← pcs_proj st]
    rw [List.filter_map, List.map_map, List.map_map]
    rfl
  rw [e, List.getLast?_map]
  have h := last_off (t := t) st 0
  obtain ⟨o, r, hd⟩ := hC.hd
  have hne : ((st.filter fun p => decide (p.1 ≤ t)).map (·.2)) ≠ [] := by
    rw [hd, List.filter_cons_of_pos (by simpa using ht)]
    simp
  unfold offA
  rw [← h]
  cases e2 : ((st.filter fun p => decide (p.1 ≤ t)).map (·.2)).getLast? with
  | none => exact (hne (List.getLast?_eq_none_iff.mp e2)).elim
  | some x => rfl
theorem GoodC.mulOk {g t : Int} {st : Prs} (h : GoodC g st) (h1 : -(10 ^ 90) ≤ t) (h2 : t ≤ 10 ^ 90) : PL.MulOk ((t + offA st t) / g) g := by
  have hb := h.offb t
  have := ediv_b (a := t + offA st t) (b := 10 ^ 91) h.g1 (by decide) (by omega) (by omega)
  have := h.g1
  have := h.g2
  exact mulOk_b (by omega) (by omega) (by omega) (by omega)
theorem GoodC.divOk {g : Int} {st : Prs} (h : GoodC g st) : PL.DivOk g := divOk_s (by have := h.g1; omega) (by have := h.g2; omega)
theorem GoodC.mulOk2 {g a : Int} {st : Prs} (h : GoodC g st) (h1 : -(10 ^ 90) ≤ a) (h2 : a ≤ 10 ^ 90) : PL.MulOk (a / g) g ∧ PL.MulOk (-(-a / g)) g := by
  have := ediv_b (a := a) (b := 10 ^ 91) h.g1 (by decide) (by omega) (by omega)
  have := ediv_b (a := -a) (b := 10 ^ 91) h.g1 (by decide) (by omega) (by omega)
  have := h.g1
  have := h.g2
  exact ⟨mulOk_b (by omega) (by omega) (by omega) (by omega), mulOk_b (by omega) (by omega) (by omega) (by omega)⟩
theorem stamp_mod {g x : Int} : x - x % g = x / g * g := by
  have := Int.mul_ediv_add_emod x g
  have e : g * (x / g) = x / g * g := Int.mul_comm _ _
  omega
def SqOf (x : D) (ds : List D) : Prop := x = .tup ds ∨ x = .lst ds
def hidF (g : Int) (st : Prs) (rd b : Int) : Prs := ((withinF g none (some b) st).filter fun p => decide (rd < p.2)).map fun p => (if rd + 1 > p.1 then rd + 1 else p.1, p.2)
theorem joinStep_nil {p : Int × Int} : joinStep [] p = [p] := rfl
theorem joinStep_app {A : Prs} {q p : Int × Int} : joinStep (A ++ [q]) p = if p.1 ≤ q.2 + 1 then A ++ [(q.1, if q.2 > p.2 then q.2 else p.2)] else A ++ [q] ++ [p] := by
  unfold joinStep
  rw [List.getLast?_append, List.getLast?_singleton]
  simp only [Option.or, List.dropLast_concat]
def optD : Option Int → D
  | none => .non
  | some a => .int a
theorem parts_take {g : Int} {lo hi : Option Int} {xs : List (Int × Int × Int)} {k : Nat} {z : Int × Int × Int} (h : xs[k]? = some z) :
    (((xs.take (k + 1)).map (clipF g lo hi)).filter fun p => decide (p.1 ≤ p.2)) = (((xs.take k).map (clipF g lo hi)).filter fun p => decide (p.1 ≤ p.2)) ++ (if (clipF g lo hi z).1 ≤ (clipF g lo hi z).2 then [clipF g lo hi z] else []) := by
  rw [List.take_add_one, h, List.map_append, List.filter_append]
  congr 1
  show ([clipF g lo hi z].filter _) = _
  split
  · rename_i h; rw [List.filter_cons_of_pos (by simpa using h)]; rfl
  · rename_i h; rw [List.filter_cons_of_neg (by simpa using h)]; rfl
def clipL (g : Int) (lo : Option Int) (x : Int × Int × Int) : Int := (clipF g lo none x).1
def clipH (g : Int) (hi : Option Int) (x : Int × Int × Int) : Int := (clipF g none hi x).2
theorem clipF_eq {g : Int} {lo hi : Option Int} {x : Int × Int × Int} : clipF g lo hi x = (clipL g lo x, clipH g hi x) := rfl
theorem clipL_n {g : Int} {x : Int × Int × Int} : clipL g none x = x.1 := rfl
theorem clipL_s {g a : Int} {x : Int × Int × Int} : clipL g (some a) x = if x.1 < -(-a / g) * g - x.2.2 then -(-a / g) * g - x.2.2 else x.1 := rfl
theorem clipH_n {g : Int} {x : Int × Int × Int} : clipH g none x = x.2.1 := rfl
theorem clipH_s {g b : Int} {x : Int × Int × Int} : clipH g (some b) x = if b / g * g + g - 1 - x.2.2 < x.2.1 then b / g * g + g - 1 - x.2.2 else x.2.1 := rfl
/-- the first moment from which on nothing is hidden -/
def freeF (rd : Int) (L : Prs) : Int := match L.getLast? with
  | none => rd + 1
  | some p => p.2 + 1
theorem freeF_nil {rd : Int} : freeF rd [] = rd + 1 := rfl
theorem freeF_app {rd : Int} {L : Prs} {q : Int × Int} : freeF rd (L ++ [q]) = q.2 + 1 := by
  unfold freeF
  rw [List.getLast?_append, List.getLast?_singleton]
  rfl
def endsD (L : Prs) : D := match L.head?, L.getLast? with
  | some p, some q => .tup [.int p.1, .int q.2]
  | _, _ => .non
theorem endsD_nil : endsD [] = .non := rfl
theorem endsD_of {L : Prs} {p q : Int × Int} (h1 : L.head? = some p) (h2 : L.getLast? = some q) : endsD L = .tup [.int p.1, .int q.2] := by
  unfold endsD
  rw [h1, h2]
end PL

set_option Elab.async false
set_option linter.all false
set_option maxRecDepth 100000
set_option maxHeartbeats 4000000
namespace PL
open PySem PySem.Spec PyProof.Rows L2
theorem hid_mem {g rd b t : Int} {st : Prs} (hC : GoodC g st) (h0 : 0 ≤ rd) : InL (hidF g st rd b) t ↔ rd < t ∧ t ≤ 1000000000000000000 ∧ stampF g st t ≤ b := by
  have hw := within_mem (t := t) (lo := none) (hi := some b) hC
  have hf : Fits none (some b) (stampF g st t) ↔ stampF g st t ≤ b := by unfold Fits; simp
  rw [hf] at hw
  constructor
  · rintro ⟨p, hp, h1, h2⟩
    obtain ⟨q, hq, rfl⟩ := List.mem_map.mp hp
    obtain ⟨hq, hr⟩ := List.mem_filter.mp hq
    simp only at h1 h2
    have : InL (withinF g none (some b) st) t := ⟨q, hq, by split at h1 <;> omega, h2⟩
    have := hw.mp this
    exact ⟨by split at h1 <;> omega, this.1.2, this.2⟩
  · rintro ⟨h1, h2, h3⟩
    obtain ⟨q, hq, h4, h5⟩ := hw.mpr ⟨⟨by omega, h2⟩, h3⟩
    exact ⟨_, List.mem_map.mpr ⟨q, List.mem_filter.mpr ⟨hq, by rw [decide_eq_true_eq]; omega⟩, rfl⟩, by simp only; split <;> omega, h5⟩
theorem hid_sep {g rd b : Int} {st : Prs} (hC : GoodC g st) : Sep (hidF g st rd b) := by
  have h := within_sep (lo := none) (hi := some b) hC
  unfold hidF
  refine ⟨List.pairwise_map.mpr ((h.asc.filter _).imp fun {x y} hxy => ?_), fun p hp => ?_⟩
  · simp only; split <;> omega
  · obtain ⟨q, hq, rfl⟩ := List.mem_map.mp hp
    obtain ⟨hq, hr⟩ := List.mem_filter.mp hq
    have := h.ne q hq
    rw [decide_eq_true_eq] at hr
    simp only
    split <;> omega
theorem Sep.last {L : Prs} {q : Int × Int} (h : Sep (L ++ [q])) {t : Int} (ht : InL (L ++ [q]) t) : t ≤ q.2 := by
  obtain ⟨p, hp, h1, h2⟩ := ht
  rcases List.mem_append.mp hp with hp | hp
  · have := (List.pairwise_append.mp h.asc).2.2 p hp q (by simp)
    have := h.ne q (by simp)
    omega
  · rw [List.mem_singleton.mp hp] at h2
    exact h2
/-- behind the last step the last offset holds -/
theorem off_last {t : Int} : ∀ {st : Prs} {a : Int} {p : Int × Int}, (∀ q ∈ st ++ [p], q.1 ≤ t) → offB a (st ++ [p]) t = p.2
  | [], a, p, h => offB_cons (h p (by simp))
  | q :: st, a, p, h => by
    rw [List.cons_append, offB_cons (h q (by simp))]
    exact off_last fun z hz => h z (by rw [List.cons_append]; exact List.mem_cons_of_mem _ hz)
theorem late_stamp {g b t : Int} {st : Prs} {p : Int × Int} (hg : 1 ≤ g) (h : st.getLast? = some p) (ha : st.Pairwise fun p q => p.1 < q.1) (h1 : p.1 ≤ t) (h2 : b - p.2 + g ≤ t) : b < stampF g st t := by
  obtain ⟨ys, e⟩ := List.getLast?_eq_some_iff.mp h
  have ho : offA st t = p.2 := by
    unfold offA
    rw [e]
    refine off_last fun q hq => ?_
    rw [e] at ha
    rcases List.mem_append.mp hq with hq | hq
    · have := (List.pairwise_append.mp ha).2.2 q hq p (by simp)
      omega
    · rw [List.mem_singleton.mp hq]; exact h1
  unfold stampF
  rw [ho]
  have := Int.lt_ediv_add_one_mul_self (t + p.2) (show 0 < g by omega)
  rw [Int.add_mul] at this
  omega
/-- the greatest of the hidden moments -/
theorem free_max {rd N : Int} {L : Prs} {ds : List Int} (hs : Sep L) (h0 : ∀ p ∈ L, rd < p.2) (hd : ∀ t, t ∈ ds ↔ InL L t) {x : Int} (e : maxI (rd :: ds) = some x) : x + 1 = freeF rd L := by
  rcases List.eq_nil_or_concat L with ea | ⟨A, q, ea⟩
  · subst ea
    rw [freeF_nil, ← max_all (m := rd) e (by simp) (fun y hy => by
      rcases List.mem_cons.mp hy with rfl | hy
      · omega
      · exact (inL_nil ((hd y).mp hy)).elim)]
  · rw [List.concat_eq_append] at ea
    subst ea
    have hq := hs.ne q (by simp)
    rw [freeF_app, ← max_all (m := q.2) e (List.mem_cons_of_mem _ ((hd _).mpr ⟨q, by simp, hq, Int.le_refl _⟩)) (fun y hy => by
      rcases List.mem_cons.mp hy with rfl | hy
      · have := h0 q (by simp); omega
      · exact hs.last ((hd y).mp hy))]
theorem hid_gt {g rd b : Int} {st : Prs} : ∀ p ∈ hidF g st rd b, rd < p.2 := by
  intro p hp
  obtain ⟨q, hq, rfl⟩ := List.mem_map.mp hp
  have := (List.mem_filter.mp hq).2
  simpa using this
theorem hid_len {g rd b : Int} {st : Prs} : (hidF g st rd b).length ≤ st.length := by
  unfold hidF
  rw [List.length_map]
  exact Nat.le_trans (List.length_filter_le _ _) within_len
theorem set_range {N i : Nat} {α : Type} {f : Nat → α} {v : α} (h : i < N) : ((List.range N).map f).set i v = (List.range N).map fun j => if j = i then v else f j := by
  apply List.ext_getElem
  · simp
  · intro k h1 h2
    rw [List.getElem_set, List.getElem_map, List.getElem_map, List.getElem_range]
    by_cases e : i = k
    · rw [if_pos e, if_pos e.symm]
    · rw [if_neg e, if_neg (Ne.symm e)]
theorem rangeL_nat {N : Nat} : rangeL 0 N = (List.range N).map fun (i : Nat) => D.int (i : Int) := by
  unfold rangeL
  exact List.map_congr_left fun i _ => by rw [Int.zero_add]
theorem inL_take {L : Prs} {k : Nat} {p : Int × Int} {t : Int} (h : L[k]? = some p) : InL (L.take (k + 1)) t ↔ InL (L.take k) t ∨ (p.1 ≤ t ∧ t ≤ p.2) := by
  rw [List.take_add_one, h, inL_app]
  show _ ∨ InL [p] t ↔ _
  rw [inL_cons]
  constructor
  · rintro (h | h | h)
    · exact .inl h
    · exact .inr h
    · exact (inL_nil h).elim
  · rintro (h | h)
    · exact .inl h
    · exact .inr (.inl h)
/-- a fact that the walk shall not use -/
def Hide (p : Prop) : Prop := p
theorem Hide.mk {p : Prop} (h : p) : Hide p := h
theorem Hide.out {p : Prop} (h : Hide p) : p := h
theorem set_true {N i : Nat} {p : Nat → Bool} (h : i < N) : ((List.range N).map fun i => D.bl (p i)).set i (.bl true) = (List.range N).map fun j => D.bl (p j || decide (j = i)) := by
  rw [set_range h]
  refine List.map_congr_left fun j _ => ?_
  split
  · rename_i e; rw [decide_eq_true e, Bool.or_true]
  · rename_i e; rw [decide_eq_false e, Bool.or_false]
theorem rangeL_at {lo : Int} {n k : Nat} {d : D} (h : (rangeL lo n)[k]? = some d) : d = .int (lo + k) ∧ k < n := by
  unfold rangeL at h
  rw [List.getElem?_map] at h
  cases e : (List.range n)[k]? with
  | none => rw [e] at h; cases h
  | some i =>
    rw [e] at h
    obtain ⟨h1, h2⟩ := List.getElem?_eq_some_iff.mp e
    rw [List.getElem_range] at h2
    subst h2
    rw [List.length_range] at h1
    cases h
    exact ⟨rfl, h1⟩
theorem map_get {α : Type} {f : α → D} {xs : List α} {k : Nat} {d : D} (h : (xs.map f)[k]? = some d) : ∃ x, xs[k]? = some x ∧ d = f x := by
  rw [List.getElem?_map] at h
  cases e : xs[k]? with
  | none => rw [e] at h; cases h
  | some x => rw [e] at h; cases h; exact ⟨x, rfl, rfl⟩
theorem get_old' {S T : Store} {n : Nat} {c : Cell} (h : S[n]? = some c) : (S ++ T)[n]? = some c := by
  rw [List.getElem?_append_left (List.getElem?_eq_some_iff.mp h).1]; exact h
theorem late_off {t : Int} {st : Prs} {p : Int × Int} (h : st.getLast? = some p) (ha : st.Pairwise fun p q => p.1 < q.1) (h1 : p.1 ≤ t) : offA st t = p.2 := by
  obtain ⟨ys, e⟩ := List.getLast?_eq_some_iff.mp h
  unfold offA
  rw [e]
  refine off_last fun q hq => ?_
  rw [e] at ha
  rcases List.mem_append.mp hq with hq | hq
  · have := (List.pairwise_append.mp ha).2.2 q hq p (by simp)
    omega
  · rw [List.mem_singleton.mp hq]; exact h1
theorem late_mono {g a b : Int} {st : Prs} {p : Int × Int} (hg : 1 ≤ g) (h : st.getLast? = some p) (ha : st.Pairwise fun p q => p.1 < q.1) (h1 : p.1 ≤ a) (h2 : a ≤ b) : stampF g st a ≤ stampF g st b := by
  unfold stampF
  rw [late_off h ha h1, late_off h ha (by omega)]
  exact Int.mul_le_mul_of_nonneg_right (Int.ediv_le_ediv (by omega) (by omega)) (by omega)
/-- stretches that do not touch are told by their moments -/
theorem sep_one {L : Prs} {a b : Int} (h : Sep L) (hab : a ≤ b) (hm : ∀ t, InL L t ↔ a ≤ t ∧ t ≤ b) : L = [(a, b)] := by
  cases L with
  | nil => exact (inL_nil ((hm a).mpr ⟨Int.le_refl _, hab⟩)).elim
  | cons p r =>
    have hp := h.ne p List.mem_cons_self
    have h1 := (hm p.1).mp ⟨p, List.mem_cons_self, Int.le_refl _, hp⟩
    have h2 := (hm p.2).mp ⟨p, List.mem_cons_self, hp, Int.le_refl _⟩
    have lt : ∀ q ∈ r, p.2 + 1 < q.1 := (List.pairwise_cons.mp h.asc).1
    have out : ∀ t, InL (p :: r) t → t ≤ p.2 + 1 → p.1 ≤ t ∧ t ≤ p.2 := fun t ht hl => by
      obtain ⟨q, hq, h3, h4⟩ := ht
      rcases List.mem_cons.mp hq with rfl | hq
      · exact ⟨h3, h4⟩
      · have := lt q hq; omega
    have ea : p.1 = a := by
      have := out a ((hm a).mpr ⟨Int.le_refl _, hab⟩) (by omega)
      omega
    have eb : p.2 = b := by
      by_cases hh : p.2 = b
      · exact hh
      · have := out (p.2 + 1) ((hm _).mpr ⟨by omega, by omega⟩) (Int.le_refl _)
        omega
    have er : r = [] := by
      cases r with
      | nil => rfl
      | cons q s =>
        have := lt q List.mem_cons_self
        have hq := h.ne q (by simp)
        have := (hm q.1).mp ⟨q, by simp, Int.le_refl _, hq⟩
        omega
    rw [er, ← ea, ← eb]
theorem sep_nil {L : Prs} (h : Sep L) (hm : ∀ t, ¬ InL L t) : L = [] := by
  cases L with
  | nil => rfl
  | cons p r => exact (hm p.1 ⟨p, List.mem_cons_self, Int.le_refl _, h.ne p List.mem_cons_self⟩).elim
theorem sep_head {p : Int × Int} {r : Prs} (h : Sep (p :: r)) {t : Int} (ht : InL (p :: r) t) : p.1 ≤ t := by
  obtain ⟨q, hq, h1, h2⟩ := ht
  rcases List.mem_cons.mp hq with rfl | hq
  · exact h1
  · have := (List.pairwise_cons.mp h.asc).1 q hq
    have := h.ne p List.mem_cons_self
    omega
/-- first and last moment of some stretches, from a rising list of all moments -/
theorem ends_days {L : Prs} {ds : List Nat} {a b : Nat} (h : Sep L) (hm : ∀ t : Int, InL L t ↔ ∃ i ∈ ds, t = (i : Int)) (ha : a ∈ ds) (hb : b ∈ ds) (ha' : ∀ i ∈ ds, a ≤ i) (hb' : ∀ i ∈ ds, i ≤ b) : endsD L = .tup [.int a, .int b] := by
  cases L with
  | nil => exact (inL_nil ((hm a).mpr ⟨a, ha, rfl⟩)).elim
  | cons p r =>
    obtain ⟨q, hq⟩ : ∃ q, (p :: r).getLast? = some q := ⟨_, List.getLast?_eq_some_getLast (by simp)⟩
    have hqm : q ∈ p :: r := List.mem_of_getLast? hq
    rw [endsD_of (p := p) (q := q) rfl hq]
    have hp := h.ne p List.mem_cons_self
    have hqn := h.ne q hqm
    obtain ⟨i, hi, e1⟩ := (hm p.1).mp ⟨p, List.mem_cons_self, Int.le_refl _, hp⟩
    obtain ⟨j, hj, e2⟩ := (hm q.2).mp ⟨q, hqm, hqn, Int.le_refl _⟩
    have g1 := sep_head h ((hm a).mpr ⟨a, ha, rfl⟩)
    obtain ⟨ys, ey⟩ := List.getLast?_eq_some_iff.mp hq
    have g2 : (b : Int) ≤ q.2 := by
      have hin := (hm b).mpr ⟨b, hb, rfl⟩
      rw [ey] at h hin
      exact h.last hin
    have := ha' i hi
    have := hb' j hj
    rw [show p.1 = (a : Int) by omega, show q.2 = (b : Int) by omega]
def fitsB (lo hi : Option Int) (s : Int) : Bool := (match lo with | none => true | some a => decide (a ≤ s)) && (match hi with | none => true | some b => decide (s ≤ b))
theorem fitsB_iff {lo hi : Option Int} {s : Int} : fitsB lo hi s = true ↔ Fits lo hi s := by
  unfold fitsB Fits
  cases lo <;> cases hi <;> simp
theorem head_filter {N : Nat} {p : Nat → Bool} {i : Nat} (hi : i < N) (hp : p i = true) : ∃ a b, ((List.range N).filter p).head? = some a ∧ ((List.range N).filter p).getLast? = some b ∧ a ∈ (List.range N).filter p ∧ b ∈ (List.range N).filter p ∧ (∀ j ∈ (List.range N).filter p, a ≤ j) ∧ ∀ j ∈ (List.range N).filter p, j ≤ b := by
  have hm : i ∈ (List.range N).filter p := List.mem_filter.mpr ⟨List.mem_range.mpr hi, hp⟩
  have hs : ((List.range N).filter p).Pairwise (· < ·) := List.Pairwise.filter _ List.pairwise_lt_range
  generalize (List.range N).filter p = ds at *
  cases ds with
  | nil => cases hm
  | cons a r =>
    obtain ⟨b, hb⟩ : ∃ b, (a :: r).getLast? = some b := ⟨_, List.getLast?_eq_some_getLast (by simp)⟩
    obtain ⟨ys, ey⟩ := List.getLast?_eq_some_iff.mp hb
    refine ⟨a, b, rfl, hb, List.mem_cons_self, List.mem_of_getLast? hb, fun j hj => ?_, fun j hj => ?_⟩
    · rcases List.mem_cons.mp hj with rfl | hj
      · exact Nat.le_refl _
      · exact Nat.le_of_lt ((List.pairwise_cons.mp hs).1 j hj)
    · rw [ey] at hs hj
      rcases List.mem_append.mp hj with hj | hj
      · exact Nat.le_of_lt ((List.pairwise_append.mp hs).2.2 j hj b (by simp))
      · rw [List.mem_singleton.mp hj]; exact Nat.le_refl _
theorem minI_spec {ns : List Int} {x : Int} (h : minI ns = some x) : x ∈ ns ∧ ∀ y ∈ ns, x ≤ y := by
  cases ns with
  | nil => cases h
  | cons a r => cases h; exact foldl_min r a
theorem maxI_spec {ns : List Int} {x : Int} (h : maxI ns = some x) : x ∈ ns ∧ ∀ y ∈ ns, y ≤ x := by
  cases ns with
  | nil => cases h
  | cons a r => cases h; exact foldl_max r a
theorem cntC_lt {i j c : Int} {k : Nat} (hc : 0 < c) (h : k < cntC i j c) : i + (k : Int) * c < j := by
  unfold cntC at h
  split at h
  · have h1 : (k : Int) ≤ (j - i - 1) / c := by omega
    rw [Int.le_ediv_iff_mul_le hc] at h1
    omega
  · omega
theorem sep_out {L : Prs} (h : Sep L) {p : Int × Int} (hp : p ∈ L) {t : Int} (ht : t = p.1 - 1 ∨ t = p.2 + 1) : ¬ InL L t := by
  rintro ⟨q, hq, h1, h2⟩
  have pn := h.ne p hp
  have qn := h.ne q hq
  obtain ⟨i, hi, rfl⟩ := List.mem_iff_getElem.mp hp
  obtain ⟨j, hj, rfl⟩ := List.mem_iff_getElem.mp hq
  rcases Nat.lt_trichotomy i j with e | e | e
  · have := List.pairwise_iff_getElem.mp h.asc i j hi hj e
    omega
  · subst e
    omega
  · have := List.pairwise_iff_getElem.mp h.asc j i hj hi e
    omega
end PL

namespace K45
open PySem PySem.Spec PyProof.Rows L2 PL
set_option linter.all false
noncomputable section
def topS (i : Nat) : Stmt := PySem.Challenge.pw_lostedits_k45_guards.main.body.getD i (.Pass ⟨0, 0, 0, 0⟩)
structure Txt (K : PySem.W.Frag) (mg : Str → Option Value) (t_MAX_MOMENT : Tok) (t_MAX_EVENTS : Tok) : Prop where
  b_all : mg "all" = none
  b_bool : mg "bool" = none
  b_int : mg "int" = none
  b_isinstance : mg "isinstance" = none
  b_len : mg "len" = none
  b_list : mg "list" = none
  b_max : mg "max" = none
  b_min : mg "min" = none
  b_range : mg "range" = none
  b_str : mg "str" = none
  b_tuple : mg "tuple" = none
  b_zip : mg "zip" = none
  c_MAX_MOMENT : mg "MAX_MOMENT" = some (.int 1000000000000000000 t_MAX_MOMENT)
  c_MAX_EVENTS : mg "MAX_EVENTS" = some (.int 200 t_MAX_EVENTS)
section
variable {P : Program} {w : World} {K : PySem.W.Frag} {mg : Str → Option Value} {base : Heap} {t_MAX_MOMENT : Tok} {t_MAX_EVENTS : Tok}
def b_L_source : MS := mRet (mRefL (mCons (mBin mulD (mV 0) (mBlt intD (mCons (mBin geD (mV 0) (mBin powD (mC (.int 10)) (mC (.int 18)))) (mNil)))) (mCons (mBin modD (mBlt intD (mCons (mV 0) (mNil))) (mC (.int 2147483647))) (mCons (mC (.int 0)) (mNil)))))
def f_L_source : Fn := runFn0 1 b_L_source
theorem sc_L_source : FnScope ["_law_cell"] ["_law_cell"] (defScope (topS 31)) := ⟨rfl, rfl, rfl, by decide +kernel, rfl, by decide +kernel, by decide +kernel⟩
theorem d_L_source {f : Addr} {fd : FuncData} (T : Txt K mg t_MAX_MOMENT t_MAX_EVENTS) (F : Fun K "_law_source" "_law_source" (topS 31) f fd) (hm : mg "_law_source" = some (.ref f)) : FnD P w K mg base CX0 "_law_source" 1 1 f_L_source :=
  fn_ok F sc_L_source rfl hm (fun _ _ _ _ _ _ us hl => match us, hl with | [_], _ => rfl) fun cdv A outer s H E n hr =>
    (ss_one (st_ret (de_ref (da_cons (de_bin os_mul (de_var 0) (de_bty cs_int rfl T.b_int (by decide +kernel) (da_cons (de_cmp os_ge (de_var 0) (de_bin os_pow de_int de_int)) da_nil))) (da_cons (de_bin os_mod (de_bty cs_int rfl T.b_int (by decide +kernel) (da_cons (de_var 0) da_nil)) de_int) (da_cons de_int da_nil))))))
def b_require_rule : MS := mSeq (mIfS (mOrB (mNotB (mTru (mIsi [.tuple] (mV 0)))) (mOrB (mB (mBin neGB (mBlt lenD (mCons (mV 0) (mNil))) (mC (.int 3)))) (mNotB (mTru (mBlt allD (mCons (mLcG (mSli (mV 0) (mON) (mOS (mC (.int 2)))) [1] (gN 1) (mYes) (mIsi [.str] (mV 1))) (mNil))))))) (mNever) (mSkip)) (mSeq (mIfS (mOrB (mB (mBin notinB (mBin idxD (mV 0) (mC (.int 0))) (mTup (mCons (mC (.str "newer")) (mCons (mC (.str "notolder")) (mCons (mC (.str "digest")) (mNil))))))) (mB (mBin notinB (mBin idxD (mV 0) (mC (.int 1))) (mTup (mCons (mC (.str "end")) (mCons (mC (.str "start")) (mNil))))))) (mNever) (mSkip)) (mIfS (mNotB (mTru (mIsi [.bool] (mBin idxD (mV 0) (mC (.int 2)))))) (mNever) (mSkip)))
def f_require_rule : Fn := runFn0 2 b_require_rule
theorem sc_require_rule : FnScope ["rule", "part"] ["rule"] (defScope (topS 12)) := ⟨rfl, rfl, rfl, by decide +kernel, rfl, by decide +kernel, by decide +kernel⟩
theorem d_require_rule {f : Addr} {fd : FuncData} (T : Txt K mg t_MAX_MOMENT t_MAX_EVENTS) (F : Fun K "require_rule" "require_rule" (topS 12) f fd) (hm : mg "require_rule" = some (.ref f)) : FnD P w K mg base CX0 "require_rule" 1 1 f_require_rule :=
  fn_ok F sc_require_rule rfl hm (fun _ _ _ _ _ _ us hl => match us, hl with | [_], _ => rfl) fun cdv A outer s H E n hr =>
    (ss_cons (st_if (DW.t (dw_or (dt_not (dt_tru (de_isi (T := .tuple) (de_var 0) rfl T.b_isinstance rfl T.b_tuple (by decide +kernel)))) (dw_or (dt_cmp (os_neG hr.units) (de_blt cs_len rfl T.b_len (by decide +kernel) (da_cons (de_var 0) da_nil)) de_int) (dw_one_or (dt_not (dt_tru (de_blt (cs_all rfl) rfl T.b_all (by decide +kernel) (da_cons (de_lcG (own := [("part", 1)]) rfl sc_require_rule.nd (de_sli (de_var 0) do_none (do_some de_int)) (blkOk_by (N := ["rule", "part"]) (sc := (defScope (topS 12))) (by decide +kernel)) (fun _ _ _ _ _ => (dg_name 1 sc_require_rule.nd)) (fun _ _ _ _ _ => dts_nil) (fun _ _ _ _ _ => (de_isi (T := .str) (de_var 1) rfl T.b_isinstance rfl T.b_str (by decide +kernel)))) da_nil)))))))) (ss_one st_never) ss_nil) (ss_cons (st_if (DW.t (dw_or (dt_cmp (os_notin (room65 hr.toRoom)) (de_idx (de_var 0) de_int) (de_tup (da_cons de_str (da_cons de_str (da_cons de_str da_nil))))) (dw_one_or (dt_cmp (os_notin (room65 hr.toRoom)) (de_idx (de_var 0) de_int) (de_tup (da_cons de_str (da_cons de_str da_nil))))))) (ss_one st_never) ss_nil) (ss_one (st_if (dt_not (dt_tru (de_isi (T := .bool) (de_idx (de_var 0) de_int) rfl T.b_isinstance rfl T.b_bool (by decide +kernel)))) (ss_one st_never) ss_nil))))
def b_is_integer : MS := mRet (mAnd (mIsi [.int] (mV 0)) (mNot (mIsi [.bool] (mV 0))))
def f_is_integer : Fn := runFn0 1 b_is_integer
theorem sc_is_integer : FnScope ["value"] ["value"] (defScope (topS 8)) := ⟨rfl, rfl, rfl, by decide +kernel, rfl, by decide +kernel, by decide +kernel⟩
theorem d_is_integer {f : Addr} {fd : FuncData} (T : Txt K mg t_MAX_MOMENT t_MAX_EVENTS) (F : Fun K "is_integer" "is_integer" (topS 8) f fd) (hm : mg "is_integer" = some (.ref f)) : FnD P w K mg base CX0 "is_integer" 1 1 f_is_integer :=
  fn_ok F sc_is_integer rfl hm (fun _ _ _ _ _ _ us hl => match us, hl with | [_], _ => rfl) fun cdv A outer s H E n hr =>
    (ss_one (st_ret (de_and (de_isi (T := .int) (de_var 0) rfl T.b_isinstance rfl T.b_int (by decide +kernel)) (de_one (de_not (de_isi (T := .bool) (de_var 0) rfl T.b_isinstance rfl T.b_bool (by decide +kernel)))))))
def b_is_between : MS := mRet (mAnd (mCall f_is_integer (mCons (mV 0) (mNil))) (mChain leD leD (mV 1) (mV 0) (mV 2)))
def f_is_between : Fn := runFn0 3 b_is_between
theorem sc_is_between : FnScope ["value", "low", "high"] ["value", "low", "high"] (defScope (topS 9)) := ⟨rfl, rfl, rfl, by decide +kernel, rfl, by decide +kernel, by decide +kernel⟩
theorem d_is_between {f : Addr} {fd : FuncData} (T : Txt K mg t_MAX_MOMENT t_MAX_EVENTS) (G_is_integer : FnD P w K mg base CX0 "is_integer" 1 1 f_is_integer) (F : Fun K "is_between" "is_between" (topS 9) f fd) (hm : mg "is_between" = some (.ref f)) : FnD P w K mg base CX0 "is_between" 2 3 f_is_between :=
  fn_ok F sc_is_between rfl hm (fun _ _ _ _ _ _ us hl => match us, hl with | [_, _, _], _ => rfl) fun cdv A outer s H E n hr =>
    (ss_one (st_ret (de_and (de_call0 (G_is_integer.mono (by decide)) hr rfl (da_cons (de_var 0) da_nil)) (de_one (de_chain os_le os_le (de_var 1) (de_var 0) (de_var 2))))))
def b_require_grain : MS := mIfS (mNotB (mTru (mCall f_is_between (mCons (mV 0) (mCons (mC (.int 1)) (mCons (mC (.int 1000000000000000000)) (mNil))))))) (mNever) (mSkip)
def f_require_grain : Fn := runFn0 1 b_require_grain
theorem sc_require_grain : FnScope ["grain"] ["grain"] (defScope (topS 16)) := ⟨rfl, rfl, rfl, by decide +kernel, rfl, by decide +kernel, by decide +kernel⟩
theorem d_require_grain {f : Addr} {fd : FuncData} (T : Txt K mg t_MAX_MOMENT t_MAX_EVENTS) (G_is_between : FnD P w K mg base CX0 "is_between" 2 3 f_is_between) (F : Fun K "require_grain" "require_grain" (topS 16) f fd) (hm : mg "require_grain" = some (.ref f)) : FnD P w K mg base CX0 "require_grain" 3 1 f_require_grain :=
  fn_ok F sc_require_grain rfl hm (fun _ _ _ _ _ _ us hl => match us, hl with | [_], _ => rfl) fun cdv A outer s H E n hr =>
    (ss_one (st_if (dt_not (dt_tru (de_call0 (G_is_between.mono (by decide)) hr rfl (da_cons (de_var 0) (da_cons de_int (da_cons (de_glob rfl T.c_MAX_MOMENT .int) da_nil)))))) (ss_one st_never) ss_nil))
def b_is_moment : MS := mRet (mCall f_is_between (mCons (mV 0) (mCons (mC (.int 0)) (mCons (mC (.int 1000000000000000000)) (mNil)))))
def f_is_moment : Fn := runFn0 1 b_is_moment
theorem sc_is_moment : FnScope ["value"] ["value"] (defScope (topS 10)) := ⟨rfl, rfl, rfl, by decide +kernel, rfl, by decide +kernel, by decide +kernel⟩
theorem d_is_moment {f : Addr} {fd : FuncData} (T : Txt K mg t_MAX_MOMENT t_MAX_EVENTS) (G_is_between : FnD P w K mg base CX0 "is_between" 2 3 f_is_between) (F : Fun K "is_moment" "is_moment" (topS 10) f fd) (hm : mg "is_moment" = some (.ref f)) : FnD P w K mg base CX0 "is_moment" 3 1 f_is_moment :=
  fn_ok F sc_is_moment rfl hm (fun _ _ _ _ _ _ us hl => match us, hl with | [_], _ => rfl) fun cdv A outer s H E n hr =>
    (ss_one (st_ret (de_call0 (G_is_between.mono (by decide)) hr rfl (da_cons (de_var 0) (da_cons de_int (da_cons (de_glob rfl T.c_MAX_MOMENT .int) da_nil))))))
def b_require_edits : MS := mSeq (mIfS (mOrB (mNotB (mTru (mIsi [.list, .tuple] (mV 0)))) (mOrB (mB (mBin gtD (mBlt lenD (mCons (mV 0) (mNil))) (mC (.int 200)))) (mNotB (mTru (mBlt allD (mCons (mLcG (mV 0) [1] (gN 1) (mYes) (mCall f_is_moment (mCons (mV 1) (mNil)))) (mNil))))))) (mNever) (mSkip)) (mIfS (mNotB (mTru (mBlt allD (mCons (mLcD (mZipD false (mCons (mV 0) (mCons (mSli (mV 0) (mOS (mC (.int 1))) (mON)) (mNil)))) [2, 3] (gT (gsCons (gN 2) (gsCons (gN 3) (gsNil)))) (mYes) (mBin ltD (mV 2) (mV 3))) (mNil))))) (mNever) (mSkip))
def f_require_edits : Fn := runFn0 4 b_require_edits
theorem sc_require_edits : FnScope ["edits", "edit", "one", "other"] ["edits"] (defScope (topS 26)) := ⟨rfl, rfl, rfl, by decide +kernel, rfl, by decide +kernel, by decide +kernel⟩
theorem d_require_edits {f : Addr} {fd : FuncData} (T : Txt K mg t_MAX_MOMENT t_MAX_EVENTS) (G_is_moment : FnD P w K mg base CX0 "is_moment" 3 1 f_is_moment) (F : Fun K "require_edits" "require_edits" (topS 26) f fd) (hm : mg "require_edits" = some (.ref f)) : FnD P w K mg base CX0 "require_edits" 4 1 f_require_edits :=
  fn_ok F sc_require_edits rfl hm (fun _ _ _ _ _ _ us hl => match us, hl with | [_], _ => rfl) fun cdv A outer s H E n hr =>
    (ss_cons (st_if (DW.t (dw_or (dt_not (dt_tru (de_isi2 (T := .list) (U := .tuple) (de_var 0) rfl T.b_isinstance rfl T.b_list (by decide +kernel) rfl T.b_tuple (by decide +kernel)))) (dw_or (dt_cmp os_gt (de_blt cs_len rfl T.b_len (by decide +kernel) (da_cons (de_var 0) da_nil)) (de_glob rfl T.c_MAX_EVENTS .int)) (dw_one_or (dt_not (dt_tru (de_blt (cs_all rfl) rfl T.b_all (by decide +kernel) (da_cons (de_lcG (own := [("edit", 1)]) rfl sc_require_edits.nd (de_var 0) (blkOk_by (N := ["edits", "edit", "one", "other"]) (sc := (defScope (topS 26))) (by decide +kernel)) (fun _ _ _ _ _ => (dg_name 1 sc_require_edits.nd)) (fun _ _ _ _ _ => dts_nil) (fun _ _ _ _ _ => (de_call0 (G_is_moment.mono (by decide)) hr rfl (da_cons (de_var 1) da_nil)))) da_nil)))))))) (ss_one st_never) ss_nil) (ss_one (st_if (dt_not (dt_tru (de_blt (cs_all rfl) rfl T.b_all (by decide +kernel) (da_cons (de_lcD (own := [("one", 2), ("other", 3)]) rfl sc_require_edits.nd (di_zipDF rfl T.b_zip (da_cons (de_var 0) (da_cons (de_sli (de_var 0) (do_some de_int) do_none) da_nil))) (blkOk_by (N := ["edits", "edit", "one", "other"]) (sc := (defScope (topS 26))) (by decide +kernel)) (fun _ _ _ _ _ => (dg_tup rfl (dgs_cons (dg_name 2 sc_require_edits.nd) (dgs_cons (dg_name 3 sc_require_edits.nd) dgs_nil)))) (fun _ _ _ _ _ => dts_nil) (fun _ _ _ _ _ => (de_cmp os_lt (de_var 2) (de_var 3)))) da_nil)))) (ss_one st_never) ss_nil)))
def b_require_moment : MS := mIfS (mNotB (mTru (mCall f_is_moment (mCons (mV 1) (mNil))))) (mNever) (mSkip)
def f_require_moment : Fn := runFn0 2 b_require_moment
theorem sc_require_moment : FnScope ["name", "value"] ["name", "value"] (defScope (topS 11)) := ⟨rfl, rfl, rfl, by decide +kernel, rfl, by decide +kernel, by decide +kernel⟩
theorem d_require_moment {f : Addr} {fd : FuncData} (T : Txt K mg t_MAX_MOMENT t_MAX_EVENTS) (G_is_moment : FnD P w K mg base CX0 "is_moment" 3 1 f_is_moment) (F : Fun K "require_moment" "require_moment" (topS 11) f fd) (hm : mg "require_moment" = some (.ref f)) : FnD P w K mg base CX0 "require_moment" 4 2 f_require_moment :=
  fn_ok F sc_require_moment rfl hm (fun _ _ _ _ _ _ us hl => match us, hl with | [_, _], _ => rfl) fun cdv A outer s H E n hr =>
    (ss_one (st_if (dt_not (dt_tru (de_call0 (G_is_moment.mono (by decide)) hr rfl (da_cons (de_var 1) da_nil)))) (ss_one st_never) ss_nil))
def b_require_delays : MS := mSeq (mIfS (mNotB (mTru (mCall f_is_between (mCons (mV 0) (mCons (mC (.int 0)) (mCons (mC (.int 1000000000000000000)) (mNil))))))) (mNever) (mSkip)) (mIfS (mNotB (mTru (mCall f_is_between (mCons (mV 1) (mCons (mBlt maxD (mCons (mV 0) (mCons (mC (.int 1)) (mNil)))) (mCons (mC (.int 1000000000000000000)) (mNil))))))) (mNever) (mSkip))
def f_require_delays : Fn := runFn0 2 b_require_delays
theorem sc_require_delays : FnScope ["reading", "writing"] ["reading", "writing"] (defScope (topS 18)) := ⟨rfl, rfl, rfl, by decide +kernel, rfl, by decide +kernel, by decide +kernel⟩
theorem d_require_delays {f : Addr} {fd : FuncData} (T : Txt K mg t_MAX_MOMENT t_MAX_EVENTS) (G_is_between : FnD P w K mg base CX0 "is_between" 2 3 f_is_between) (F : Fun K "require_delays" "require_delays" (topS 18) f fd) (hm : mg "require_delays" = some (.ref f)) : FnD P w K mg base CX0 "require_delays" 3 2 f_require_delays :=
  fn_ok F sc_require_delays rfl hm (fun _ _ _ _ _ _ us hl => match us, hl with | [_, _], _ => rfl) fun cdv A outer s H E n hr =>
    (ss_cons (st_if (dt_not (dt_tru (de_call0 (G_is_between.mono (by decide)) hr rfl (da_cons (de_var 0) (da_cons de_int (da_cons (de_glob rfl T.c_MAX_MOMENT .int) da_nil)))))) (ss_one st_never) ss_nil) (ss_one (st_if (dt_not (dt_tru (de_call0 (G_is_between.mono (by decide)) hr rfl (da_cons (de_var 1) (da_cons (de_blt (cs_max rfl) rfl T.b_max (by decide +kernel) (da_cons (de_var 0) (da_cons de_int da_nil))) (da_cons (de_glob rfl T.c_MAX_MOMENT .int) da_nil)))))) (ss_one st_never) ss_nil)))
def b_first_of : MS := mRet (mBin mulD (mBin divD (mV 1) (mV 0)) (mV 0))
def f_first_of : Fn := runFn0 2 b_first_of
theorem sc_first_of : FnScope ["grain", "moment"] ["grain", "moment"] (defScope (topS 19)) := ⟨rfl, rfl, rfl, by decide +kernel, rfl, by decide +kernel, by decide +kernel⟩
theorem d_first_of {f : Addr} {fd : FuncData} (T : Txt K mg t_MAX_MOMENT t_MAX_EVENTS) (F : Fun K "first_of" "first_of" (topS 19) f fd) (hm : mg "first_of" = some (.ref f)) : FnD P w K mg base CX0 "first_of" 1 2 f_first_of :=
  fn_ok F sc_first_of rfl hm (fun _ _ _ _ _ _ us hl => match us, hl with | [_, _], _ => rfl) fun cdv A outer s H E n hr =>
    (ss_one (st_ret (de_bin os_mul (de_bin os_div (de_var 1) (de_var 0)) (de_var 0))))
def b_stamp_by : MS := mRet (mCall f_first_of (mCons (mV 0) (mCons (mBlt maxD (mCons (mBin addD (mLst (mCons (mC (.int 0)) (mNil))) (mLcG (mV 1) [3] (gN 3) (mB (mBin leD (mV 3) (mV 2))) (mV 3))) (mNil))) (mNil))))
def f_stamp_by : Fn := runFn0 4 b_stamp_by
theorem sc_stamp_by : FnScope ["grain", "edits", "moment", "edit"] ["grain", "edits", "moment"] (defScope (topS 27)) := ⟨rfl, rfl, rfl, by decide +kernel, rfl, by decide +kernel, by decide +kernel⟩
theorem d_stamp_by {f : Addr} {fd : FuncData} (T : Txt K mg t_MAX_MOMENT t_MAX_EVENTS) (G_first_of : FnD P w K mg base CX0 "first_of" 1 2 f_first_of) (F : Fun K "stamp_by" "stamp_by" (topS 27) f fd) (hm : mg "stamp_by" = some (.ref f)) : FnD P w K mg base CX0 "stamp_by" 2 3 f_stamp_by :=
  fn_ok F sc_stamp_by rfl hm (fun _ _ _ _ _ _ us hl => match us, hl with | [_, _, _], _ => rfl) fun cdv A outer s H E n hr =>
    (ss_one (st_ret (de_call0 (G_first_of.mono (by decide)) hr rfl (da_cons (de_var 0) (da_cons (de_blt (cs_max rfl) rfl T.b_max (by decide +kernel) (da_cons (de_bin os_add (de_lst (da_cons de_int da_nil)) (de_lcG (own := [("edit", 3)]) rfl sc_stamp_by.nd (de_var 1) (blkOk_by (N := ["grain", "edits", "moment", "edit"]) (sc := (defScope (topS 27))) (by decide +kernel)) (fun _ _ _ _ _ => (dg_name 3 sc_stamp_by.nd)) (fun _ _ _ _ _ => (dts_one (dt_cmp os_le (de_var 3) (de_var 2)))) (fun _ _ _ _ _ => (de_var 3)))) da_nil)) da_nil)))))
def b_last_of_tick : MS := mRet (mBin subD (mBin addD (mBin mulD (mBin divD (mV 1) (mV 0)) (mV 0)) (mV 0)) (mC (.int 1)))
def f_last_of_tick : Fn := runFn0 2 b_last_of_tick
theorem sc_last_of_tick : FnScope ["grain", "moment"] ["grain", "moment"] (defScope (topS 20)) := ⟨rfl, rfl, rfl, by decide +kernel, rfl, by decide +kernel, by decide +kernel⟩
theorem d_last_of_tick {f : Addr} {fd : FuncData} (T : Txt K mg t_MAX_MOMENT t_MAX_EVENTS) (F : Fun K "last_of_tick" "last_of_tick" (topS 20) f fd) (hm : mg "last_of_tick" = some (.ref f)) : FnD P w K mg base CX0 "last_of_tick" 1 2 f_last_of_tick :=
  fn_ok F sc_last_of_tick rfl hm (fun _ _ _ _ _ _ us hl => match us, hl with | [_, _], _ => rfl) fun cdv A outer s H E n hr =>
    (ss_one (st_ret (de_bin os_sub (de_bin os_add (de_bin os_mul (de_bin os_div (de_var 1) (de_var 0)) (de_var 0)) (de_var 0)) de_int)))
def b_last_lost : MS := mSeq (mIfS (mB (mBin eqGB (mBin idxD (mV 0) (mC (.int 1))) (mC (.str "start")))) (mRet (mIf (mB (mBin eqGB (mBin idxD (mV 0) (mC (.int 0))) (mC (.str "newer")))) (mCall f_last_of_tick (mCons (mV 1) (mCons (mV 2) (mNil)))) (mV 3))) (mSkip)) (mRet (mBin idxG (mDisp (mP (mC (.str "newer")) (mCall f_last_of_tick (mCons (mV 1) (mCons (mV 4) (mNil)))) (mP (mC (.str "notolder")) (mBin subD (mCall f_first_of (mCons (mV 1) (mCons (mV 4) (mNil)))) (mC (.int 1))) (mP (mC (.str "digest")) (mV 4) (mP0))))) (mBin idxD (mV 0) (mC (.int 0)))))
def f_last_lost : Fn := runFn0 5 b_last_lost
theorem sc_last_lost : FnScope ["rule", "grain", "begin", "read", "write"] ["rule", "grain", "begin", "read", "write"] (defScope (topS 22)) := ⟨rfl, rfl, rfl, by decide +kernel, rfl, by decide +kernel, by decide +kernel⟩
theorem d_last_lost {f : Addr} {fd : FuncData} (T : Txt K mg t_MAX_MOMENT t_MAX_EVENTS) (G_last_of_tick : FnD P w K mg base CX0 "last_of_tick" 1 2 f_last_of_tick) (G_first_of : FnD P w K mg base CX0 "first_of" 1 2 f_first_of) (F : Fun K "last_lost" "last_lost" (topS 22) f fd) (hm : mg "last_lost" = some (.ref f)) : FnD P w K mg base CX0 "last_lost" 2 5 f_last_lost :=
  fn_ok F sc_last_lost rfl hm (fun _ _ _ _ _ _ us hl => match us, hl with | [_, _, _, _, _], _ => rfl) fun cdv A outer s H E n hr =>
    (ss_cons (st_if (dt_cmp (os_eqG hr.units) (de_idx (de_var 0) de_int) de_str) (ss_one (st_ret (de_if (dt_cmp (os_eqG hr.units) (de_idx (de_var 0) de_int) de_str) (de_call0 (G_last_of_tick.mono (by decide)) hr rfl (da_cons (de_var 1) (da_cons (de_var 2) da_nil))) (de_var 3)))) ss_nil) (ss_one (st_ret (de_idxG (room65 hr.toRoom) (de_disp (dp_cons de_str (de_call0 (G_last_of_tick.mono (by decide)) hr rfl (da_cons (de_var 1) (da_cons (de_var 4) da_nil))) (dp_cons de_str (de_bin os_sub (de_call0 (G_first_of.mono (by decide)) hr rfl (da_cons (de_var 1) (da_cons (de_var 4) da_nil))) de_int) (dp_cons de_str (de_var 4) dp_nil)))) (de_idx (de_var 0) de_int)))))
def b_guard_rounds : MS := mSeq (mDrop (mCall f_require_rule (mCons (mV 0) (mNil)))) (mSeq (mDrop (mCall f_require_grain (mCons (mV 1) (mNil)))) (mSeq (mDrop (mCall f_require_edits (mCons (mV 2) (mNil)))) (mSeq (mDrop (mCall f_require_moment (mCons (mC (.str "begin")) (mCons (mV 3) (mNil))))) (mSeq (mDrop (mCall f_require_delays (mCons (mV 4) (mCons (mV 5) (mNil))))) (mSeq (mIfS (mNotB (mTru (mCall f_is_between (mCons (mV 6) (mCons (mV 5) (mCons (mC (.int 1000000000000000000)) (mNil))))))) (mNever) (mSkip)) (mSeq (mSet 7 (mRefL (mCons (mV 3) (mNil)))) (mSeq (mWhile 1000 (mB (mBin neGB (mCall f_stamp_by (mCons (mV 1) (mCons (mV 2) (mCons (mBin addD (mBin idxD (mV 7) (mUn negD (mC (.int 1)))) (mV 4)) (mNil))))) (mCall f_stamp_by (mCons (mV 1) (mCons (mV 2) (mCons (mBin addD (mBin idxD (mV 7) (mUn negD (mC (.int 1)))) (mV 6)) (mNil))))))) (mAppR (mV 7) (mBin addD (mBin idxD (mV 7) (mUn negD (mC (.int 1)))) (mV 6)))) (mSeq (mPar 3 8 (mCons (mBin idxD (mV 7) (mUn negD (mC (.int 1)))) (mCons (mBin addD (mBin idxD (mV 7) (mUn negD (mC (.int 1)))) (mV 4)) (mNil)))) (mSeq (mIfS (mOrB (mB (mBin eqGB (mBlt lenD (mCons (mV 2) (mNil))) (mC (.int 0)))) (mB (mBin leD (mBin idxD (mV 2) (mUn negD (mC (.int 1)))) (mV 8)))) (mRet (mTup (mCons (mV 7) (mCons (mC (.str "right")) (mNil))))) (mSkip)) (mSeq (mSet 9 (mBin leD (mBin idxD (mV 2) (mUn negD (mC (.int 1)))) (mCall f_last_lost (mCons (mV 0) (mCons (mV 1) (mCons (mV 3) (mCons (mV 8) (mCons (mBin addD (mV 3) (mV 5)) (mNil))))))))) (mRet (mTup (mCons (mV 7) (mCons (mIf (mTru (mV 9)) (mC (.str "lost")) (mC (.str "due"))) (mNil)))))))))))))))
def f_guard_rounds : Fn := runFn0 10 b_guard_rounds
theorem sc_guard_rounds : FnScope ["rule", "grain", "edits", "begin", "reading", "writing", "looking", "begins", "read", "is_lost"] ["rule", "grain", "edits", "begin", "reading", "writing", "looking"] (defScope (topS 28)) := ⟨rfl, rfl, rfl, by decide +kernel, rfl, by decide +kernel, by decide +kernel⟩
theorem d_guard_rounds {f : Addr} {fd : FuncData} (T : Txt K mg t_MAX_MOMENT t_MAX_EVENTS) (G_require_rule : FnD P w K mg base CX0 "require_rule" 1 1 f_require_rule) (G_require_grain : FnD P w K mg base CX0 "require_grain" 3 1 f_require_grain) (G_require_edits : FnD P w K mg base CX0 "require_edits" 4 1 f_require_edits) (G_require_moment : FnD P w K mg base CX0 "require_moment" 4 2 f_require_moment) (G_require_delays : FnD P w K mg base CX0 "require_delays" 3 2 f_require_delays) (G_is_between : FnD P w K mg base CX0 "is_between" 2 3 f_is_between) (G_stamp_by : FnD P w K mg base CX0 "stamp_by" 2 3 f_stamp_by) (G_last_lost : FnD P w K mg base CX0 "last_lost" 2 5 f_last_lost) (F : Fun K "guard_rounds" "guard_rounds" (topS 28) f fd) (hm : mg "guard_rounds" = some (.ref f)) : FnD P w K mg base CX0 "guard_rounds" 5 7 f_guard_rounds :=
  fn_ok F sc_guard_rounds rfl hm (fun _ _ _ _ _ _ us hl => match us, hl with | [_, _, _, _, _, _, _], _ => rfl) fun cdv A outer s H E n hr =>
    (ss_cons (st_drop (de_call0 (G_require_rule.mono (by decide)) hr rfl (da_cons (de_var 0) da_nil))) (ss_cons (st_drop (de_call0 (G_require_grain.mono (by decide)) hr rfl (da_cons (de_var 1) da_nil))) (ss_cons (st_drop (de_call0 (G_require_edits.mono (by decide)) hr rfl (da_cons (de_var 2) da_nil))) (ss_cons (st_drop (de_call0 (G_require_moment.mono (by decide)) hr rfl (da_cons de_str (da_cons (de_var 3) da_nil)))) (ss_cons (st_drop (de_call0 (G_require_delays.mono (by decide)) hr rfl (da_cons (de_var 4) (da_cons (de_var 5) da_nil)))) (ss_cons (st_if (dt_not (dt_tru (de_call0 (G_is_between.mono (by decide)) hr rfl (da_cons (de_var 6) (da_cons (de_var 5) (da_cons (de_glob rfl T.c_MAX_MOMENT .int) da_nil)))))) (ss_one st_never) ss_nil) (ss_cons (st_set 7 (de_ref (da_cons (de_var 3) da_nil)) sc_guard_rounds.nd) (ss_cons (st_while 1000 PassesOwn.never (dt_cmp (os_neG hr.units) (de_call0 (G_stamp_by.mono (by decide)) hr rfl (da_cons (de_var 1) (da_cons (de_var 2) (da_cons (de_bin os_add (de_idx (de_var 7) (de_un us_neg de_int)) (de_var 4)) da_nil)))) (de_call0 (G_stamp_by.mono (by decide)) hr rfl (da_cons (de_var 1) (da_cons (de_var 2) (da_cons (de_bin os_add (de_idx (de_var 7) (de_un us_neg de_int)) (de_var 6)) da_nil))))) (ss_one (st_appR (de_var 7) (de_bin os_add (de_idx (de_var 7) (de_un us_neg de_int)) (de_var 6))))) (ss_cons (st_par 3 8 (da_cons (de_idx (de_var 7) (de_un us_neg de_int)) (da_cons (de_bin os_add (de_idx (de_var 7) (de_un us_neg de_int)) (de_var 4)) da_nil)) rfl sc_guard_rounds.nd) (ss_cons (st_if (DW.t (dw_or (dt_cmp (os_eqG hr.units) (de_blt cs_len rfl T.b_len (by decide +kernel) (da_cons (de_var 2) da_nil)) de_int) (dw_one_or (dt_cmp os_le (de_idx (de_var 2) (de_un us_neg de_int)) (de_var 8))))) (ss_one (st_ret (de_tup (da_cons (de_var 7) (da_cons de_str da_nil))))) ss_nil) (ss_cons (st_set 9 (de_cmp os_le (de_idx (de_var 2) (de_un us_neg de_int)) (de_call0 (G_last_lost.mono (by decide)) hr rfl (da_cons (de_var 0) (da_cons (de_var 1) (da_cons (de_var 3) (da_cons (de_var 8) (da_cons (de_bin os_add (de_var 3) (de_var 5)) da_nil))))))) sc_guard_rounds.nd) (ss_one (st_ret (de_tup (da_cons (de_var 7) (da_cons (de_if (dt_tru (de_var 9)) de_str de_str) da_nil))))))))))))))))
def b_L_cell_at : MS := mSeq (mIfS (mB (mBin ltD (mV 1) (mBlt lenD (mCons (mV 0) (mNil))))) (mRet (mBin idxD (mV 0) (mV 1))) (mSkip)) (mRet (mC (.int 0)))
def f_L_cell_at : Fn := runFn0 2 b_L_cell_at
theorem sc_L_cell_at : FnScope ["_law_script", "_law_k"] ["_law_script", "_law_k"] (defScope (topS 30)) := ⟨rfl, rfl, rfl, by decide +kernel, rfl, by decide +kernel, by decide +kernel⟩
theorem d_L_cell_at {f : Addr} {fd : FuncData} (T : Txt K mg t_MAX_MOMENT t_MAX_EVENTS) (F : Fun K "_law_cell_at" "_law_cell_at" (topS 30) f fd) (hm : mg "_law_cell_at" = some (.ref f)) : FnD P w K mg base CX0 "_law_cell_at" 1 2 f_L_cell_at :=
  fn_ok F sc_L_cell_at rfl hm (fun _ _ _ _ _ _ us hl => match us, hl with | [_, _], _ => rfl) fun cdv A outer s H E n hr =>
    (ss_cons (st_if (dt_cmp os_lt (de_var 1) (de_blt cs_len rfl T.b_len (by decide +kernel) (da_cons (de_var 0) da_nil))) (ss_one (st_ret (de_idx (de_var 0) (de_var 1)))) ss_nil) (ss_one (st_ret de_int)))
def b_L_take : MS := mSeq (mIfS (mB (mBin gtD (mBin idxD (mV 0) (mC (.int 0))) (mC (.int 0)))) (mSeq (mSet 2 (mBin modD (mBlt intD (mCons (mBin idxD (mV 0) (mC (.int 0))) (mNil))) (mV 1))) (mSeq (mStI (mV 0) (mC (.int 0)) (mBin divD (mBin idxD (mV 0) (mC (.int 0))) (mV 1))) (mRet (mV 2)))) (mSkip)) (mSeq (mStI (mV 0) (mC (.int 2)) (mBin addD (mBin idxD (mV 0) (mC (.int 2))) (mC (.int 1)))) (mSeq (mSet 3 (mBin modD (mBlt intD (mCons (mBin powD (mBin addD (mBin addD (mBin idxD (mV 0) (mC (.int 1))) (mBin mulD (mC (.int 7919)) (mBin idxD (mV 0) (mC (.int 2))))) (mC (.int 1))) (mC (.int 5))) (mNil))) (mC (.int 2147483629)))) (mSeq (mSet 3 (mBin modD (mBlt intD (mCons (mBin mulD (mV 3) (mBin addD (mBin addD (mBin divD (mV 3) (mC (.int 1009))) (mC (.int 69621))) (mBin idxD (mV 0) (mC (.int 2))))) (mNil))) (mC (.int 2147483587)))) (mRet (mBin modD (mBlt intD (mCons (mBin divD (mBin modD (mBlt intD (mCons (mBin mulD (mV 3) (mBin addD (mBin divD (mV 3) (mC (.int 2003))) (mC (.int 40692)))) (mNil))) (mC (.int 2147483579))) (mC (.int 7))) (mNil))) (mV 1))))))
def f_L_take : Fn := runFn0 4 b_L_take
theorem sc_L_take : FnScope ["_law_source_here", "_law_bound", "_law_digit", "_law_number"] ["_law_source_here", "_law_bound"] (defScope (topS 32)) := ⟨rfl, rfl, rfl, by decide +kernel, rfl, by decide +kernel, by decide +kernel⟩
theorem d_L_take {f : Addr} {fd : FuncData} (T : Txt K mg t_MAX_MOMENT t_MAX_EVENTS) (F : Fun K "_law_take" "_law_take" (topS 32) f fd) (hm : mg "_law_take" = some (.ref f)) : FnD P w K mg base CX0 "_law_take" 1 2 f_L_take :=
  fn_ok F sc_L_take rfl hm (fun _ _ _ _ _ _ us hl => match us, hl with | [_, _], _ => rfl) fun cdv A outer s H E n hr =>
    (ss_cons (st_if (dt_cmp os_gt (de_idx (de_var 0) de_int) de_int) (ss_cons (st_set 2 (de_bin os_mod (de_bty cs_int rfl T.b_int (by decide +kernel) (da_cons (de_idx (de_var 0) de_int) da_nil)) (de_var 1)) sc_L_take.nd) (ss_cons (st_sti (de_var 0) de_int (de_bin os_div (de_idx (de_var 0) de_int) (de_var 1))) (ss_one (st_ret (de_var 2))))) ss_nil) (ss_cons (st_sti (de_var 0) de_int (de_bin os_add (de_idx (de_var 0) de_int) de_int)) (ss_cons (st_set 3 (de_bin os_mod (de_bty cs_int rfl T.b_int (by decide +kernel) (da_cons (de_bin os_pow (de_bin os_add (de_bin os_add (de_idx (de_var 0) de_int) (de_bin os_mul de_int (de_idx (de_var 0) de_int))) de_int) de_int) da_nil)) de_int) sc_L_take.nd) (ss_cons (st_set 3 (de_bin os_mod (de_bty cs_int rfl T.b_int (by decide +kernel) (da_cons (de_bin os_mul (de_var 3) (de_bin os_add (de_bin os_add (de_bin os_div (de_var 3) de_int) de_int) (de_idx (de_var 0) de_int))) da_nil)) de_int) sc_L_take.nd) (ss_one (st_ret (de_bin os_mod (de_bty cs_int rfl T.b_int (by decide +kernel) (da_cons (de_bin os_div (de_bin os_mod (de_bty cs_int rfl T.b_int (by decide +kernel) (da_cons (de_bin os_mul (de_var 3) (de_bin os_add (de_bin os_div (de_var 3) de_int) de_int)) da_nil)) de_int) de_int) da_nil)) (de_var 1))))))))
def b_L_rules : MS := mSeq (mPar 1 2 (mCons (mBin eqGB (mCall f_L_take (mCons (mV 0) (mCons (mC (.int 2)) (mNil)))) (mC (.int 0))) (mCons (mLst (mNil)) (mNil)))) (mSeq (mForG (mTup (mCons (mC (.str "newer")) (mCons (mC (.str "notolder")) (mCons (mC (.str "digest")) (mNil))))) (gN 3) (mSet 2 (mBin addD (mV 2) (mLst (mCons (mTup (mCons (mV 3) (mCons (mC (.str "end")) (mCons (mV 1) (mNil))))) (mCons (mTup (mCons (mV 3) (mCons (mC (.str "start")) (mCons (mV 1) (mNil))))) (mNil))))))) (mRet (mV 2)))
def f_L_rules : Fn := runFn0 4 b_L_rules
theorem sc_L_rules : FnScope ["_law_source_here", "_law_follow", "_law_found", "_law_compare"] ["_law_source_here"] (defScope (topS 35)) := ⟨rfl, rfl, rfl, by decide +kernel, rfl, by decide +kernel, by decide +kernel⟩
theorem d_L_rules {f : Addr} {fd : FuncData} (T : Txt K mg t_MAX_MOMENT t_MAX_EVENTS) (G_L_take : FnD P w K mg base CX0 "_law_take" 1 2 f_L_take) (F : Fun K "_law_rules" "_law_rules" (topS 35) f fd) (hm : mg "_law_rules" = some (.ref f)) : FnD P w K mg base CX0 "_law_rules" 2 1 f_L_rules :=
  fn_ok F sc_L_rules rfl hm (fun _ _ _ _ _ _ us hl => match us, hl with | [_], _ => rfl) fun cdv A outer s H E n hr =>
    (ss_cons (st_par 1 2 (da_cons (de_cmp (os_eqG hr.units) (de_call0 (G_L_take.mono (by decide)) hr rfl (da_cons (de_var 0) (da_cons de_int da_nil))) de_int) (da_cons (de_lst da_nil) da_nil)) rfl sc_L_rules.nd) (ss_cons (st_forG PassesOwn.never rfl (de_tup (da_cons de_str (da_cons de_str (da_cons de_str da_nil)))) (dg_name 3 sc_L_rules.nd) (ss_one (st_set 2 (de_bin os_add (de_var 2) (de_lst (da_cons (de_tup (da_cons (de_var 3) (da_cons de_str (da_cons (de_var 1) da_nil)))) (da_cons (de_tup (da_cons (de_var 3) (da_cons de_str (da_cons (de_var 1) da_nil)))) da_nil)))) sc_L_rules.nd))) (ss_one (st_ret (de_var 2)))))
def b_L_last : MS := mSeq (mSet 3 (mC (.int 0))) (mSeq (mForG (mV 1) (gN 4) (mIfS (mB (mBin leD (mV 4) (mV 2))) (mSet 3 (mBin mulD (mBin divD (mV 4) (mV 0)) (mV 0))) (mSkip))) (mRet (mV 3)))
def f_L_last : Fn := runFn0 5 b_L_last
theorem sc_L_last : FnScope ["_law_grain", "_law_edits", "_law_moment", "_law_found", "_law_edit"] ["_law_grain", "_law_edits", "_law_moment"] (defScope (topS 39)) := ⟨rfl, rfl, rfl, by decide +kernel, rfl, by decide +kernel, by decide +kernel⟩
theorem d_L_last {f : Addr} {fd : FuncData} (T : Txt K mg t_MAX_MOMENT t_MAX_EVENTS) (F : Fun K "_law_last" "_law_last" (topS 39) f fd) (hm : mg "_law_last" = some (.ref f)) : FnD P w K mg base CX0 "_law_last" 1 3 f_L_last :=
  fn_ok F sc_L_last rfl hm (fun _ _ _ _ _ _ us hl => match us, hl with | [_, _, _], _ => rfl) fun cdv A outer s H E n hr =>
    (ss_cons (st_set 3 de_int sc_L_last.nd) (ss_cons (st_forG PassesOwn.never rfl (de_var 1) (dg_name 4 sc_L_last.nd) (ss_one (st_if (dt_cmp os_le (de_var 4) (de_var 2)) (ss_one (st_set 3 (de_bin os_mul (de_bin os_div (de_var 4) (de_var 0)) (de_var 0)) sc_L_last.nd)) ss_nil))) (ss_one (st_ret (de_var 3)))))
def b_L_is_due : MS := mSeq (mSet 5 (mIf (mB (mBin eqGB (mBin idxD (mV 0) (mC (.int 1))) (mC (.str "end")))) (mV 3) (mV 2))) (mSeq (mIfS (mB (mBin eqGB (mBin idxD (mV 0) (mC (.int 0))) (mC (.str "digest")))) (mRet (mBin gtD (mV 4) (mV 5))) (mSkip)) (mSeq (mPar 6 7 (mCons (mBin divD (mV 4) (mV 1)) (mCons (mBin divD (mV 5) (mV 1)) (mNil)))) (mRet (mIf (mB (mBin eqGB (mBin idxD (mV 0) (mC (.int 0))) (mC (.str "newer")))) (mBin gtD (mV 6) (mV 7)) (mBin geD (mV 6) (mV 7))))))
def f_L_is_due : Fn := runFn0 8 b_L_is_due
theorem sc_L_is_due : FnScope ["_law_rule", "_law_grain", "_law_begin", "_law_write", "_law_edit", "_law_marked", "_law_near", "_law_far"] ["_law_rule", "_law_grain", "_law_begin", "_law_write", "_law_edit"] (defScope (topS 34)) := ⟨rfl, rfl, rfl, by decide +kernel, rfl, by decide +kernel, by decide +kernel⟩
theorem d_L_is_due {f : Addr} {fd : FuncData} (T : Txt K mg t_MAX_MOMENT t_MAX_EVENTS) (F : Fun K "_law_is_due" "_law_is_due" (topS 34) f fd) (hm : mg "_law_is_due" = some (.ref f)) : FnD P w K mg base CX0 "_law_is_due" 1 5 f_L_is_due :=
  fn_ok F sc_L_is_due rfl hm (fun _ _ _ _ _ _ us hl => match us, hl with | [_, _, _, _, _], _ => rfl) fun cdv A outer s H E n hr =>
    (ss_cons (st_set 5 (de_if (dt_cmp (os_eqG hr.units) (de_idx (de_var 0) de_int) de_str) (de_var 3) (de_var 2)) sc_L_is_due.nd) (ss_cons (st_if (dt_cmp (os_eqG hr.units) (de_idx (de_var 0) de_int) de_str) (ss_one (st_ret (de_cmp os_gt (de_var 4) (de_var 5)))) ss_nil) (ss_cons (st_par 6 7 (da_cons (de_bin os_div (de_var 4) (de_var 1)) (da_cons (de_bin os_div (de_var 5) (de_var 1)) da_nil)) rfl sc_L_is_due.nd) (ss_one (st_ret (de_if (dt_cmp (os_eqG hr.units) (de_idx (de_var 0) de_int) de_str) (de_cmp os_gt (de_var 6) (de_var 7)) (de_cmp os_ge (de_var 6) (de_var 7))))))))
def b_L_rounds : MS := mSeq (mSetU 5 (mCons (mV 3) (mNil))) (mSeq (mWhile 1000 (mB (mBin neGB (mCall f_L_last (mCons (mV 1) (mCons (mV 2) (mCons (mBin addD (mV 3) (mBin idxD (mV 4) (mC (.int 0)))) (mNil))))) (mCall f_L_last (mCons (mV 1) (mCons (mV 2) (mCons (mBin addD (mV 3) (mBin idxD (mV 4) (mC (.int 2)))) (mNil))))))) (mSeq (mSet 3 (mBin addD (mV 3) (mBin idxD (mV 4) (mC (.int 2))))) (mApp 5 (mV 3)))) (mSeq (mIfS (mOrB (mB (mBin eqGB (mV 2) (mLst (mNil)))) (mB (mBin leD (mBin idxD (mV 2) (mUn negD (mC (.int 1)))) (mBin addD (mV 3) (mBin idxD (mV 4) (mC (.int 0))))))) (mSeq (mFrz 5) (mRet (mTup (mCons (mV 5) (mCons (mC (.str "right")) (mNil)))))) (mSkip)) (mSeq (mFrz 5) (mRet (mTup (mCons (mV 5) (mCons (mBin idxD (mLst (mCons (mC (.str "lost")) (mCons (mC (.str "due")) (mNil)))) (mBlt intD (mCons (mCall f_L_is_due (mCons (mV 0) (mCons (mV 1) (mCons (mV 3) (mCons (mBin addD (mV 3) (mBin idxD (mV 4) (mC (.int 1)))) (mCons (mBin idxD (mV 2) (mUn negD (mC (.int 1)))) (mNil))))))) (mNil)))) (mNil))))))))
def f_L_rounds : Fn := runFn0 6 b_L_rounds
theorem sc_L_rounds : FnScope ["_law_rule", "_law_grain", "_law_edits", "_law_begin", "_law_delays", "_law_begins"] ["_law_rule", "_law_grain", "_law_edits", "_law_begin", "_law_delays"] (defScope (topS 40)) := ⟨rfl, rfl, rfl, by decide +kernel, rfl, by decide +kernel, by decide +kernel⟩
theorem d_L_rounds {f : Addr} {fd : FuncData} (T : Txt K mg t_MAX_MOMENT t_MAX_EVENTS) (G_L_last : FnD P w K mg base CX0 "_law_last" 1 3 f_L_last) (G_L_is_due : FnD P w K mg base CX0 "_law_is_due" 1 5 f_L_is_due) (F : Fun K "_law_rounds" "_law_rounds" (topS 40) f fd) (hm : mg "_law_rounds" = some (.ref f)) : FnD P w K mg base CX0 "_law_rounds" 2 5 f_L_rounds :=
  fn_ok F sc_L_rounds rfl hm (fun _ _ _ _ _ _ us hl => match us, hl with | [_, _, _, _, _], _ => rfl) fun cdv A outer s H E n hr =>
    (ss_cons (st_setU 5 (da_cons (de_var 3) da_nil) sc_L_rounds.nd) (ss_cons (st_while 1000 PassesOwn.never (dt_cmp (os_neG hr.units) (de_call0 (G_L_last.mono (by decide)) hr rfl (da_cons (de_var 1) (da_cons (de_var 2) (da_cons (de_bin os_add (de_var 3) (de_idx (de_var 4) de_int)) da_nil)))) (de_call0 (G_L_last.mono (by decide)) hr rfl (da_cons (de_var 1) (da_cons (de_var 2) (da_cons (de_bin os_add (de_var 3) (de_idx (de_var 4) de_int)) da_nil))))) (ss_cons (st_set 3 (de_bin os_add (de_var 3) (de_idx (de_var 4) de_int)) sc_L_rounds.nd) (ss_one (st_app 5 (de_var 3))))) (ss_cons (st_if (DW.t (dw_or (dt_cmp (os_eqG hr.units) (de_var 2) (de_lst da_nil)) (dw_one_or (dt_cmp os_le (de_idx (de_var 2) (de_un us_neg de_int)) (de_bin os_add (de_var 3) (de_idx (de_var 4) de_int)))))) (ss_frz 5 (ss_one (st_ret (de_tup (da_cons (de_var 5) (da_cons de_str da_nil)))))) ss_nil) (ss_frz 5 (ss_one (st_ret (de_tup (da_cons (de_var 5) (da_cons (de_idx (de_lst (da_cons de_str (da_cons de_str da_nil))) (de_bty cs_int rfl T.b_int (by decide +kernel) (da_cons (de_call0 (G_L_is_due.mono (by decide)) hr rfl (da_cons (de_var 0) (da_cons (de_var 1) (da_cons (de_var 3) (da_cons (de_bin os_add (de_var 3) (de_idx (de_var 4) de_int)) (da_cons (de_idx (de_var 2) (de_un us_neg de_int)) da_nil)))))) da_nil))) da_nil)))))))))
def b_L_rounds_right : MS := mSeq (mPar 3 4 (mCons (mBin addD (mC (.int 1)) (mCall f_L_take (mCons (mV 0) (mCons (mC (.int 12)) (mNil))))) (mCons (mCall f_L_take (mCons (mV 0) (mCons (mC (.int 20)) (mNil)))) (mNil)))) (mSeq (mPar 5 6 (mCons (mRefL (mNil)) (mCons (mCall f_L_take (mCons (mV 0) (mCons (mC (.int 10)) (mNil)))) (mNil)))) (mSeq (mFor (mR1 (mCons (mV 1) (mNil))) (gN 7) (mSeq (mAppR (mV 5) (mV 6)) (mSet 6 (mBin addD (mBin addD (mV 6) (mC (.int 1))) (mCall f_L_take (mCons (mV 0) (mCons (mV 2) (mNil)))))))) (mSeq (mSet 8 (mCall f_L_take (mCons (mV 0) (mCons (mC (.int 5)) (mNil))))) (mSeq (mSet 9 (mBlt maxD (mCons (mC (.int 1)) (mCons (mBin addD (mV 8) (mCall f_L_take (mCons (mV 0) (mCons (mC (.int 6)) (mNil))))) (mNil))))) (mSeq (mSet 10 (mLst (mCons (mV 8) (mCons (mV 9) (mCons (mBin addD (mV 9) (mCall f_L_take (mCons (mV 0) (mCons (mC (.int 8)) (mNil))))) (mNil)))))) (mSeq (mForG (mCall f_L_rules (mCons (mV 0) (mNil))) (gN 11) (mSeq (mSet 12 (mCall f_L_rounds (mCons (mV 11) (mCons (mV 3) (mCons (mV 5) (mCons (mV 4) (mCons (mV 10) (mNil)))))))) (mSeq (mSet 13 (mCall f_guard_rounds (mCons (mV 11) (mCons (mV 3) (mCons (mBlt tupleD (mCons (mV 5) (mNil))) (mCons (mV 4) (mCons (mBin idxD (mV 10) (mC (.int 0))) (mCons (mBin idxD (mV 10) (mC (.int 1))) (mCons (mBin idxD (mV 10) (mC (.int 2))) (mNil)))))))))) (mSeq (mIfS (mB (mBin neGB (mV 13) (mV 12))) (mRet (mC (.bl false))) (mSkip)) (mSeq (mAppR (mBin idxD (mV 13) (mC (.int 0))) (mC .non)) (mIfS (mB (mBin neGB (mCall f_guard_rounds (mCons (mV 11) (mCons (mV 3) (mCons (mV 5) (mCons (mV 4) (mCons (mBin idxD (mV 10) (mC (.int 0))) (mCons (mBin idxD (mV 10) (mC (.int 1))) (mCons (mBin idxD (mV 10) (mC (.int 2))) (mNil))))))))) (mV 12))) (mRet (mC (.bl false))) (mSkip))))))) (mRet (mC (.bl true)))))))))
def f_L_rounds_right : Fn := runFn0 14 b_L_rounds_right
theorem sc_L_rounds_right : FnScope ["_law_source_here", "_law_most", "_law_wide", "_law_grain", "_law_begin", "_law_edits", "_law_moment", "_law_k", "_law_reading", "_law_writing", "_law_delays", "_law_rule", "_law_due", "_law_told"] ["_law_source_here", "_law_most", "_law_wide"] (defScope (topS 41)) := ⟨rfl, rfl, rfl, by decide +kernel, rfl, by decide +kernel, by decide +kernel⟩
theorem d_L_rounds_right {f : Addr} {fd : FuncData} (T : Txt K mg t_MAX_MOMENT t_MAX_EVENTS) (G_L_take : FnD P w K mg base CX0 "_law_take" 1 2 f_L_take) (G_L_rules : FnD P w K mg base CX0 "_law_rules" 2 1 f_L_rules) (G_L_rounds : FnD P w K mg base CX0 "_law_rounds" 2 5 f_L_rounds) (G_guard_rounds : FnD P w K mg base CX0 "guard_rounds" 5 7 f_guard_rounds) (F : Fun K "_law_rounds_right" "_law_rounds_right" (topS 41) f fd) (hm : mg "_law_rounds_right" = some (.ref f)) : FnD P w K mg base CX0 "_law_rounds_right" 6 3 f_L_rounds_right :=
  fn_ok F sc_L_rounds_right rfl hm (fun _ _ _ _ _ _ us hl => match us, hl with | [_, _, _], _ => rfl) fun cdv A outer s H E n hr =>
    (ss_cons (st_par 3 4 (da_cons (de_bin os_add de_int (de_call0 (G_L_take.mono (by decide)) hr rfl (da_cons (de_var 0) (da_cons de_int da_nil)))) (da_cons (de_call0 (G_L_take.mono (by decide)) hr rfl (da_cons (de_var 0) (da_cons de_int da_nil))) da_nil)) rfl sc_L_rounds_right.nd) (ss_cons (st_par 5 6 (da_cons (de_ref da_nil) (da_cons (de_call0 (G_L_take.mono (by decide)) hr rfl (da_cons (de_var 0) (da_cons de_int da_nil))) da_nil)) rfl sc_L_rounds_right.nd) (ss_cons (st_for PassesOwn.never rfl (di_range1 rfl T.b_range (da_cons (de_var 1) da_nil)) (dg_name 7 sc_L_rounds_right.nd) (ss_cons (st_appR (de_var 5) (de_var 6)) (ss_one (st_set 6 (de_bin os_add (de_bin os_add (de_var 6) de_int) (de_call0 (G_L_take.mono (by decide)) hr rfl (da_cons (de_var 0) (da_cons (de_var 2) da_nil)))) sc_L_rounds_right.nd)))) (ss_cons (st_set 8 (de_call0 (G_L_take.mono (by decide)) hr rfl (da_cons (de_var 0) (da_cons de_int da_nil))) sc_L_rounds_right.nd) (ss_cons (st_set 9 (de_blt (cs_max rfl) rfl T.b_max (by decide +kernel) (da_cons de_int (da_cons (de_bin os_add (de_var 8) (de_call0 (G_L_take.mono (by decide)) hr rfl (da_cons (de_var 0) (da_cons de_int da_nil)))) da_nil))) sc_L_rounds_right.nd) (ss_cons (st_set 10 (de_lst (da_cons (de_var 8) (da_cons (de_var 9) (da_cons (de_bin os_add (de_var 9) (de_call0 (G_L_take.mono (by decide)) hr rfl (da_cons (de_var 0) (da_cons de_int da_nil)))) da_nil)))) sc_L_rounds_right.nd) (ss_cons (st_forG PassesOwn.never rfl (de_call0 (G_L_rules.mono (by decide)) hr rfl (da_cons (de_var 0) da_nil)) (dg_name 11 sc_L_rounds_right.nd) (ss_cons (st_set 12 (de_call0 (G_L_rounds.mono (by decide)) hr rfl (da_cons (de_var 11) (da_cons (de_var 3) (da_cons (de_var 5) (da_cons (de_var 4) (da_cons (de_var 10) da_nil)))))) sc_L_rounds_right.nd) (ss_cons (st_set 13 (de_call0 (G_guard_rounds.mono (by decide)) hr rfl (da_cons (de_var 11) (da_cons (de_var 3) (da_cons (de_bty cs_tuple rfl T.b_tuple (by decide +kernel) (da_cons (de_var 5) da_nil)) (da_cons (de_var 4) (da_cons (de_idx (de_var 10) de_int) (da_cons (de_idx (de_var 10) de_int) (da_cons (de_idx (de_var 10) de_int) da_nil)))))))) sc_L_rounds_right.nd) (ss_cons (st_if (dt_cmp (os_neG hr.units) (de_var 13) (de_var 12)) (ss_one (st_ret de_bl)) ss_nil) (ss_cons (st_appR (de_idx (de_var 13) de_int) de_non) (ss_one (st_if (dt_cmp (os_neG hr.units) (de_call0 (G_guard_rounds.mono (by decide)) hr rfl (da_cons (de_var 11) (da_cons (de_var 3) (da_cons (de_var 5) (da_cons (de_var 4) (da_cons (de_idx (de_var 10) de_int) (da_cons (de_idx (de_var 10) de_int) (da_cons (de_idx (de_var 10) de_int) da_nil)))))))) (de_var 12)) (ss_one (st_ret de_bl)) ss_nil))))))) (ss_one (st_ret de_bl)))))))))
def b_L_pick : MS := mRet (mBin idxD (mV 1) (mCall f_L_take (mCons (mV 0) (mCons (mBlt lenD (mCons (mV 1) (mNil))) (mNil)))))
def f_L_pick : Fn := runFn0 2 b_L_pick
theorem sc_L_pick : FnScope ["_law_source_here", "_law_items"] ["_law_source_here", "_law_items"] (defScope (topS 33)) := ⟨rfl, rfl, rfl, by decide +kernel, rfl, by decide +kernel, by decide +kernel⟩
theorem d_L_pick {f : Addr} {fd : FuncData} (T : Txt K mg t_MAX_MOMENT t_MAX_EVENTS) (G_L_take : FnD P w K mg base CX0 "_law_take" 1 2 f_L_take) (F : Fun K "_law_pick" "_law_pick" (topS 33) f fd) (hm : mg "_law_pick" = some (.ref f)) : FnD P w K mg base CX0 "_law_pick" 2 2 f_L_pick :=
  fn_ok F sc_L_pick rfl hm (fun _ _ _ _ _ _ us hl => match us, hl with | [_, _], _ => rfl) fun cdv A outer s H E n hr =>
    (ss_one (st_ret (de_idx (de_var 1) (de_call0 (G_L_take.mono (by decide)) hr rfl (da_cons (de_var 0) (da_cons (de_blt cs_len rfl T.b_len (by decide +kernel) (da_cons (de_var 1) da_nil)) da_nil))))))
def b_require_rising : MS := mSeq (mSet 2 (mC (.int 0))) (mForD (mZipD true (mCons (mV 0) (mCons (mV 1) (mNil)))) (gT (gsCons (gN 3) (gsCons (gN 4) (gsNil)))) (mSeq (mIfS (mOrB (mNotB (mTru (mCall f_is_moment (mCons (mV 4) (mNil))))) (mB (mBin ltD (mV 4) (mV 2)))) (mNever) (mSkip)) (mSet 2 (mV 4))))
def f_require_rising : Fn := runFn0 5 b_require_rising
theorem sc_require_rising : FnScope ["names", "moments", "low", "name", "moment"] ["names", "moments"] (defScope (topS 17)) := ⟨rfl, rfl, rfl, by decide +kernel, rfl, by decide +kernel, by decide +kernel⟩
theorem d_require_rising {f : Addr} {fd : FuncData} (T : Txt K mg t_MAX_MOMENT t_MAX_EVENTS) (G_is_moment : FnD P w K mg base CX0 "is_moment" 3 1 f_is_moment) (F : Fun K "require_rising" "require_rising" (topS 17) f fd) (hm : mg "require_rising" = some (.ref f)) : FnD P w K mg base CX0 "require_rising" 4 2 f_require_rising :=
  fn_ok F sc_require_rising rfl hm (fun _ _ _ _ _ _ us hl => match us, hl with | [_, _], _ => rfl) fun cdv A outer s H E n hr =>
    (ss_cons (st_set 2 de_int sc_require_rising.nd) (ss_one (st_forD PassesOwn.never rfl (di_zipD1 rfl T.b_zip (da_cons (de_var 0) (da_cons (de_var 1) da_nil))) (dg_tup rfl (dgs_cons (dg_name 3 sc_require_rising.nd) (dgs_cons (dg_name 4 sc_require_rising.nd) dgs_nil))) (ss_cons (st_if (DW.t (dw_or (dt_not (dt_tru (de_call0 (G_is_moment.mono (by decide)) hr rfl (da_cons (de_var 4) da_nil)))) (dw_one_or (dt_cmp os_lt (de_var 4) (de_var 2))))) (ss_one st_never) ss_nil) (ss_one (st_set 2 (de_var 4) sc_require_rising.nd))))))
def b_joined : MS := mSeq (mSet 1 (mRefL (mNil))) (mSeq (mForG (mV 0) (gT (gsCons (gN 2) (gsCons (gN 3) (gsNil)))) (mIfS (mAndB (mB (mBin neGB (mV 1) (mLst (mNil)))) (mB (mBin leD (mV 2) (mBin addD (mBin idxD (mBin idxD (mV 1) (mUn negD (mC (.int 1)))) (mC (.int 1))) (mC (.int 1)))))) (mStI (mV 1) (mUn negD (mC (.int 1))) (mTup (mCons (mBin idxD (mBin idxD (mV 1) (mUn negD (mC (.int 1)))) (mC (.int 0))) (mCons (mBlt maxD (mCons (mV 3) (mCons (mBin idxD (mBin idxD (mV 1) (mUn negD (mC (.int 1)))) (mC (.int 1))) (mNil)))) (mNil))))) (mAppR (mV 1) (mTup (mCons (mV 2) (mCons (mV 3) (mNil))))))) (mRet (mV 1)))
def f_joined : Fn := runFn0 4 b_joined
theorem sc_joined : FnScope ["parts", "found", "first", "last"] ["parts"] (defScope (topS 14)) := ⟨rfl, rfl, rfl, by decide +kernel, rfl, by decide +kernel, by decide +kernel⟩
theorem d_joined {f : Addr} {fd : FuncData} (T : Txt K mg t_MAX_MOMENT t_MAX_EVENTS) (F : Fun K "joined" "joined" (topS 14) f fd) (hm : mg "joined" = some (.ref f)) : FnD P w K mg base CX0 "joined" 1 1 f_joined :=
  fn_ok F sc_joined rfl hm (fun _ _ _ _ _ _ us hl => match us, hl with | [_], _ => rfl) fun cdv A outer s H E n hr =>
    (ss_cons (st_set 1 (de_ref da_nil) sc_joined.nd) (ss_cons (st_forG PassesOwn.never rfl (de_var 0) (dg_tup rfl (dgs_cons (dg_name 2 sc_joined.nd) (dgs_cons (dg_name 3 sc_joined.nd) dgs_nil))) (ss_one (st_if (DW.t (dw_and (dt_cmp (os_neG hr.units) (de_var 1) (de_lst da_nil)) (dw_one_and (dt_cmp os_le (de_var 2) (de_bin os_add (de_idx (de_idx (de_var 1) (de_un us_neg de_int)) de_int) de_int))))) (ss_one (st_sti (de_var 1) (de_un us_neg de_int) (de_tup (da_cons (de_idx (de_idx (de_var 1) (de_un us_neg de_int)) de_int) (da_cons (de_blt (cs_max rfl) rfl T.b_max (by decide +kernel) (da_cons (de_var 3) (da_cons (de_idx (de_idx (de_var 1) (de_un us_neg de_int)) de_int) da_nil))) da_nil))))) (ss_one (st_appR (de_var 1) (de_tup (da_cons (de_var 2) (da_cons (de_var 3) da_nil)))))))) (ss_one (st_ret (de_var 1)))))
def b_stretch : MS := mRet (mIf (mB (mBin leD (mV 0) (mV 1))) (mTup (mCons (mV 0) (mCons (mV 1) (mNil)))) (mC .non))
def f_stretch : Fn := runFn0 2 b_stretch
theorem sc_stretch : FnScope ["first", "last"] ["first", "last"] (defScope (topS 21)) := ⟨rfl, rfl, rfl, by decide +kernel, rfl, by decide +kernel, by decide +kernel⟩
theorem d_stretch {f : Addr} {fd : FuncData} (T : Txt K mg t_MAX_MOMENT t_MAX_EVENTS) (F : Fun K "stretch" "stretch" (topS 21) f fd) (hm : mg "stretch" = some (.ref f)) : FnD P w K mg base CX0 "stretch" 1 2 f_stretch :=
  fn_ok F sc_stretch rfl hm (fun _ _ _ _ _ _ us hl => match us, hl with | [_, _], _ => rfl) fun cdv A outer s H E n hr =>
    (ss_one (st_ret (de_if (dt_cmp os_le (de_var 0) (de_var 1)) (de_tup (da_cons (de_var 0) (da_cons (de_var 1) da_nil))) de_non)))
def b_guarded : MS := mSeq (mDrop (mCall f_require_rule (mCons (mV 0) (mNil)))) (mSeq (mDrop (mCall f_require_grain (mCons (mV 1) (mNil)))) (mSeq (mDrop (mCall f_require_rising (mCons (mTup (mCons (mC (.str "seen")) (mCons (mC (.str "read")) (mCons (mC (.str "write")) (mCons (mC (.str "look")) (mNil)))))) (mCons (mTup (mCons (mV 2) (mCons (mV 3) (mCons (mV 4) (mCons (mV 5) (mNil)))))) (mNil))))) (mSeq (mSet 6 (mCall f_last_lost (mCons (mV 0) (mCons (mV 1) (mCons (mV 3) (mCons (mV 3) (mCons (mV 4) (mNil)))))))) (mSeq (mSet 7 (mLst (mCons (mCall f_stretch (mCons (mBin addD (mV 3) (mC (.int 1))) (mCons (mBlt min3D (mCons (mV 6) (mCons (mV 5) (mCons (mCall f_last_of_tick (mCons (mV 1) (mCons (mV 2) (mNil)))) (mNil))))) (mNil)))) (mCons (mCall f_stretch (mCons (mBin addD (mV 5) (mC (.int 1))) (mCons (mV 6) (mNil)))) (mNil))))) (mRet (mCall f_joined (mCons (mLcG (mV 7) [8] (gN 8) (mB (mBin isnotB (mV 8) (mC .non))) (mV 8)) (mNil))))))))
def f_guarded : Fn := runFn0 9 b_guarded
theorem sc_guarded : FnScope ["rule", "grain", "seen", "read", "write", "look", "last", "parts", "part"] ["rule", "grain", "seen", "read", "write", "look"] (defScope (topS 24)) := ⟨rfl, rfl, rfl, by decide +kernel, rfl, by decide +kernel, by decide +kernel⟩
theorem d_guarded {f : Addr} {fd : FuncData} (T : Txt K mg t_MAX_MOMENT t_MAX_EVENTS) (G_require_rule : FnD P w K mg base CX0 "require_rule" 1 1 f_require_rule) (G_require_grain : FnD P w K mg base CX0 "require_grain" 3 1 f_require_grain) (G_require_rising : FnD P w K mg base CX0 "require_rising" 4 2 f_require_rising) (G_last_lost : FnD P w K mg base CX0 "last_lost" 2 5 f_last_lost) (G_joined : FnD P w K mg base CX0 "joined" 1 1 f_joined) (G_stretch : FnD P w K mg base CX0 "stretch" 1 2 f_stretch) (G_last_of_tick : FnD P w K mg base CX0 "last_of_tick" 1 2 f_last_of_tick) (F : Fun K "guarded" "guarded" (topS 24) f fd) (hm : mg "guarded" = some (.ref f)) : FnD P w K mg base CX0 "guarded" 5 6 f_guarded :=
  fn_ok F sc_guarded rfl hm (fun _ _ _ _ _ _ us hl => match us, hl with | [_, _, _, _, _, _], _ => rfl) fun cdv A outer s H E n hr =>
    (ss_cons (st_drop (de_call0 (G_require_rule.mono (by decide)) hr rfl (da_cons (de_var 0) da_nil))) (ss_cons (st_drop (de_call0 (G_require_grain.mono (by decide)) hr rfl (da_cons (de_var 1) da_nil))) (ss_cons (st_drop (de_call0 (G_require_rising.mono (by decide)) hr rfl (da_cons (de_tup (da_cons de_str (da_cons de_str (da_cons de_str (da_cons de_str da_nil))))) (da_cons (de_tup (da_cons (de_var 2) (da_cons (de_var 3) (da_cons (de_var 4) (da_cons (de_var 5) da_nil))))) da_nil)))) (ss_cons (st_set 6 (de_call0 (G_last_lost.mono (by decide)) hr rfl (da_cons (de_var 0) (da_cons (de_var 1) (da_cons (de_var 3) (da_cons (de_var 3) (da_cons (de_var 4) da_nil)))))) sc_guarded.nd) (ss_cons (st_set 7 (de_lst (da_cons (de_call0 (G_stretch.mono (by decide)) hr rfl (da_cons (de_bin os_add (de_var 3) de_int) (da_cons (de_blt (cs_min3 rfl) rfl T.b_min (by decide +kernel) (da_cons (de_var 6) (da_cons (de_var 5) (da_cons (de_call0 (G_last_of_tick.mono (by decide)) hr rfl (da_cons (de_var 1) (da_cons (de_var 2) da_nil))) da_nil)))) da_nil))) (da_cons (de_call0 (G_stretch.mono (by decide)) hr rfl (da_cons (de_bin os_add (de_var 5) de_int) (da_cons (de_var 6) da_nil))) da_nil))) sc_guarded.nd) (ss_one (st_ret (de_call0 (G_joined.mono (by decide)) hr rfl (da_cons (de_lcG (own := [("part", 8)]) rfl sc_guarded.nd (de_var 7) (blkOk_by (N := ["rule", "grain", "seen", "read", "write", "look", "last", "parts", "part"]) (sc := (defScope (topS 24))) (by decide +kernel)) (fun _ _ _ _ _ => (dg_name 8 sc_guarded.nd)) (fun _ _ _ _ _ => (dts_one (dt_cmp os_isnot (de_var 8) de_non))) (fun _ _ _ _ _ => (de_var 8))) da_nil)))))))))
def b_L_listed : MS := mSeq (mSet 2 (mRefL (mNil))) (mSeq (mForG (mV 0) (gT (gsCons (gN 3) (gsCons (gN 4) (gsNil)))) (mSeq (mIfS (mOrB (mB (mBin gtD (mV 3) (mV 4))) (mAndB (mB (mBin neGB (mV 2) (mLst (mNil)))) (mB (mBin leD (mV 3) (mBin addD (mBin addD (mBin idxD (mV 2) (mUn negD (mC (.int 1)))) (mV 1)) (mC (.int 1))))))) (mRet (mC .non)) (mSkip)) (mExtR (mV 2) (mLcN (mR2 (mCons (mV 3) (mCons (mBin addD (mV 4) (mC (.int 1))) (mNil)))) [5] (gN 5) (mYes) (mBin subD (mV 5) (mV 1)))))) (mRet (mV 2)))
def f_L_listed : Fn := runFn0 6 b_L_listed
theorem sc_L_listed : FnScope ["_law_parts", "_law_by", "_law_found", "_law_first", "_law_last_here", "_law_moment"] ["_law_parts", "_law_by"] (defScope (topS 37)) := ⟨rfl, rfl, rfl, by decide +kernel, rfl, by decide +kernel, by decide +kernel⟩
theorem d_L_listed {f : Addr} {fd : FuncData} (T : Txt K mg t_MAX_MOMENT t_MAX_EVENTS) (F : Fun K "_law_listed" "_law_listed" (topS 37) f fd) (hm : mg "_law_listed" = some (.ref f)) : FnD P w K mg base CX0 "_law_listed" 1 2 f_L_listed :=
  fn_ok F sc_L_listed rfl hm (fun _ _ _ _ _ _ us hl => match us, hl with | [_, _], _ => rfl) fun cdv A outer s H E n hr =>
    (ss_cons (st_set 2 (de_ref da_nil) sc_L_listed.nd) (ss_cons (st_forG PassesOwn.never rfl (de_var 0) (dg_tup rfl (dgs_cons (dg_name 3 sc_L_listed.nd) (dgs_cons (dg_name 4 sc_L_listed.nd) dgs_nil))) (ss_cons (st_if (DW.t (dw_or (dt_cmp os_gt (de_var 3) (de_var 4)) (dw_one_or (DW.t (dw_and (dt_cmp (os_neG hr.units) (de_var 2) (de_lst da_nil)) (dw_one_and (dt_cmp os_le (de_var 3) (de_bin os_add (de_bin os_add (de_idx (de_var 2) (de_un us_neg de_int)) (de_var 1)) de_int)))))))) (ss_one (st_ret de_non)) ss_nil) (ss_one (st_extR (de_var 2) (de_lcN (own := [("_law_moment", 5)]) rfl sc_L_listed.nd (di_range2 rfl T.b_range (da_cons (de_var 3) (da_cons (de_bin os_add (de_var 4) de_int) da_nil))) (blkOk_by (N := ["_law_parts", "_law_by", "_law_found", "_law_first", "_law_last_here", "_law_moment"]) (sc := (defScope (topS 37))) (by decide +kernel)) (fun _ _ _ _ _ => (dg_name 5 sc_L_listed.nd)) (fun _ _ _ _ _ => dts_nil) (fun _ _ _ _ _ => (de_bin os_sub (de_var 5) (de_var 1)))))))) (ss_one (st_ret (de_var 2)))))
def b_L_slips : MS := mSeq (mSetU 7 (mNil)) (mSeq (mFor (mR2 (mCons (mBin addD (mV 3) (mC (.int 1))) (mCons (mV 6) (mNil)))) (gN 8) (mSeq (mSet 9 (mAnd (mBin leD (mV 8) (mV 5)) (mBin neGB (mBin divD (mV 8) (mV 1)) (mBin divD (mV 2) (mV 1))))) (mIfS (mAndB (mNotB (mTru (mV 9))) (mNotB (mTru (mCall f_L_is_due (mCons (mV 0) (mCons (mV 1) (mCons (mV 3) (mCons (mV 4) (mCons (mV 8) (mNil)))))))))) (mApp 7 (mV 8)) (mSkip)))) (mSeq (mFrz 7) (mRet (mV 7))))
def f_L_slips : Fn := runFn0 10 b_L_slips
theorem sc_L_slips : FnScope ["_law_rule", "_law_grain", "_law_seen", "_law_read", "_law_write", "_law_look", "_law_top", "_law_found", "_law_edit", "_law_is_seen"] ["_law_rule", "_law_grain", "_law_seen", "_law_read", "_law_write", "_law_look", "_law_top"] (defScope (topS 36)) := ⟨rfl, rfl, rfl, by decide +kernel, rfl, by decide +kernel, by decide +kernel⟩
theorem d_L_slips {f : Addr} {fd : FuncData} (T : Txt K mg t_MAX_MOMENT t_MAX_EVENTS) (G_L_is_due : FnD P w K mg base CX0 "_law_is_due" 1 5 f_L_is_due) (F : Fun K "_law_slips" "_law_slips" (topS 36) f fd) (hm : mg "_law_slips" = some (.ref f)) : FnD P w K mg base CX0 "_law_slips" 2 7 f_L_slips :=
  fn_ok F sc_L_slips rfl hm (fun _ _ _ _ _ _ us hl => match us, hl with | [_, _, _, _, _, _, _], _ => rfl) fun cdv A outer s H E n hr =>
    (ss_cons (st_setU 7 da_nil sc_L_slips.nd) (ss_cons (st_for PassesOwn.never rfl (di_range2 rfl T.b_range (da_cons (de_bin os_add (de_var 3) de_int) (da_cons (de_var 6) da_nil))) (dg_name 8 sc_L_slips.nd) (ss_cons (st_set 9 (de_and (de_cmp os_le (de_var 8) (de_var 5)) (de_one (de_cmp (os_neG hr.units) (de_bin os_div (de_var 8) (de_var 1)) (de_bin os_div (de_var 2) (de_var 1))))) sc_L_slips.nd) (ss_one (st_if (DW.t (dw_and (dt_not (dt_tru (de_var 9))) (dw_one_and (dt_not (dt_tru (de_call0 (G_L_is_due.mono (by decide)) hr rfl (da_cons (de_var 0) (da_cons (de_var 1) (da_cons (de_var 3) (da_cons (de_var 4) (da_cons (de_var 8) da_nil))))))))))) (ss_one (st_app 7 (de_var 8))) ss_nil)))) (ss_frz 7 (ss_one (st_ret (de_var 7))))))
def b_lost_stretch : MS := mRet (mCall f_stretch (mCons (mBin addD (mV 3) (mC (.int 1))) (mCons (mCall f_last_lost (mCons (mV 0) (mCons (mV 1) (mCons (mV 2) (mCons (mV 3) (mCons (mV 4) (mNil))))))) (mNil))))
def f_lost_stretch : Fn := runFn0 5 b_lost_stretch
theorem sc_lost_stretch : FnScope ["rule", "grain", "begin", "read", "write"] ["rule", "grain", "begin", "read", "write"] (defScope (topS 23)) := ⟨rfl, rfl, rfl, by decide +kernel, rfl, by decide +kernel, by decide +kernel⟩
theorem d_lost_stretch {f : Addr} {fd : FuncData} (T : Txt K mg t_MAX_MOMENT t_MAX_EVENTS) (G_stretch : FnD P w K mg base CX0 "stretch" 1 2 f_stretch) (G_last_lost : FnD P w K mg base CX0 "last_lost" 2 5 f_last_lost) (F : Fun K "lost_stretch" "lost_stretch" (topS 23) f fd) (hm : mg "lost_stretch" = some (.ref f)) : FnD P w K mg base CX0 "lost_stretch" 3 5 f_lost_stretch :=
  fn_ok F sc_lost_stretch rfl hm (fun _ _ _ _ _ _ us hl => match us, hl with | [_, _, _, _, _], _ => rfl) fun cdv A outer s H E n hr =>
    (ss_one (st_ret (de_call0 (G_stretch.mono (by decide)) hr rfl (da_cons (de_bin os_add (de_var 3) de_int) (da_cons (de_call0 (G_last_lost.mono (by decide)) hr rfl (da_cons (de_var 0) (da_cons (de_var 1) (da_cons (de_var 2) (da_cons (de_var 3) (da_cons (de_var 4) da_nil)))))) da_nil)))))
def b_safe_look : MS := mSeq (mDrop (mCall f_require_rule (mCons (mV 0) (mNil)))) (mSeq (mDrop (mCall f_require_grain (mCons (mV 1) (mNil)))) (mSeq (mDrop (mCall f_require_rising (mCons (mTup (mCons (mC (.str "seen")) (mCons (mC (.str "read")) (mCons (mC (.str "write")) (mNil))))) (mCons (mTup (mCons (mV 2) (mCons (mV 3) (mCons (mV 4) (mNil))))) (mNil))))) (mSeq (mSet 5 (mCall f_lost_stretch (mCons (mV 0) (mCons (mV 1) (mCons (mV 3) (mCons (mV 3) (mCons (mV 4) (mNil)))))))) (mSeq (mIfS (mB (mBin isB (mV 5) (mC .non))) (mRet (mV 4)) (mSkip)) (mRet (mIf (mB (mBin gtD (mCall f_last_of_tick (mCons (mV 1) (mCons (mV 2) (mNil)))) (mV 3))) (mC .non) (mBlt maxD (mCons (mV 4) (mCons (mBin idxD (mV 5) (mC (.int 1))) (mNil))))))))))
def f_safe_look : Fn := runFn0 6 b_safe_look
theorem sc_safe_look : FnScope ["rule", "grain", "seen", "read", "write", "part"] ["rule", "grain", "seen", "read", "write"] (defScope (topS 25)) := ⟨rfl, rfl, rfl, by decide +kernel, rfl, by decide +kernel, by decide +kernel⟩
theorem d_safe_look {f : Addr} {fd : FuncData} (T : Txt K mg t_MAX_MOMENT t_MAX_EVENTS) (G_require_rule : FnD P w K mg base CX0 "require_rule" 1 1 f_require_rule) (G_require_grain : FnD P w K mg base CX0 "require_grain" 3 1 f_require_grain) (G_require_rising : FnD P w K mg base CX0 "require_rising" 4 2 f_require_rising) (G_lost_stretch : FnD P w K mg base CX0 "lost_stretch" 3 5 f_lost_stretch) (G_last_of_tick : FnD P w K mg base CX0 "last_of_tick" 1 2 f_last_of_tick) (F : Fun K "safe_look" "safe_look" (topS 25) f fd) (hm : mg "safe_look" = some (.ref f)) : FnD P w K mg base CX0 "safe_look" 5 5 f_safe_look :=
  fn_ok F sc_safe_look rfl hm (fun _ _ _ _ _ _ us hl => match us, hl with | [_, _, _, _, _], _ => rfl) fun cdv A outer s H E n hr =>
    (ss_cons (st_drop (de_call0 (G_require_rule.mono (by decide)) hr rfl (da_cons (de_var 0) da_nil))) (ss_cons (st_drop (de_call0 (G_require_grain.mono (by decide)) hr rfl (da_cons (de_var 1) da_nil))) (ss_cons (st_drop (de_call0 (G_require_rising.mono (by decide)) hr rfl (da_cons (de_tup (da_cons de_str (da_cons de_str (da_cons de_str da_nil)))) (da_cons (de_tup (da_cons (de_var 2) (da_cons (de_var 3) (da_cons (de_var 4) da_nil)))) da_nil)))) (ss_cons (st_set 5 (de_call0 (G_lost_stretch.mono (by decide)) hr rfl (da_cons (de_var 0) (da_cons (de_var 1) (da_cons (de_var 3) (da_cons (de_var 3) (da_cons (de_var 4) da_nil)))))) sc_safe_look.nd) (ss_cons (st_if (dt_cmp os_is (de_var 5) de_non) (ss_one (st_ret (de_var 4))) ss_nil) (ss_one (st_ret (de_if (dt_cmp os_gt (de_call0 (G_last_of_tick.mono (by decide)) hr rfl (da_cons (de_var 1) (da_cons (de_var 2) da_nil))) (de_var 3)) de_non (de_blt (cs_max rfl) rfl T.b_max (by decide +kernel) (da_cons (de_var 4) (da_cons (de_idx (de_var 5) de_int) da_nil)))))))))))
def b_L_guard_right : MS := mSeq (mAsg (gT (gsCons (gN 1) (gsCons (gN 2) (gsNil)))) (mTup (mCons (mBin addD (mC (.int 1)) (mCall f_L_take (mCons (mV 0) (mCons (mC (.int 12)) (mNil))))) (mCons (mCall f_L_take (mCons (mV 0) (mCons (mC (.int 20)) (mNil)))) (mNil))))) (mSeq (mSet 3 (mBin addD (mV 2) (mCall f_L_pick (mCons (mV 0) (mCons (mLst (mCons (mC (.int 0)) (mCons (mCall f_L_take (mCons (mV 0) (mCons (mC (.int 12)) (mNil)))) (mCons (mCall f_L_take (mCons (mV 0) (mCons (mC (.int 30)) (mNil)))) (mNil))))) (mNil)))))) (mSeq (mSet 4 (mBin addD (mV 3) (mCall f_L_pick (mCons (mV 0) (mCons (mLst (mCons (mC (.int 0)) (mCons (mCall f_L_take (mCons (mV 0) (mCons (mC (.int 15)) (mNil)))) (mNil)))) (mNil)))))) (mSeq (mSet 5 (mBin addD (mV 4) (mCall f_L_pick (mCons (mV 0) (mCons (mLst (mCons (mC (.int 0)) (mCons (mCall f_L_take (mCons (mV 0) (mCons (mC (.int 20)) (mNil)))) (mNil)))) (mNil)))))) (mSeq (mSet 6 (mBin mulD (mCall f_L_pick (mCons (mV 0) (mCons (mLst (mCons (mC (.int 0)) (mCons (mBin powD (mC (.int 10)) (mC (.int 9))) (mCons (mBin powD (mC (.int 10)) (mC (.int 16))) (mNil))))) (mNil)))) (mV 1))) (mSeq (mSet 7 (mBin addD (mBin addD (mV 5) (mBin mulD (mC (.int 2)) (mV 1))) (mC (.int 2)))) (mSeq (mForG (mCall f_L_rules (mCons (mV 0) (mNil))) (gN 8) (mSeq (mSet 9 (mCall f_guarded (mCons (mV 8) (mCons (mV 1) (mCons (mBin addD (mV 2) (mV 6)) (mCons (mBin addD (mV 3) (mV 6)) (mCons (mBin addD (mV 4) (mV 6)) (mCons (mBin addD (mV 5) (mV 6)) (mNil))))))))) (mSeq (mIfS (mB (mBin neGB (mCall f_L_listed (mCons (mV 9) (mCons (mV 6) (mNil)))) (mCall f_L_slips (mCons (mV 8) (mCons (mV 1) (mCons (mV 2) (mCons (mV 3) (mCons (mV 4) (mCons (mV 5) (mCons (mV 7) (mNil))))))))))) (mRet (mC (.bl false))) (mSkip)) (mSeq (mAppR (mV 9) (mC .non)) (mSeq (mSet 10 (mBin addD (mV 4) (mBin mulD (mC (.int 2)) (mV 1)))) (mSeq (mSet 11 (mLc (mR2 (mCons (mV 4) (mCons (mV 10) (mNil)))) [12] (gN 12) (mB (mBin neGB (mCall f_L_slips (mCons (mV 8) (mCons (mV 1) (mCons (mV 2) (mCons (mV 3) (mCons (mV 4) (mCons (mV 12) (mCons (mBin addD (mV 10) (mC (.int 1))) (mNil))))))))) (mLst (mNil)))) (mV 12))) (mSeq (mSet 13 (mBin addD (mV 4) (mV 6))) (mSeq (mIfS (mB (mBin neGB (mV 11) (mLst (mNil)))) (mSet 13 (mIf (mB (mBin eqGB (mBin idxD (mV 11) (mUn negD (mC (.int 1)))) (mBin subD (mV 10) (mC (.int 1))))) (mC .non) (mBin addD (mBin addD (mBin idxD (mV 11) (mUn negD (mC (.int 1)))) (mC (.int 1))) (mV 6)))) (mSkip)) (mIfS (mB (mBin neGB (mCall f_safe_look (mCons (mV 8) (mCons (mV 1) (mCons (mBin addD (mV 2) (mV 6)) (mCons (mBin addD (mV 3) (mV 6)) (mCons (mBin addD (mV 4) (mV 6)) (mNil))))))) (mV 13))) (mRet (mC (.bl false))) (mSkip)))))))))) (mRet (mC (.bl true)))))))))
def f_L_guard_right : Fn := runFn0 14 b_L_guard_right
theorem sc_L_guard_right : FnScope ["_law_source_here", "_law_grain", "_law_seen", "_law_read", "_law_write", "_law_look", "_law_by", "_law_top", "_law_rule", "_law_told", "_law_far", "_law_bad", "_law_one", "_law_due"] ["_law_source_here"] (defScope (topS 38)) := ⟨rfl, rfl, rfl, by decide +kernel, rfl, by decide +kernel, by decide +kernel⟩
theorem d_L_guard_right {f : Addr} {fd : FuncData} (T : Txt K mg t_MAX_MOMENT t_MAX_EVENTS) (G_L_rules : FnD P w K mg base CX0 "_law_rules" 2 1 f_L_rules) (G_L_take : FnD P w K mg base CX0 "_law_take" 1 2 f_L_take) (G_L_pick : FnD P w K mg base CX0 "_law_pick" 2 2 f_L_pick) (G_guarded : FnD P w K mg base CX0 "guarded" 5 6 f_guarded) (G_L_listed : FnD P w K mg base CX0 "_law_listed" 1 2 f_L_listed) (G_L_slips : FnD P w K mg base CX0 "_law_slips" 2 7 f_L_slips) (G_safe_look : FnD P w K mg base CX0 "safe_look" 5 5 f_safe_look) (F : Fun K "_law_guard_right" "_law_guard_right" (topS 38) f fd) (hm : mg "_law_guard_right" = some (.ref f)) : FnD P w K mg base CX0 "_law_guard_right" 6 1 f_L_guard_right :=
  fn_ok F sc_L_guard_right rfl hm (fun _ _ _ _ _ _ us hl => match us, hl with | [_], _ => rfl) fun cdv A outer s H E n hr =>
    (ss_cons (st_asg (de_tup (da_cons (de_bin os_add de_int (de_call0 (G_L_take.mono (by decide)) hr rfl (da_cons (de_var 0) (da_cons de_int da_nil)))) (da_cons (de_call0 (G_L_take.mono (by decide)) hr rfl (da_cons (de_var 0) (da_cons de_int da_nil))) da_nil))) (dg_tup rfl (dgs_cons (dg_name 1 sc_L_guard_right.nd) (dgs_cons (dg_name 2 sc_L_guard_right.nd) dgs_nil)))) (ss_cons (st_set 3 (de_bin os_add (de_var 2) (de_call0 (G_L_pick.mono (by decide)) hr rfl (da_cons (de_var 0) (da_cons (de_lst (da_cons de_int (da_cons (de_call0 (G_L_take.mono (by decide)) hr rfl (da_cons (de_var 0) (da_cons de_int da_nil))) (da_cons (de_call0 (G_L_take.mono (by decide)) hr rfl (da_cons (de_var 0) (da_cons de_int da_nil))) da_nil)))) da_nil)))) sc_L_guard_right.nd) (ss_cons (st_set 4 (de_bin os_add (de_var 3) (de_call0 (G_L_pick.mono (by decide)) hr rfl (da_cons (de_var 0) (da_cons (de_lst (da_cons de_int (da_cons (de_call0 (G_L_take.mono (by decide)) hr rfl (da_cons (de_var 0) (da_cons de_int da_nil))) da_nil))) da_nil)))) sc_L_guard_right.nd) (ss_cons (st_set 5 (de_bin os_add (de_var 4) (de_call0 (G_L_pick.mono (by decide)) hr rfl (da_cons (de_var 0) (da_cons (de_lst (da_cons de_int (da_cons (de_call0 (G_L_take.mono (by decide)) hr rfl (da_cons (de_var 0) (da_cons de_int da_nil))) da_nil))) da_nil)))) sc_L_guard_right.nd) (ss_cons (st_set 6 (de_bin os_mul (de_call0 (G_L_pick.mono (by decide)) hr rfl (da_cons (de_var 0) (da_cons (de_lst (da_cons de_int (da_cons (de_bin os_pow de_int de_int) (da_cons (de_bin os_pow de_int de_int) da_nil)))) da_nil))) (de_var 1)) sc_L_guard_right.nd) (ss_cons (st_set 7 (de_bin os_add (de_bin os_add (de_var 5) (de_bin os_mul de_int (de_var 1))) de_int) sc_L_guard_right.nd) (ss_cons (st_forG PassesOwn.never rfl (de_call0 (G_L_rules.mono (by decide)) hr rfl (da_cons (de_var 0) da_nil)) (dg_name 8 sc_L_guard_right.nd) (ss_cons (st_set 9 (de_call0 (G_guarded.mono (by decide)) hr rfl (da_cons (de_var 8) (da_cons (de_var 1) (da_cons (de_bin os_add (de_var 2) (de_var 6)) (da_cons (de_bin os_add (de_var 3) (de_var 6)) (da_cons (de_bin os_add (de_var 4) (de_var 6)) (da_cons (de_bin os_add (de_var 5) (de_var 6)) da_nil))))))) sc_L_guard_right.nd) (ss_cons (st_if (dt_cmp (os_neG hr.units) (de_call0 (G_L_listed.mono (by decide)) hr rfl (da_cons (de_var 9) (da_cons (de_var 6) da_nil))) (de_call0 (G_L_slips.mono (by decide)) hr rfl (da_cons (de_var 8) (da_cons (de_var 1) (da_cons (de_var 2) (da_cons (de_var 3) (da_cons (de_var 4) (da_cons (de_var 5) (da_cons (de_var 7) da_nil))))))))) (ss_one (st_ret de_bl)) ss_nil) (ss_cons (st_appR (de_var 9) de_non) (ss_cons (st_set 10 (de_bin os_add (de_var 4) (de_bin os_mul de_int (de_var 1))) sc_L_guard_right.nd) (ss_cons (st_lc 11 (own := [("_law_one", 12)]) rfl sc_L_guard_right.nd (sw_true rfl rfl rfl (by decide +kernel)) (di_range2 rfl T.b_range (da_cons (de_var 4) (da_cons (de_var 10) da_nil))) (blkOk_by (N := ["_law_source_here", "_law_grain", "_law_seen", "_law_read", "_law_write", "_law_look", "_law_by", "_law_top", "_law_rule", "_law_told", "_law_far", "_law_bad", "_law_one", "_law_due"]) (sc := (defScope (topS 38))) (by decide +kernel)) (fun _ _ _ _ _ => (dg_name 12 sc_L_guard_right.nd)) (fun _ _ _ _ _ => (dts_one (dt_cmp (os_neG hr.units) (de_call0 (G_L_slips.mono (by decide)) hr rfl (da_cons (de_var 8) (da_cons (de_var 1) (da_cons (de_var 2) (da_cons (de_var 3) (da_cons (de_var 4) (da_cons (de_var 12) (da_cons (de_bin os_add (de_var 10) de_int) da_nil)))))))) (de_lst da_nil)))) (fun _ _ _ _ _ => (de_var 12))) (ss_cons (st_set 13 (de_bin os_add (de_var 4) (de_var 6)) sc_L_guard_right.nd) (ss_cons (st_if (dt_cmp (os_neG hr.units) (de_var 11) (de_lst da_nil)) (ss_one (st_set 13 (de_if (dt_cmp (os_eqG hr.units) (de_idx (de_var 11) (de_un us_neg de_int)) (de_bin os_sub (de_var 10) de_int)) de_non (de_bin os_add (de_bin os_add (de_idx (de_var 11) (de_un us_neg de_int)) de_int) (de_var 6))) sc_L_guard_right.nd)) ss_nil) (ss_one (st_if (dt_cmp (os_neG hr.units) (de_call0 (G_safe_look.mono (by decide)) hr rfl (da_cons (de_var 8) (da_cons (de_var 1) (da_cons (de_bin os_add (de_var 2) (de_var 6)) (da_cons (de_bin os_add (de_var 3) (de_var 6)) (da_cons (de_bin os_add (de_var 4) (de_var 6)) da_nil)))))) (de_var 13)) (ss_one (st_ret de_bl)) ss_nil)))))))))) (ss_one (st_ret de_bl)))))))))
def b_law : MS := mSeq (mForG (mBin addD (mLst (mCons (mCall f_L_cell_at (mCons (mV 0) (mCons (mC (.int 0)) (mNil)))) (mNil))) (mSli (mV 0) (mOS (mC (.int 1))) (mOS (mC (.int 5))))) (gN 1) (mSeq (mSet 2 (mCall f_L_source (mCons (mV 1) (mNil)))) (mSeq (mFor (mR1 (mCons (mC (.int 2)) (mNil))) (gN 3) (mIfS (mNotB (mTru (mCall f_L_guard_right (mCons (mV 2) (mNil))))) (mRet (mC (.bl false))) (mSkip))) (mFor (mR1 (mCons (mC (.int 4)) (mNil))) (gN 3) (mIfS (mNotB (mTru (mCall f_L_rounds_right (mCons (mV 2) (mCons (mCall f_L_take (mCons (mV 2) (mCons (mC (.int 9)) (mNil)))) (mCons (mC (.int 12)) (mNil))))))) (mRet (mC (.bl false))) (mSkip)))))) (mSeq (mSet 2 (mCall f_L_source (mCons (mCall f_L_cell_at (mCons (mV 0) (mCons (mC (.int 0)) (mNil)))) (mNil)))) (mSeq (mIfS (mNotB (mTru (mCall f_L_rounds_right (mCons (mV 2) (mCons (mC (.int 30)) (mCons (mC (.int 3)) (mNil))))))) (mRet (mC (.bl false))) (mSkip)) (mSeq (mSet 4 (mBin powD (mC (.int 10)) (mC (.int 15)))) (mSeq (mPar 5 6 (mCons (mTup (mCons (mC (.str "newer")) (mCons (mC (.str "end")) (mCons (mC (.bl false)) (mNil))))) (mCons (mLc (mR2 (mCons (mC (.int 1)) (mCons (mC (.int 201)) (mNil)))) [7] (gN 7) (mYes) (mBin addD (mBin mulD (mV 4) (mV 7)) (mC (.int 5)))) (mNil)))) (mSeq (mSet 8 (mCall f_guard_rounds (mCons (mV 5) (mCons (mC (.int 10)) (mCons (mV 6) (mCons (mV 4) (mCons (mC (.int 0)) (mCons (mC (.int 1)) (mCons (mV 4) (mNil)))))))))) (mRet (mBin eqGB (mV 8) (mTup (mCons (mLc (mR2 (mCons (mC (.int 1)) (mCons (mC (.int 202)) (mNil)))) [7] (gN 7) (mYes) (mBin mulD (mV 4) (mV 7))) (mCons (mC (.str "right")) (mNil)))))))))))
def f_law : Fn := runFn0 9 b_law
theorem sc_law : FnScope ["_law_script", "_law_cell", "_law_source_here", "_law_turn", "_law_far", "_law_rule", "_law_edits", "_law_k", "_law_told"] ["_law_script"] (defScope (topS 42)) := ⟨rfl, rfl, rfl, by decide +kernel, rfl, by decide +kernel, by decide +kernel⟩
theorem d_law {f : Addr} {fd : FuncData} (T : Txt K mg t_MAX_MOMENT t_MAX_EVENTS) (G_L_source : FnD P w K mg base CX0 "_law_source" 1 1 f_L_source) (G_guard_rounds : FnD P w K mg base CX0 "guard_rounds" 5 7 f_guard_rounds) (G_L_cell_at : FnD P w K mg base CX0 "_law_cell_at" 1 2 f_L_cell_at) (G_L_rounds_right : FnD P w K mg base CX0 "_law_rounds_right" 6 3 f_L_rounds_right) (G_L_guard_right : FnD P w K mg base CX0 "_law_guard_right" 6 1 f_L_guard_right) (G_L_take : FnD P w K mg base CX0 "_law_take" 1 2 f_L_take) (F : Fun K "law" "law" (topS 42) f fd) : FnG P w K mg base CX0 7 f fd ["_law_script"] (spOf K mg 1 f_law) :=
  law_ok F sc_law rfl fun cdv A outer s H E n hr =>
    (ss_cons (st_forG PassesOwn.never rfl (de_bin os_add (de_lst (da_cons (de_call0 (G_L_cell_at.mono (by decide)) hr rfl (da_cons (de_var 0) (da_cons de_int da_nil))) da_nil)) (de_sli (de_var 0) (do_some de_int) (do_some de_int))) (dg_name 1 sc_law.nd) (ss_cons (st_set 2 (de_call0 (G_L_source.mono (by decide)) hr rfl (da_cons (de_var 1) da_nil)) sc_law.nd) (ss_cons (st_for PassesOwn.never rfl (di_range1 rfl T.b_range (da_cons de_int da_nil)) (dg_name 3 sc_law.nd) (ss_one (st_if (dt_not (dt_tru (de_call0 (G_L_guard_right.mono (by decide)) hr rfl (da_cons (de_var 2) da_nil)))) (ss_one (st_ret de_bl)) ss_nil))) (ss_one (st_for PassesOwn.never rfl (di_range1 rfl T.b_range (da_cons de_int da_nil)) (dg_name 3 sc_law.nd) (ss_one (st_if (dt_not (dt_tru (de_call0 (G_L_rounds_right.mono (by decide)) hr rfl (da_cons (de_var 2) (da_cons (de_call0 (G_L_take.mono (by decide)) hr rfl (da_cons (de_var 2) (da_cons de_int da_nil))) (da_cons de_int da_nil)))))) (ss_one (st_ret de_bl)) ss_nil))))))) (ss_cons (st_set 2 (de_call0 (G_L_source.mono (by decide)) hr rfl (da_cons (de_call0 (G_L_cell_at.mono (by decide)) hr rfl (da_cons (de_var 0) (da_cons de_int da_nil))) da_nil)) sc_law.nd) (ss_cons (st_if (dt_not (dt_tru (de_call0 (G_L_rounds_right.mono (by decide)) hr rfl (da_cons (de_var 2) (da_cons de_int (da_cons de_int da_nil)))))) (ss_one (st_ret de_bl)) ss_nil) (ss_cons (st_set 4 (de_bin os_pow de_int de_int) sc_law.nd) (ss_cons (st_par 5 6 (da_cons (de_tup (da_cons de_str (da_cons de_str (da_cons de_bl da_nil)))) (da_cons (de_lc (own := [("_law_k", 7)]) rfl sc_law.nd (di_range2 rfl T.b_range (da_cons de_int (da_cons de_int da_nil))) (blkOk_by (N := ["_law_script", "_law_cell", "_law_source_here", "_law_turn", "_law_far", "_law_rule", "_law_edits", "_law_k", "_law_told"]) (sc := (defScope (topS 42))) (by decide +kernel)) (fun _ _ _ _ _ => (dg_name 7 sc_law.nd)) (fun _ _ _ _ _ => dts_nil) (fun _ _ _ _ _ => (de_bin os_add (de_bin os_mul (de_var 4) (de_var 7)) de_int))) da_nil)) rfl sc_law.nd) (ss_cons (st_set 8 (de_call0 (G_guard_rounds.mono (by decide)) hr rfl (da_cons (de_var 5) (da_cons de_int (da_cons (de_var 6) (da_cons (de_var 4) (da_cons de_int (da_cons de_int (da_cons (de_var 4) da_nil)))))))) sc_law.nd) (ss_one (st_ret (de_cmp (os_eqG hr.units) (de_var 8) (de_tup (da_cons (de_lc (own := [("_law_k", 7)]) rfl sc_law.nd (di_range2 rfl T.b_range (da_cons de_int (da_cons de_int da_nil))) (blkOk_by (N := ["_law_script", "_law_cell", "_law_source_here", "_law_turn", "_law_far", "_law_rule", "_law_edits", "_law_k", "_law_told"]) (sc := (defScope (topS 42))) (by decide +kernel)) (fun _ _ _ _ _ => (dg_name 7 sc_law.nd)) (fun _ _ _ _ _ => dts_nil) (fun _ _ _ _ _ => (de_bin os_mul (de_var 4) (de_var 7)))) (da_cons de_str da_nil))))))))))))
end
theorem all_mk {l : PySem.W.OpenLaw} {w : World} {K : PySem.W.Frag} {h : Heap} {mg : Str → Option Value} {fa : Addr} (X : K.In h) (G : h.Ns mainGlobals mg) (hfa : mg "law" = some (.ref fa))
  {f0 : Addr} {od0 an0 : Option Addr} {sl0 : Array (Option Value)} {oc0 kV0 dc0 pm0 cd0 ct0 : Value} (a0 : PySem.W.nsIn K mainGlobals "_law_source" = some (some (.ref f0))) (l0 : K.lookup f0 = some ⟨oc0, od0, .func (PySem.W.fnOf "_law_source" "_law_source" (defArgs (topS 31)) (defBody (topS 31)) (defScope (topS 31)) .none kV0 dc0 pm0 an0 cd0 ct0), sl0⟩) (c0 : PySem.W.codeIn K cd0 "_law_source" = true) (k0 : PySem.W.keepIn K (.ref f0) = true)
  {f1 : Addr} {od1 an1 : Option Addr} {sl1 : Array (Option Value)} {oc1 kV1 dc1 pm1 cd1 ct1 : Value} (a1 : PySem.W.nsIn K mainGlobals "require_rule" = some (some (.ref f1))) (l1 : K.lookup f1 = some ⟨oc1, od1, .func (PySem.W.fnOf "require_rule" "require_rule" (defArgs (topS 12)) (defBody (topS 12)) (defScope (topS 12)) .none kV1 dc1 pm1 an1 cd1 ct1), sl1⟩) (c1 : PySem.W.codeIn K cd1 "require_rule" = true) (k1 : PySem.W.keepIn K (.ref f1) = true)
  {f2 : Addr} {od2 an2 : Option Addr} {sl2 : Array (Option Value)} {oc2 kV2 dc2 pm2 cd2 ct2 : Value} (a2 : PySem.W.nsIn K mainGlobals "is_integer" = some (some (.ref f2))) (l2 : K.lookup f2 = some ⟨oc2, od2, .func (PySem.W.fnOf "is_integer" "is_integer" (defArgs (topS 8)) (defBody (topS 8)) (defScope (topS 8)) .none kV2 dc2 pm2 an2 cd2 ct2), sl2⟩) (c2 : PySem.W.codeIn K cd2 "is_integer" = true) (k2 : PySem.W.keepIn K (.ref f2) = true)
  {f3 : Addr} {od3 an3 : Option Addr} {sl3 : Array (Option Value)} {oc3 kV3 dc3 pm3 cd3 ct3 : Value} (a3 : PySem.W.nsIn K mainGlobals "is_between" = some (some (.ref f3))) (l3 : K.lookup f3 = some ⟨oc3, od3, .func (PySem.W.fnOf "is_between" "is_between" (defArgs (topS 9)) (defBody (topS 9)) (defScope (topS 9)) .none kV3 dc3 pm3 an3 cd3 ct3), sl3⟩) (c3 : PySem.W.codeIn K cd3 "is_between" = true) (k3 : PySem.W.keepIn K (.ref f3) = true)
  {f4 : Addr} {od4 an4 : Option Addr} {sl4 : Array (Option Value)} {oc4 kV4 dc4 pm4 cd4 ct4 : Value} (a4 : PySem.W.nsIn K mainGlobals "require_grain" = some (some (.ref f4))) (l4 : K.lookup f4 = some ⟨oc4, od4, .func (PySem.W.fnOf "require_grain" "require_grain" (defArgs (topS 16)) (defBody (topS 16)) (defScope (topS 16)) .none kV4 dc4 pm4 an4 cd4 ct4), sl4⟩) (c4 : PySem.W.codeIn K cd4 "require_grain" = true) (k4 : PySem.W.keepIn K (.ref f4) = true)
  {f5 : Addr} {od5 an5 : Option Addr} {sl5 : Array (Option Value)} {oc5 kV5 dc5 pm5 cd5 ct5 : Value} (a5 : PySem.W.nsIn K mainGlobals "is_moment" = some (some (.ref f5))) (l5 : K.lookup f5 = some ⟨oc5, od5, .func (PySem.W.fnOf "is_moment" "is_moment" (defArgs (topS 10)) (defBody (topS 10)) (defScope (topS 10)) .none kV5 dc5 pm5 an5 cd5 ct5), sl5⟩) (c5 : PySem.W.codeIn K cd5 "is_moment" = true) (k5 : PySem.W.keepIn K (.ref f5) = true)
  {f6 : Addr} {od6 an6 : Option Addr} {sl6 : Array (Option Value)} {oc6 kV6 dc6 pm6 cd6 ct6 : Value} (a6 : PySem.W.nsIn K mainGlobals "require_edits" = some (some (.ref f6))) (l6 : K.lookup f6 = some ⟨oc6, od6, .func (PySem.W.fnOf "require_edits" "require_edits" (defArgs (topS 26)) (defBody (topS 26)) (defScope (topS 26)) .none kV6 dc6 pm6 an6 cd6 ct6), sl6⟩) (c6 : PySem.W.codeIn K cd6 "require_edits" = true) (k6 : PySem.W.keepIn K (.ref f6) = true)
  {f7 : Addr} {od7 an7 : Option Addr} {sl7 : Array (Option Value)} {oc7 kV7 dc7 pm7 cd7 ct7 : Value} (a7 : PySem.W.nsIn K mainGlobals "require_moment" = some (some (.ref f7))) (l7 : K.lookup f7 = some ⟨oc7, od7, .func (PySem.W.fnOf "require_moment" "require_moment" (defArgs (topS 11)) (defBody (topS 11)) (defScope (topS 11)) .none kV7 dc7 pm7 an7 cd7 ct7), sl7⟩) (c7 : PySem.W.codeIn K cd7 "require_moment" = true) (k7 : PySem.W.keepIn K (.ref f7) = true)
  {f8 : Addr} {od8 an8 : Option Addr} {sl8 : Array (Option Value)} {oc8 kV8 dc8 pm8 cd8 ct8 : Value} (a8 : PySem.W.nsIn K mainGlobals "require_delays" = some (some (.ref f8))) (l8 : K.lookup f8 = some ⟨oc8, od8, .func (PySem.W.fnOf "require_delays" "require_delays" (defArgs (topS 18)) (defBody (topS 18)) (defScope (topS 18)) .none kV8 dc8 pm8 an8 cd8 ct8), sl8⟩) (c8 : PySem.W.codeIn K cd8 "require_delays" = true) (k8 : PySem.W.keepIn K (.ref f8) = true)
  {f9 : Addr} {od9 an9 : Option Addr} {sl9 : Array (Option Value)} {oc9 kV9 dc9 pm9 cd9 ct9 : Value} (a9 : PySem.W.nsIn K mainGlobals "first_of" = some (some (.ref f9))) (l9 : K.lookup f9 = some ⟨oc9, od9, .func (PySem.W.fnOf "first_of" "first_of" (defArgs (topS 19)) (defBody (topS 19)) (defScope (topS 19)) .none kV9 dc9 pm9 an9 cd9 ct9), sl9⟩) (c9 : PySem.W.codeIn K cd9 "first_of" = true) (k9 : PySem.W.keepIn K (.ref f9) = true)
  {f10 : Addr} {od10 an10 : Option Addr} {sl10 : Array (Option Value)} {oc10 kV10 dc10 pm10 cd10 ct10 : Value} (a10 : PySem.W.nsIn K mainGlobals "stamp_by" = some (some (.ref f10))) (l10 : K.lookup f10 = some ⟨oc10, od10, .func (PySem.W.fnOf "stamp_by" "stamp_by" (defArgs (topS 27)) (defBody (topS 27)) (defScope (topS 27)) .none kV10 dc10 pm10 an10 cd10 ct10), sl10⟩) (c10 : PySem.W.codeIn K cd10 "stamp_by" = true) (k10 : PySem.W.keepIn K (.ref f10) = true)
  {f11 : Addr} {od11 an11 : Option Addr} {sl11 : Array (Option Value)} {oc11 kV11 dc11 pm11 cd11 ct11 : Value} (a11 : PySem.W.nsIn K mainGlobals "last_of_tick" = some (some (.ref f11))) (l11 : K.lookup f11 = some ⟨oc11, od11, .func (PySem.W.fnOf "last_of_tick" "last_of_tick" (defArgs (topS 20)) (defBody (topS 20)) (defScope (topS 20)) .none kV11 dc11 pm11 an11 cd11 ct11), sl11⟩) (c11 : PySem.W.codeIn K cd11 "last_of_tick" = true) (k11 : PySem.W.keepIn K (.ref f11) = true)
  {f12 : Addr} {od12 an12 : Option Addr} {sl12 : Array (Option Value)} {oc12 kV12 dc12 pm12 cd12 ct12 : Value} (a12 : PySem.W.nsIn K mainGlobals "last_lost" = some (some (.ref f12))) (l12 : K.lookup f12 = some ⟨oc12, od12, .func (PySem.W.fnOf "last_lost" "last_lost" (defArgs (topS 22)) (defBody (topS 22)) (defScope (topS 22)) .none kV12 dc12 pm12 an12 cd12 ct12), sl12⟩) (c12 : PySem.W.codeIn K cd12 "last_lost" = true) (k12 : PySem.W.keepIn K (.ref f12) = true)
  {f13 : Addr} {od13 an13 : Option Addr} {sl13 : Array (Option Value)} {oc13 kV13 dc13 pm13 cd13 ct13 : Value} (a13 : PySem.W.nsIn K mainGlobals "guard_rounds" = some (some (.ref f13))) (l13 : K.lookup f13 = some ⟨oc13, od13, .func (PySem.W.fnOf "guard_rounds" "guard_rounds" (defArgs (topS 28)) (defBody (topS 28)) (defScope (topS 28)) .none kV13 dc13 pm13 an13 cd13 ct13), sl13⟩) (c13 : PySem.W.codeIn K cd13 "guard_rounds" = true) (k13 : PySem.W.keepIn K (.ref f13) = true)
  {f14 : Addr} {od14 an14 : Option Addr} {sl14 : Array (Option Value)} {oc14 kV14 dc14 pm14 cd14 ct14 : Value} (a14 : PySem.W.nsIn K mainGlobals "_law_cell_at" = some (some (.ref f14))) (l14 : K.lookup f14 = some ⟨oc14, od14, .func (PySem.W.fnOf "_law_cell_at" "_law_cell_at" (defArgs (topS 30)) (defBody (topS 30)) (defScope (topS 30)) .none kV14 dc14 pm14 an14 cd14 ct14), sl14⟩) (c14 : PySem.W.codeIn K cd14 "_law_cell_at" = true) (k14 : PySem.W.keepIn K (.ref f14) = true)
  {f15 : Addr} {od15 an15 : Option Addr} {sl15 : Array (Option Value)} {oc15 kV15 dc15 pm15 cd15 ct15 : Value} (a15 : PySem.W.nsIn K mainGlobals "_law_take" = some (some (.ref f15))) (l15 : K.lookup f15 = some ⟨oc15, od15, .func (PySem.W.fnOf "_law_take" "_law_take" (defArgs (topS 32)) (defBody (topS 32)) (defScope (topS 32)) .none kV15 dc15 pm15 an15 cd15 ct15), sl15⟩) (c15 : PySem.W.codeIn K cd15 "_law_take" = true) (k15 : PySem.W.keepIn K (.ref f15) = true)
  {f16 : Addr} {od16 an16 : Option Addr} {sl16 : Array (Option Value)} {oc16 kV16 dc16 pm16 cd16 ct16 : Value} (a16 : PySem.W.nsIn K mainGlobals "_law_rules" = some (some (.ref f16))) (l16 : K.lookup f16 = some ⟨oc16, od16, .func (PySem.W.fnOf "_law_rules" "_law_rules" (defArgs (topS 35)) (defBody (topS 35)) (defScope (topS 35)) .none kV16 dc16 pm16 an16 cd16 ct16), sl16⟩) (c16 : PySem.W.codeIn K cd16 "_law_rules" = true) (k16 : PySem.W.keepIn K (.ref f16) = true)
  {f17 : Addr} {od17 an17 : Option Addr} {sl17 : Array (Option Value)} {oc17 kV17 dc17 pm17 cd17 ct17 : Value} (a17 : PySem.W.nsIn K mainGlobals "_law_last" = some (some (.ref f17))) (l17 : K.lookup f17 = some ⟨oc17, od17, .func (PySem.W.fnOf "_law_last" "_law_last" (defArgs (topS 39)) (defBody (topS 39)) (defScope (topS 39)) .none kV17 dc17 pm17 an17 cd17 ct17), sl17⟩) (c17 : PySem.W.codeIn K cd17 "_law_last" = true) (k17 : PySem.W.keepIn K (.ref f17) = true)
  {f18 : Addr} {od18 an18 : Option Addr} {sl18 : Array (Option Value)} {oc18 kV18 dc18 pm18 cd18 ct18 : Value} (a18 : PySem.W.nsIn K mainGlobals "_law_is_due" = some (some (.ref f18))) (l18 : K.lookup f18 = some ⟨oc18, od18, .func (PySem.W.fnOf "_law_is_due" "_law_is_due" (defArgs (topS 34)) (defBody (topS 34)) (defScope (topS 34)) .none kV18 dc18 pm18 an18 cd18 ct18), sl18⟩) (c18 : PySem.W.codeIn K cd18 "_law_is_due" = true) (k18 : PySem.W.keepIn K (.ref f18) = true)
  {f19 : Addr} {od19 an19 : Option Addr} {sl19 : Array (Option Value)} {oc19 kV19 dc19 pm19 cd19 ct19 : Value} (a19 : PySem.W.nsIn K mainGlobals "_law_rounds" = some (some (.ref f19))) (l19 : K.lookup f19 = some ⟨oc19, od19, .func (PySem.W.fnOf "_law_rounds" "_law_rounds" (defArgs (topS 40)) (defBody (topS 40)) (defScope (topS 40)) .none kV19 dc19 pm19 an19 cd19 ct19), sl19⟩) (c19 : PySem.W.codeIn K cd19 "_law_rounds" = true) (k19 : PySem.W.keepIn K (.ref f19) = true)
  {f20 : Addr} {od20 an20 : Option Addr} {sl20 : Array (Option Value)} {oc20 kV20 dc20 pm20 cd20 ct20 : Value} (a20 : PySem.W.nsIn K mainGlobals "_law_rounds_right" = some (some (.ref f20))) (l20 : K.lookup f20 = some ⟨oc20, od20, .func (PySem.W.fnOf "_law_rounds_right" "_law_rounds_right" (defArgs (topS 41)) (defBody (topS 41)) (defScope (topS 41)) .none kV20 dc20 pm20 an20 cd20 ct20), sl20⟩) (c20 : PySem.W.codeIn K cd20 "_law_rounds_right" = true) (k20 : PySem.W.keepIn K (.ref f20) = true)
  {f21 : Addr} {od21 an21 : Option Addr} {sl21 : Array (Option Value)} {oc21 kV21 dc21 pm21 cd21 ct21 : Value} (a21 : PySem.W.nsIn K mainGlobals "_law_pick" = some (some (.ref f21))) (l21 : K.lookup f21 = some ⟨oc21, od21, .func (PySem.W.fnOf "_law_pick" "_law_pick" (defArgs (topS 33)) (defBody (topS 33)) (defScope (topS 33)) .none kV21 dc21 pm21 an21 cd21 ct21), sl21⟩) (c21 : PySem.W.codeIn K cd21 "_law_pick" = true) (k21 : PySem.W.keepIn K (.ref f21) = true)
  {f22 : Addr} {od22 an22 : Option Addr} {sl22 : Array (Option Value)} {oc22 kV22 dc22 pm22 cd22 ct22 : Value} (a22 : PySem.W.nsIn K mainGlobals "require_rising" = some (some (.ref f22))) (l22 : K.lookup f22 = some ⟨oc22, od22, .func (PySem.W.fnOf "require_rising" "require_rising" (defArgs (topS 17)) (defBody (topS 17)) (defScope (topS 17)) .none kV22 dc22 pm22 an22 cd22 ct22), sl22⟩) (c22 : PySem.W.codeIn K cd22 "require_rising" = true) (k22 : PySem.W.keepIn K (.ref f22) = true)
  {f23 : Addr} {od23 an23 : Option Addr} {sl23 : Array (Option Value)} {oc23 kV23 dc23 pm23 cd23 ct23 : Value} (a23 : PySem.W.nsIn K mainGlobals "joined" = some (some (.ref f23))) (l23 : K.lookup f23 = some ⟨oc23, od23, .func (PySem.W.fnOf "joined" "joined" (defArgs (topS 14)) (defBody (topS 14)) (defScope (topS 14)) .none kV23 dc23 pm23 an23 cd23 ct23), sl23⟩) (c23 : PySem.W.codeIn K cd23 "joined" = true) (k23 : PySem.W.keepIn K (.ref f23) = true)
  {f24 : Addr} {od24 an24 : Option Addr} {sl24 : Array (Option Value)} {oc24 kV24 dc24 pm24 cd24 ct24 : Value} (a24 : PySem.W.nsIn K mainGlobals "stretch" = some (some (.ref f24))) (l24 : K.lookup f24 = some ⟨oc24, od24, .func (PySem.W.fnOf "stretch" "stretch" (defArgs (topS 21)) (defBody (topS 21)) (defScope (topS 21)) .none kV24 dc24 pm24 an24 cd24 ct24), sl24⟩) (c24 : PySem.W.codeIn K cd24 "stretch" = true) (k24 : PySem.W.keepIn K (.ref f24) = true)
  {f25 : Addr} {od25 an25 : Option Addr} {sl25 : Array (Option Value)} {oc25 kV25 dc25 pm25 cd25 ct25 : Value} (a25 : PySem.W.nsIn K mainGlobals "guarded" = some (some (.ref f25))) (l25 : K.lookup f25 = some ⟨oc25, od25, .func (PySem.W.fnOf "guarded" "guarded" (defArgs (topS 24)) (defBody (topS 24)) (defScope (topS 24)) .none kV25 dc25 pm25 an25 cd25 ct25), sl25⟩) (c25 : PySem.W.codeIn K cd25 "guarded" = true) (k25 : PySem.W.keepIn K (.ref f25) = true)
  {f26 : Addr} {od26 an26 : Option Addr} {sl26 : Array (Option Value)} {oc26 kV26 dc26 pm26 cd26 ct26 : Value} (a26 : PySem.W.nsIn K mainGlobals "_law_listed" = some (some (.ref f26))) (l26 : K.lookup f26 = some ⟨oc26, od26, .func (PySem.W.fnOf "_law_listed" "_law_listed" (defArgs (topS 37)) (defBody (topS 37)) (defScope (topS 37)) .none kV26 dc26 pm26 an26 cd26 ct26), sl26⟩) (c26 : PySem.W.codeIn K cd26 "_law_listed" = true) (k26 : PySem.W.keepIn K (.ref f26) = true)
  {f27 : Addr} {od27 an27 : Option Addr} {sl27 : Array (Option Value)} {oc27 kV27 dc27 pm27 cd27 ct27 : Value} (a27 : PySem.W.nsIn K mainGlobals "_law_slips" = some (some (.ref f27))) (l27 : K.lookup f27 = some ⟨oc27, od27, .func (PySem.W.fnOf "_law_slips" "_law_slips" (defArgs (topS 36)) (defBody (topS 36)) (defScope (topS 36)) .none kV27 dc27 pm27 an27 cd27 ct27), sl27⟩) (c27 : PySem.W.codeIn K cd27 "_law_slips" = true) (k27 : PySem.W.keepIn K (.ref f27) = true)
  {f28 : Addr} {od28 an28 : Option Addr} {sl28 : Array (Option Value)} {oc28 kV28 dc28 pm28 cd28 ct28 : Value} (a28 : PySem.W.nsIn K mainGlobals "lost_stretch" = some (some (.ref f28))) (l28 : K.lookup f28 = some ⟨oc28, od28, .func (PySem.W.fnOf "lost_stretch" "lost_stretch" (defArgs (topS 23)) (defBody (topS 23)) (defScope (topS 23)) .none kV28 dc28 pm28 an28 cd28 ct28), sl28⟩) (c28 : PySem.W.codeIn K cd28 "lost_stretch" = true) (k28 : PySem.W.keepIn K (.ref f28) = true)
  {f29 : Addr} {od29 an29 : Option Addr} {sl29 : Array (Option Value)} {oc29 kV29 dc29 pm29 cd29 ct29 : Value} (a29 : PySem.W.nsIn K mainGlobals "safe_look" = some (some (.ref f29))) (l29 : K.lookup f29 = some ⟨oc29, od29, .func (PySem.W.fnOf "safe_look" "safe_look" (defArgs (topS 25)) (defBody (topS 25)) (defScope (topS 25)) .none kV29 dc29 pm29 an29 cd29 ct29), sl29⟩) (c29 : PySem.W.codeIn K cd29 "safe_look" = true) (k29 : PySem.W.keepIn K (.ref f29) = true)
  {f30 : Addr} {od30 an30 : Option Addr} {sl30 : Array (Option Value)} {oc30 kV30 dc30 pm30 cd30 ct30 : Value} (a30 : PySem.W.nsIn K mainGlobals "_law_guard_right" = some (some (.ref f30))) (l30 : K.lookup f30 = some ⟨oc30, od30, .func (PySem.W.fnOf "_law_guard_right" "_law_guard_right" (defArgs (topS 38)) (defBody (topS 38)) (defScope (topS 38)) .none kV30 dc30 pm30 an30 cd30 ct30), sl30⟩) (c30 : PySem.W.codeIn K cd30 "_law_guard_right" = true) (k30 : PySem.W.keepIn K (.ref f30) = true)
  {f31 : Addr} {od31 an31 : Option Addr} {sl31 : Array (Option Value)} {oc31 kV31 dc31 pm31 cd31 ct31 : Value} (a31 : PySem.W.nsIn K mainGlobals "law" = some (some (.ref f31))) (l31 : K.lookup f31 = some ⟨oc31, od31, .func (PySem.W.fnOf "law" "law" (defArgs (topS 42)) (defBody (topS 42)) (defScope (topS 42)) .none kV31 dc31 pm31 an31 cd31 ct31), sl31⟩) (c31 : PySem.W.codeIn K cd31 "law" = true) (k31 : PySem.W.keepIn K (.ref f31) = true)
  (z_all : PySem.W.nsIn K mainGlobals "all" = some none)
  (z_bool : PySem.W.nsIn K mainGlobals "bool" = some none)
  (z_int : PySem.W.nsIn K mainGlobals "int" = some none)
  (z_isinstance : PySem.W.nsIn K mainGlobals "isinstance" = some none)
  (z_len : PySem.W.nsIn K mainGlobals "len" = some none)
  (z_list : PySem.W.nsIn K mainGlobals "list" = some none)
  (z_max : PySem.W.nsIn K mainGlobals "max" = some none)
  (z_min : PySem.W.nsIn K mainGlobals "min" = some none)
  (z_range : PySem.W.nsIn K mainGlobals "range" = some none)
  (z_str : PySem.W.nsIn K mainGlobals "str" = some none)
  (z_tuple : PySem.W.nsIn K mainGlobals "tuple" = some none)
  (z_zip : PySem.W.nsIn K mainGlobals "zip" = some none)
  {t_MAX_MOMENT : Tok} (v_MAX_MOMENT : mg "MAX_MOMENT" = some (.int 1000000000000000000 t_MAX_MOMENT))
  {t_MAX_EVENTS : Tok} (v_MAX_EVENTS : mg "MAX_EVENTS" = some (.int 200 t_MAX_EVENTS)) :
  ∃ fd : FuncData, (∀ (s : Shared) (v : Value), BindsTo s fd ⟨[v], []⟩ [("_law_script", v)]) ∧ ∀ base : Heap, K.In base → base.Ns mainGlobals mg → FnG l.prog w K mg base CX0 7 fa fd ["_law_script"] (spOf K mg 1 f_law) := by
  have e := hfa.symm.trans (PySem.W.mg_of X G a31)
  cases e
  have T : Txt K mg t_MAX_MOMENT t_MAX_EVENTS := ⟨PySem.W.mg_none_of X G z_all, PySem.W.mg_none_of X G z_bool, PySem.W.mg_none_of X G z_int, PySem.W.mg_none_of X G z_isinstance, PySem.W.mg_none_of X G z_len, PySem.W.mg_none_of X G z_list, PySem.W.mg_none_of X G z_max, PySem.W.mg_none_of X G z_min, PySem.W.mg_none_of X G z_range, PySem.W.mg_none_of X G z_str, PySem.W.mg_none_of X G z_tuple, PySem.W.mg_none_of X G z_zip, v_MAX_MOMENT, v_MAX_EVENTS⟩
  have F0 := fun_mk (st := topS 31) l0 c0 k0
  have F1 := fun_mk (st := topS 12) l1 c1 k1
  have F2 := fun_mk (st := topS 8) l2 c2 k2
  have F3 := fun_mk (st := topS 9) l3 c3 k3
  have F4 := fun_mk (st := topS 16) l4 c4 k4
  have F5 := fun_mk (st := topS 10) l5 c5 k5
  have F6 := fun_mk (st := topS 26) l6 c6 k6
  have F7 := fun_mk (st := topS 11) l7 c7 k7
  have F8 := fun_mk (st := topS 18) l8 c8 k8
  have F9 := fun_mk (st := topS 19) l9 c9 k9
  have F10 := fun_mk (st := topS 27) l10 c10 k10
  have F11 := fun_mk (st := topS 20) l11 c11 k11
  have F12 := fun_mk (st := topS 22) l12 c12 k12
  have F13 := fun_mk (st := topS 28) l13 c13 k13
  have F14 := fun_mk (st := topS 30) l14 c14 k14
  have F15 := fun_mk (st := topS 32) l15 c15 k15
  have F16 := fun_mk (st := topS 35) l16 c16 k16
  have F17 := fun_mk (st := topS 39) l17 c17 k17
  have F18 := fun_mk (st := topS 34) l18 c18 k18
  have F19 := fun_mk (st := topS 40) l19 c19 k19
  have F20 := fun_mk (st := topS 41) l20 c20 k20
  have F21 := fun_mk (st := topS 33) l21 c21 k21
  have F22 := fun_mk (st := topS 17) l22 c22 k22
  have F23 := fun_mk (st := topS 14) l23 c23 k23
  have F24 := fun_mk (st := topS 21) l24 c24 k24
  have F25 := fun_mk (st := topS 24) l25 c25 k25
  have F26 := fun_mk (st := topS 37) l26 c26 k26
  have F27 := fun_mk (st := topS 36) l27 c27 k27
  have F28 := fun_mk (st := topS 23) l28 c28 k28
  have F29 := fun_mk (st := topS 25) l29 c29 k29
  have F30 := fun_mk (st := topS 38) l30 c30 k30
  have F31 := fun_mk (st := topS 42) l31 c31 k31
  refine ⟨PySem.W.fnOf "law" "law" (defArgs (topS 42)) (defBody (topS 42)) (defScope (topS 42)) .none kV31 dc31 pm31 an31 cd31 ct31, fun s v => .of_eq rfl, fun base _ _ => ?_⟩
  have G_L_source := d_L_source (P := l.prog) (w := w) (base := base) T F0 (PySem.W.mg_of X G a0)
  have G_require_rule := d_require_rule (P := l.prog) (w := w) (base := base) T F1 (PySem.W.mg_of X G a1)
  have G_is_integer := d_is_integer (P := l.prog) (w := w) (base := base) T F2 (PySem.W.mg_of X G a2)
  have G_is_between := d_is_between (P := l.prog) (w := w) (base := base) T G_is_integer F3 (PySem.W.mg_of X G a3)
  have G_require_grain := d_require_grain (P := l.prog) (w := w) (base := base) T G_is_between F4 (PySem.W.mg_of X G a4)
  have G_is_moment := d_is_moment (P := l.prog) (w := w) (base := base) T G_is_between F5 (PySem.W.mg_of X G a5)
  have G_require_edits := d_require_edits (P := l.prog) (w := w) (base := base) T G_is_moment F6 (PySem.W.mg_of X G a6)
  have G_require_moment := d_require_moment (P := l.prog) (w := w) (base := base) T G_is_moment F7 (PySem.W.mg_of X G a7)
  have G_require_delays := d_require_delays (P := l.prog) (w := w) (base := base) T G_is_between F8 (PySem.W.mg_of X G a8)
  have G_first_of := d_first_of (P := l.prog) (w := w) (base := base) T F9 (PySem.W.mg_of X G a9)
  have G_stamp_by := d_stamp_by (P := l.prog) (w := w) (base := base) T G_first_of F10 (PySem.W.mg_of X G a10)
  have G_last_of_tick := d_last_of_tick (P := l.prog) (w := w) (base := base) T F11 (PySem.W.mg_of X G a11)
  have G_last_lost := d_last_lost (P := l.prog) (w := w) (base := base) T G_last_of_tick G_first_of F12 (PySem.W.mg_of X G a12)
  have G_guard_rounds := d_guard_rounds (P := l.prog) (w := w) (base := base) T G_require_rule G_require_grain G_require_edits G_require_moment G_require_delays G_is_between G_stamp_by G_last_lost F13 (PySem.W.mg_of X G a13)
  have G_L_cell_at := d_L_cell_at (P := l.prog) (w := w) (base := base) T F14 (PySem.W.mg_of X G a14)
  have G_L_take := d_L_take (P := l.prog) (w := w) (base := base) T F15 (PySem.W.mg_of X G a15)
  have G_L_rules := d_L_rules (P := l.prog) (w := w) (base := base) T G_L_take F16 (PySem.W.mg_of X G a16)
  have G_L_last := d_L_last (P := l.prog) (w := w) (base := base) T F17 (PySem.W.mg_of X G a17)
  have G_L_is_due := d_L_is_due (P := l.prog) (w := w) (base := base) T F18 (PySem.W.mg_of X G a18)
  have G_L_rounds := d_L_rounds (P := l.prog) (w := w) (base := base) T G_L_last G_L_is_due F19 (PySem.W.mg_of X G a19)
  have G_L_rounds_right := d_L_rounds_right (P := l.prog) (w := w) (base := base) T G_L_take G_L_rules G_L_rounds G_guard_rounds F20 (PySem.W.mg_of X G a20)
  have G_L_pick := d_L_pick (P := l.prog) (w := w) (base := base) T G_L_take F21 (PySem.W.mg_of X G a21)
  have G_require_rising := d_require_rising (P := l.prog) (w := w) (base := base) T G_is_moment F22 (PySem.W.mg_of X G a22)
  have G_joined := d_joined (P := l.prog) (w := w) (base := base) T F23 (PySem.W.mg_of X G a23)
  have G_stretch := d_stretch (P := l.prog) (w := w) (base := base) T F24 (PySem.W.mg_of X G a24)
  have G_guarded := d_guarded (P := l.prog) (w := w) (base := base) T G_require_rule G_require_grain G_require_rising G_last_lost G_joined G_stretch G_last_of_tick F25 (PySem.W.mg_of X G a25)
  have G_L_listed := d_L_listed (P := l.prog) (w := w) (base := base) T F26 (PySem.W.mg_of X G a26)
  have G_L_slips := d_L_slips (P := l.prog) (w := w) (base := base) T G_L_is_due F27 (PySem.W.mg_of X G a27)
  have G_lost_stretch := d_lost_stretch (P := l.prog) (w := w) (base := base) T G_stretch G_last_lost F28 (PySem.W.mg_of X G a28)
  have G_safe_look := d_safe_look (P := l.prog) (w := w) (base := base) T G_require_rule G_require_grain G_require_rising G_lost_stretch G_last_of_tick F29 (PySem.W.mg_of X G a29)
  have G_L_guard_right := d_L_guard_right (P := l.prog) (w := w) (base := base) T G_L_rules G_L_take G_L_pick G_guarded G_L_listed G_L_slips G_safe_look F30 (PySem.W.mg_of X G a30)
  exact d_law (P := l.prog) (w := w) (base := base) T G_L_source G_guard_rounds G_L_cell_at G_L_rounds_right G_L_guard_right G_L_take F31
end
end K45

local macro_rules | `(tactic| walk_at "ev") => `(tactic| simp -implicitDefEqProofs only [PL.e_C, PL.e_V, PL.e_var, PL.e_of, PL.e_ofb, PL.e_bin, PL.e_bin1, PL.e_bin2, PL.e_un, PL.e_un1, PL.e_B, PL.e_B1, PL.e_tru, PL.e_tru1, PL.e_and, PL.e_and1, PL.e_and2, PL.e_or, PL.e_or1, PL.e_or2, PL.e_not, PL.e_not1, PL.e_andv, PL.e_andv1, PL.e_andv2, PL.e_orv, PL.e_orv1, PL.e_orv2, PL.e_notv, PL.e_notv1, PL.e_if, PL.e_if1, PL.e_if2, PL.e_ch, PL.e_ch1, PL.e_ch2, PL.e_ch3, PL.e_ch4, PL.e_ch5, PL.e_nil, PL.e_cons, PL.e_cons1, PL.e_cons2, PL.e_tup, PL.e_tup1, PL.e_lst, PL.e_lst1, PL.e_ref, PL.e_ref1, PL.e_blt, PL.e_blt1, PL.e_call, PL.e_call1, PL.e_sli, PL.e_sli1, PL.e_sli2, PL.e_sli3, PL.e_on, PL.e_os, PL.e_os1, PL.e_isi, PL.e_isi1, PL.e_isi2, PL.e_seq, PL.e_nx, PL.e_nret, PL.e_nbk, PL.e_nct, PL.e_skip, PL.e_set, PL.e_set1, PL.e_setU, PL.e_setU1, PL.e_drop, PL.e_drop1, PL.e_ret, PL.e_ret1, PL.e_retN, PL.e_ifS, PL.e_ifS1, PL.e_ifS2, PL.e_brk, PL.e_cont, PL.e_asg, PL.e_asg1, PL.e_asg2, PL.e_gN, PL.e_gT, PL.e_gC, PL.e_g0, PL.e_par, PL.e_par1, PL.e_st, PL.e_st1, PL.e_st2, PL.e_st3, PL.e_st4, PL.e_app, PL.e_app1, PL.e_frz, PL.e_frz1, PL.e_frz2, PL.e_frz3, PL.e_for, PL.e_for1, PL.e_fl0, PL.e_fl1, PL.e_fl2, PL.e_fl3, PL.e_fl4, PL.e_fl5, PL.e_w1, PL.e_w2, PL.e_w3, PL.e_w4, PL.e_w5, PL.e_w6, PL.e_wh, PL.e_it, PL.e_it1, PL.e_it2, PL.e_r1, PL.e_r2, PL.e_lc, PL.e_lc1, PL.e_lc2, PL.e_ll0, PL.e_ll1, PL.e_ll2, PL.e_ll3, PL.e_ll4, PL.e_ll5, PL.e_yes, PL.e_w0, PL.e_w01, PL.e_run, PL.e_run1, PL.e_run2, PL.o_add, PL.o_sub, PL.o_neg, PL.o_lt, PL.o_le, PL.o_gt, PL.o_ge, PL.o_eqb, PL.o_neb, PL.o_eqi, PL.o_eqs, PL.o_eqbl, PL.o_eqn, PL.o_eqni, PL.o_eqin, PL.o_is, PL.o_isn, PL.o_nn161, PL.o_nn162, PL.o_nn163, PL.o_nn164, PL.o_nn165, PL.o_nn166, PL.o_nn167, PL.o_idx, PL.o_idxt, PL.o_idxr, PL.o_idxr1, PL.o_set, PL.o_set1, PL.o_tru174, PL.o_tru175, PL.o_trui, PL.o_trul, PL.o_trut, PL.o_lenl, PL.o_lent, PL.o_abs, PL.o_int, PL.o_intb, PL.o_max, PL.o_min, PL.o_tupt, PL.o_tupl, PL.o_listt, PL.o_listl, PL.o_slil, PL.o_slit, PL.o_ty192, PL.o_ty193, PL.o_ty194, PL.o_ty195, PL.o_ty196, PL.o_ty197,
  PL.Ty.isA, PL.atI0, PL.atI1, PL.atI2, PL.atI3, PL.atI4, PL.ix0, PL.ix1, PL.ix2, List.map_cons, List.map_nil, List.length_cons, List.length_nil, Nat.reduceAdd, Nat.reduceSub, List.replicate_succ, List.replicate_zero, List.cons_append, List.nil_append, List.append_nil, List.getElem?_cons_zero, List.getElem?_cons_succ, List.set_cons_zero, List.set_cons_succ, List.isEmpty_nil, List.isEmpty_cons, Option.map_some, Option.map_none, Option.bind_some, Option.bind_none, List.any_cons, List.any_nil, Bool.or_false, Bool.false_or, Bool.true_or, Bool.or_true, Bool.not_true, Bool.not_false, Bool.and_true, Bool.true_and, reduceIte, Bool.false_eq_true, decide_true, decide_false, decide_not, PL.e_fG, PL.e_fG1, PL.e_fGl, PL.e_fGt, PL.e_fGr, PL.e_fGr1, PL.e_lcG, PL.e_lcG1, PL.e_lcG2, PL.e_lcGl, PL.e_lcGt, PL.e_lcGr, PL.e_lcGr1, PL.e_lcGN, PL.e_lcGN1, PL.e_lcN, PL.e_lcN1, PL.e_lcN2, PL.e_rep, PL.e_rep1, PL.e_rep2, PL.repL_one, PL.e_zipD, PL.e_zipD1, PL.e_enD, PL.e_enD1, PL.e_ofq, PL.e_forD, PL.e_forD1n, PL.itemsS_l, PL.itemsS_t, PL.eqGB_of, PL.neGB_of, PL.eqG_ii, PL.eqG_in, PL.eqG_ni, PL.eqG_nn, PL.eqG_bb, PL.ixN_last, PL.atI_last, PL.cut_0l, PL.e_appR, PL.e_appR1, PL.e_appR2, PL.e_appR3, PL.lstAt_e, PL.lstAtR_1, PL.appS_r, PL.appSR_1, PL.get_app0, PL.get_appk, PL.set_app0, PL.set_appk, PL.set_appl, PL.get_appl, PL.lstOf_r, PL.lstR_1, PL.o_tupr, PL.o_listr, PL.o_lenr, PL.o_slir, PL.o_maxl, PL.o_minl, PL.o_trur, PL.truR_1, PL.atI5, PL.itemsS_e, PL.itemsR_1, PL.enDD_e, PL.zipDD_e, PL.zipQ_1, PL.zipQC_1, PL.ixN_lastA, PL.set_lastA, PL.appU_1, PL.o_tyr, PL.tyR_1, PL.e_r3, PL.r3_ok, PL.e_gU, PL.e_ck, PL.e_ck1, PL.e_ck2, PL.permA_eq, PL.permC_1, PL.perm_0, PL.perm_c, Option.toList_some, List.singleton_append, PL.e_bltL, PL.e_bltL1, PL.e_bltL2, PL.e_bltN, PL.e_bltN1, PL.e_bltN2, PL.e_lc2i, PL.e_lc2i1, PL.e_lc2i2, PL.eqG_ss, PL.e_cat, PL.e_cat1, PL.e_cat2, PL.e_cat3, PL.e_get2, PL.e_get21, PL.e_get22, PL.e_get23, PL.o_get, PL.optGet_s, PL.optGet_n, PL.e_idl, PL.e_idl1, PL.e_idl2, PL.e_lcD, PL.e_lcD1n, PL.e_ext, PL.e_ext1, PL.e_ext2, PL.e_ext3, PL.extS_r, PL.extR_1, PL.o_min3])
local macro_rules | `(tactic| walk_at "evs") => `(tactic| simp -implicitDefEqProofs only [PL.e_C, PL.e_V, PL.e_var, PL.e_of, PL.e_ofb, PL.e_bin, PL.e_bin1, PL.e_bin2, PL.e_un, PL.e_un1, PL.e_B, PL.e_B1, PL.e_tru, PL.e_tru1, PL.e_and, PL.e_and1, PL.e_and2, PL.e_or, PL.e_or1, PL.e_or2, PL.e_not, PL.e_not1, PL.e_andv, PL.e_andv1, PL.e_andv2, PL.e_orv, PL.e_orv1, PL.e_orv2, PL.e_notv, PL.e_notv1, PL.e_if, PL.e_if1, PL.e_if2, PL.e_ch, PL.e_ch1, PL.e_ch2, PL.e_ch3, PL.e_ch4, PL.e_ch5, PL.e_nil, PL.e_cons, PL.e_cons1, PL.e_cons2, PL.e_tup, PL.e_tup1, PL.e_lst, PL.e_lst1, PL.e_ref, PL.e_ref1, PL.e_blt, PL.e_blt1, PL.e_call, PL.e_call1, PL.e_sli, PL.e_sli1, PL.e_sli2, PL.e_sli3, PL.e_on, PL.e_os, PL.e_os1, PL.e_isi, PL.e_isi1, PL.e_isi2, PL.e_seq, PL.e_nx, PL.e_nret, PL.e_nbk, PL.e_nct, PL.e_skip, PL.e_set, PL.e_set1, PL.e_setU, PL.e_setU1, PL.e_drop, PL.e_drop1, PL.e_ret, PL.e_ret1, PL.e_retN, PL.e_ifS, PL.e_ifS1, PL.e_ifS2, PL.e_brk, PL.e_cont, PL.e_asg, PL.e_asg1, PL.e_asg2, PL.e_gN, PL.e_gT, PL.e_gC, PL.e_g0, PL.e_par, PL.e_par1, PL.e_st, PL.e_st1, PL.e_st2, PL.e_st3, PL.e_st4, PL.e_app, PL.e_app1, PL.e_frz, PL.e_frz1, PL.e_frz2, PL.e_frz3, PL.e_for, PL.e_for1, PL.e_fl0, PL.e_fl1, PL.e_fl2, PL.e_fl3, PL.e_fl4, PL.e_fl5, PL.e_w1, PL.e_w2, PL.e_w3, PL.e_w4, PL.e_w5, PL.e_w6, PL.e_wh, PL.e_it, PL.e_it1, PL.e_it2, PL.e_r1, PL.e_r2, PL.e_lc, PL.e_lc1, PL.e_lc2, PL.e_ll0, PL.e_ll1, PL.e_ll2, PL.e_ll3, PL.e_ll4, PL.e_ll5, PL.e_yes, PL.e_w0, PL.e_w01, PL.e_run, PL.e_run1, PL.e_run2, PL.o_add, PL.o_sub, PL.o_neg, PL.o_lt, PL.o_le, PL.o_gt, PL.o_ge, PL.o_eqb, PL.o_neb, PL.o_eqi, PL.o_eqs, PL.o_eqbl, PL.o_eqn, PL.o_eqni, PL.o_eqin, PL.o_is, PL.o_isn, PL.o_nn161, PL.o_nn162, PL.o_nn163, PL.o_nn164, PL.o_nn165, PL.o_nn166, PL.o_nn167, PL.o_idx, PL.o_idxt, PL.o_idxr, PL.o_idxr1, PL.o_set, PL.o_set1, PL.o_tru174, PL.o_tru175, PL.o_trui, PL.o_trul, PL.o_trut, PL.o_lenl, PL.o_lent, PL.o_abs, PL.o_int, PL.o_intb, PL.o_max, PL.o_min, PL.o_tupt, PL.o_tupl, PL.o_listt, PL.o_listl, PL.o_slil, PL.o_slit, PL.o_ty192, PL.o_ty193, PL.o_ty194, PL.o_ty195, PL.o_ty196, PL.o_ty197,
  PL.Ty.isA, PL.atI0, PL.atI1, PL.atI2, PL.atI3, PL.atI4, PL.ix0, PL.ix1, PL.ix2, List.map_cons, List.map_nil, List.length_cons, List.length_nil, Nat.reduceAdd, Nat.reduceSub, List.replicate_succ, List.replicate_zero, List.cons_append, List.nil_append, List.append_nil, List.getElem?_cons_zero, List.getElem?_cons_succ, List.set_cons_zero, List.set_cons_succ, List.isEmpty_nil, List.isEmpty_cons, Option.map_some, Option.map_none, Option.bind_some, Option.bind_none, List.any_cons, List.any_nil, Bool.or_false, Bool.false_or, Bool.true_or, Bool.or_true, Bool.not_true, Bool.not_false, Bool.and_true, Bool.true_and, reduceIte, Bool.false_eq_true, decide_true, decide_false, decide_not, PL.e_ofl, PL.e_zip, PL.e_zip1, PL.zipD_tt, PL.zipD_ll, PL.zipD_lt, PL.zipD_tl, PL.zipC_1, PL.pairsL_c, PL.pairsL_0, PL.e_en, PL.e_en1, PL.enD_l, PL.enD_t, PL.e_disp, PL.e_mp, PL.e_mp1, PL.e_mp2, PL.e_mp3, PL.e_mp0, PL.key_i, PL.key_s, PL.e_disp1, PL.e_dispC, PL.idxG_d, PL.idxG_t, PL.idxG_l, PL.look_c, PL.look_0, Int.add_sub_cancel, Sum.inl.injEq, Sum.inr.injEq, reduceCtorEq, List.nodup_cons, List.nodup_nil, List.mem_cons, List.not_mem_nil, or_self, or_false, false_or, not_or, and_self, Nat.le_refl, PL.o_in, PL.o_nin, PL.in_t, PL.add_ll, PL.add_tt, PL.powOk_10, PL.e_sg, PL.in_l, PL.in_1, PL.f_non, PL.f_bl, PL.f_int, PL.f_str, List.all_cons, List.all_nil, PL.q_int, PL.q_str, PL.all_l, PL.any_l, PL.b_0, PL.b_1, PL.cut_0n, PL.cut_n0, PL.cut_00, PL.cut_nn, PL.rangeL_0, PL.rangeL_s, PL.e_fl, PL.e_ll, PL.str_inj, String.reduceEq, beq_iff_eq, id_eq, Bool.and_self, Bool.and_false, Bool.false_and, Int.reduceSub, Int.reduceAdd, Nat.reduceLT, Nat.reduceLeDiff, List.take_succ_cons, List.take_zero, List.drop_succ_cons, List.drop_zero, List.take_nil, List.drop_nil, Int.toNat_zero, Int.toNat_one, Int.reduceEq, Int.reduceGT, Int.reduceGE, Int.reduceNe, gt_iff_lt, Int.cast_ofNat_Int, Int.natCast_one, Int.natCast_zero, beq_self_eq_true, eq_self, decide_eq_true_eq, false_and, and_true, true_and, ne_eq, List.getElem?_set_self, List.length_set, PL.mod_ok, PL.div_ok, PL.mul_ok, PL.pow_ok, PL.divOk_s, Int.reduceLT, Int.reduceLE, Int.reducePow, Int.reduceNeg, Int.reduceToNat, not_true_eq_false, not_false_eq_true, List.set_set, PL.e_fG, PL.e_fG1, PL.e_fGl, PL.e_fGt, PL.e_fGr, PL.e_fGr1, PL.e_lcG, PL.e_lcG1, PL.e_lcG2, PL.e_lcGl, PL.e_lcGt, PL.e_lcGr, PL.e_lcGr1, PL.e_lcGN, PL.e_lcGN1, PL.e_lcN, PL.e_lcN1, PL.e_lcN2, PL.e_rep, PL.e_rep1, PL.e_rep2, PL.repL_one, PL.e_zipD, PL.e_zipD1, PL.e_enD, PL.e_enD1, PL.e_ofq, PL.e_forD, PL.e_forD1n, PL.itemsS_l, PL.itemsS_t, PL.eqGB_of, PL.neGB_of, PL.eqG_ii, PL.eqG_in, PL.eqG_ni, PL.eqG_nn, PL.eqG_bb, PL.ixN_last, PL.atI_last, PL.cut_0l, PL.e_appR, PL.e_appR1, PL.e_appR2, PL.e_appR3, PL.lstAt_e, PL.lstAtR_1, PL.appS_r, PL.appSR_1, PL.get_app0, PL.get_appk, PL.set_app0, PL.set_appk, PL.set_appl, PL.get_appl, PL.lstOf_r, PL.lstR_1, PL.o_tupr, PL.o_listr, PL.o_lenr, PL.o_slir, PL.o_maxl, PL.o_minl, PL.o_trur, PL.truR_1, PL.atI5, PL.itemsS_e, PL.itemsR_1, PL.enDD_e, PL.zipDD_e, PL.zipQ_1, PL.zipQC_1, PL.ixN_lastA, PL.set_lastA, PL.appU_1, PL.o_tyr, PL.tyR_1, PL.e_r3, PL.r3_ok, PL.e_gU, PL.e_ck, PL.e_ck1, PL.e_ck2, PL.permA_eq, PL.permC_1, PL.perm_0, PL.perm_c, Option.toList_some, List.singleton_append, PL.e_bltL, PL.e_bltL1, PL.e_bltL2, PL.e_bltN, PL.e_bltN1, PL.e_bltN2, PL.e_lc2i, PL.e_lc2i1, PL.e_lc2i2, PL.eqG_ss, PL.e_cat, PL.e_cat1, PL.e_cat2, PL.e_cat3, PL.e_get2, PL.e_get21, PL.e_get22, PL.e_get23, PL.o_get, PL.optGet_s, PL.optGet_n, PL.e_idl, PL.e_idl1, PL.e_idl2, PL.e_lcD, PL.e_lcD1n, PL.e_ext, PL.e_ext1, PL.e_ext2, PL.e_ext3, PL.extS_r, PL.extR_1, PL.o_min3, *])

namespace K45
open PySem PySem.Spec L2 PL
def Rng (S : Store) (n : Nat) (B : Int) : Prop := ∃ a m k, S[n]? = some (.lst [.int a, .int m, .int k]) ∧ 0 ≤ a ∧ 0 ≤ m ∧ m < 2147483647 ∧ 0 ≤ k ∧ k ≤ B
/-- nothing but cell n changes -/
def Frm (n : Nat) (S S' : Store) : Prop := S.length ≤ S'.length ∧ ∀ m, m < S.length → m ≠ n → S'[m]? = S[m]?
theorem Frm.refl {n : Nat} {S : Store} : Frm n S S := ⟨Nat.le_refl _, fun _ _ _ => rfl⟩
theorem Frm.trans {n : Nat} {S S1 S2 : Store} (a : Frm n S S1) (b : Frm n S1 S2) : Frm n S S2 :=
  ⟨Nat.le_trans a.1 b.1, fun m h1 h2 => by rw [b.2 m (Nat.lt_of_lt_of_le h1 a.1) h2, a.2 m h1 h2]⟩
theorem Frm.app {n : Nat} {S T : Store} : Frm n S (S ++ T) := ⟨by rw [List.length_append]; omega, fun m h _ => List.getElem?_append_left h⟩
theorem Frm.set {n : Nat} {S : Store} {c : Cell} : Frm n S (S.set n c) := ⟨by rw [List.length_set]; exact Nat.le_refl _, fun m _ h => List.getElem?_set_ne (Ne.symm h)⟩
theorem Frm.get {n m : Nat} {S S' : Store} {c : Cell} (f : Frm n S S') (h : S[m]? = some c) (hn : m ≠ n) : S'[m]? = some c := by
  rw [f.2 m (List.getElem?_eq_some_iff.mp h).1 hn, h]
theorem Frm.set_new {n m : Nat} {S S' : Store} {c : Cell} (h : Frm n S S') (hm : S.length ≤ m) : Frm n S (S'.set m c) :=
  ⟨by rw [List.length_set]; exact h.1, fun j h1 h2 => by rw [List.getElem?_set_ne (by omega), h.2 j h1 h2]⟩
theorem Rng.set_ne {n m : Nat} {S : Store} {B : Int} {c : Cell} (h : Rng S n B) (hn : m ≠ n) : Rng (S.set m c) n B := by
  obtain ⟨a, d, k, e, h⟩ := h
  exact ⟨a, d, k, by rw [List.getElem?_set_ne hn]; exact e, h⟩
theorem Rng.app {n : Nat} {S T : Store} {B : Int} (h : Rng S n B) : Rng (S ++ T) n B := by
  obtain ⟨a, c, k, e, h⟩ := h
  exact ⟨a, c, k, by rw [List.getElem?_append_left (List.getElem?_eq_some_iff.mp e).1]; exact e, h⟩
theorem Rng.lt {n : Nat} {S : Store} {B : Int} (h : Rng S n B) : n < S.length := by
  obtain ⟨a, c, k, e, h⟩ := h
  exact (List.getElem?_eq_some_iff.mp e).1
theorem Rng.le {n : Nat} {S : Store} {B B' : Int} (h : Rng S n B) (hb : B ≤ B') : Rng S n B' := by
  obtain ⟨a, c, k, e, h1, h2, h3, h4, h5⟩ := h
  exact ⟨a, c, k, e, h1, h2, h3, h4, by omega⟩
theorem pow_small {x : Int} (h1 : -(10 ^ 12) ≤ x) (h2 : x ≤ 10 ^ 12) : PowOk x 5 := by
  refine ⟨by decide, by decide, ?_⟩
  have e : (10 : Int) ^ 12 = 1000000000000 := by decide
  rw [e] at h1 h2
  omega
theorem source_spec {S : Store} {c : Int} : ∃ S', f_L_source [.int c] S = .ok (.ref S.length) S' ∧ Rng S' S.length 0 ∧ S'.length = S.length + 1 ∧ Frm S.length S S' := by
  have m1 : MulOk c (if 1000000000000000000 ≤ c then 1 else 0) := mulOk_r (by split <;> omega) (by split <;> omega)
  refine ⟨S ++ [.lst [.int (c * (if 1000000000000000000 ≤ c then 1 else 0)), .int (c % 2147483647), .int 0]], ?_, ⟨_, _, _, get_app, ?_, by omega, by omega, by omega, by omega⟩, by simp, .app⟩
  · unfold f_L_source b_L_source
    walk_at "evs"
  · split <;> omega
theorem take_spec {S : Store} {n : Nat} {B b : Int} (h : Rng S n B) (hB : B ≤ 1000000) (h0 : 0 < b) (hb : b ≤ 10 ^ 60) : ∃ r S', f_L_take [.ref n, .int b] S = .ok (.int r) S' ∧ 0 ≤ r ∧ r < b ∧ Rng S' n (B + 1) ∧ Frm n S S' := by
  obtain ⟨a, m, k, e, h1, h2, h3, h4, h5⟩ := h
  have hl := (List.getElem?_eq_some_iff.mp e).1
  have hd := divOk_s h0 hb
  by_cases ha : 0 < a
  · have : f_L_take [.ref n, .int b] S = .ok (.int (a % b)) (S.set n (.lst [.int (a / b), .int m, .int k])) := by
      unfold f_L_take b_L_take
      walk_at "evs"
    exact ⟨_, _, this, Int.emod_nonneg _ (by omega), Int.emod_lt_of_pos _ h0, ⟨a / b, m, k, get_set e, Int.ediv_nonneg h1 (by omega), h2, h3, h4, by omega⟩, .set⟩
  · have p1 : MulOk 7919 (k + 1) := mulOk_l (by decide) (by decide)
    have p2 : PowOk (m + 7919 * (k + 1) + 1) 5 := pow_small (by omega) (by omega)
    have : ∃ r, 0 ≤ r ∧ r < b ∧ f_L_take [.ref n, .int b] S = .ok (.int r) (S.set n (.lst [.int a, .int m, .int (k + 1)])) := by
      unfold f_L_take b_L_take
      walk_at "evs"
      generalize hx : (m + 7919 * (k + 1) + 1) ^ 5 % 2147483629 = x
      have x1 : 0 ≤ x := by omega
      have x2 : x < 2147483629 := by omega
      have p3 : MulOk x (x / 1009 + 69621 + (k + 1)) := mulOk_l (by omega) (by omega)
      walk_at "evs"
      generalize hy : x * (x / 1009 + 69621 + (k + 1)) % 2147483587 = y
      have y1 : 0 ≤ y := by omega
      have y2 : y < 2147483587 := by omega
      have p4 : MulOk y (y / 2003 + 40692) := mulOk_l (by omega) (by omega)
      walk_at "evs"
      exact ⟨_, Int.emod_nonneg _ (by omega), Int.emod_lt_of_pos _ h0, rfl⟩
    obtain ⟨r, r1, r2, r3⟩ := this
    exact ⟨r, _, r3, r1, r2, ⟨a, m, k + 1, get_set e, h1, h2, h3, by omega, by omega⟩, .set⟩
theorem pick3_spec {S : Store} {n : Nat} {B x y z : Int} (h : Rng S n B) (hB : B ≤ 1000000) : ∃ v S', f_L_pick [.ref n, .lst [.int x, .int y, .int z]] S = .ok (.int v) S' ∧ (v = x ∨ v = y ∨ v = z) ∧ Rng S' n (B + 1) ∧ Frm n S S' := by
  obtain ⟨r, S1, e, r0, r1, h1, f1⟩ := take_spec h hB (b := 3) (by decide) (by decide)
  have : r = 0 ∨ r = 1 ∨ r = 2 := by omega
  unfold f_L_pick b_L_pick
  rcases this with rfl | rfl | rfl
  · exact ⟨x, S1, by walk_at "evs", .inl rfl, h1, f1⟩
  · exact ⟨y, S1, by walk_at "evs", .inr (.inl rfl), h1, f1⟩
  · exact ⟨z, S1, by walk_at "evs", .inr (.inr rfl), h1, f1⟩
theorem pick2_spec {S : Store} {n : Nat} {B x y : Int} (h : Rng S n B) (hB : B ≤ 1000000) : ∃ v S', f_L_pick [.ref n, .lst [.int x, .int y]] S = .ok (.int v) S' ∧ (v = x ∨ v = y) ∧ Rng S' n (B + 1) ∧ Frm n S S' := by
  obtain ⟨r, S1, e, r0, r1, h1, f1⟩ := take_spec h hB (b := 2) (by decide) (by decide)
  have : r = 0 ∨ r = 1 := by omega
  unfold f_L_pick b_L_pick
  rcases this with rfl | rfl
  · exact ⟨x, S1, by walk_at "evs", .inl rfl, h1, f1⟩
  · exact ⟨y, S1, by walk_at "evs", .inr rfl, h1, f1⟩
end K45

namespace K45
open PySem PySem.Spec L2 PL
def ruleD (c e : String) (f : Bool) : D := .tup [.str c, .str e, .bl f]
def IsC (c : String) : Prop := c = "newer" ∨ c = "notolder" ∨ c = "digest"
def IsE (e : String) : Prop := e = "end" ∨ e = "start"
theorem require_rule_spec {S : Store} {c e : String} {f : Bool} (hc : IsC c) (he : IsE e) : f_require_rule [ruleD c e f] S = .ok .non S := by
  unfold f_require_rule b_require_rule ruleD
  rcases hc with rfl | rfl | rfl <;> rcases he with rfl | rfl <;> walk_at "evs"
end K45

namespace K45
open PySem PySem.Spec L2 PL
theorem is_between_spec {S : Store} {v l h : Int} (h1 : l ≤ v) (h2 : v ≤ h) : f_is_between [.int v, .int l, .int h] S = .ok (.bl true) S := by
  unfold f_is_between b_is_between f_is_integer b_is_integer
  walk_at "evs"
end K45

namespace K45
open PySem PySem.Spec L2 PL
theorem require_grain_spec {S : Store} {g : Int} (h1 : 1 ≤ g) (h2 : g ≤ 1000000000000000000) : f_require_grain [.int g] S = .ok .non S := by
  have := is_between_spec (S := S) h1 h2
  unfold f_require_grain b_require_grain
  walk_at "evs"
end K45

namespace K45
open PySem PySem.Spec L2 PL
def due (c e : String) (g b wr ed : Int) : Bool :=
  if c = "digest" then decide ((if e = "end" then wr else b) < ed)
  else if c = "newer" then decide ((if e = "end" then wr else b) / g < ed / g)
  else decide ((if e = "end" then wr else b) / g ≤ ed / g)
theorem is_due_spec {S : Store} {c e : String} {f : Bool} {g b wr ed : Int} (hc : IsC c) (he : IsE e) (h1 : 1 ≤ g) (h2 : g ≤ 1000000000000000000) : f_L_is_due [ruleD c e f, .int g, .int b, .int wr, .int ed] S = .ok (.bl (due c e g b wr ed)) S := by
  have hd : DivOk g := divOk_s (by omega) (Int.le_trans h2 (by decide))
  unfold f_L_is_due b_L_is_due ruleD due
  rcases hc with rfl | rfl | rfl <;> rcases he with rfl | rfl <;> walk_at "evs"
end K45

namespace K45
open PySem PySem.Spec L2 PL
def rulesD (f : Bool) : List D := [ruleD "newer" "end" f, ruleD "newer" "start" f, ruleD "notolder" "end" f, ruleD "notolder" "start" f, ruleD "digest" "end" f, ruleD "digest" "start" f]
theorem rules_mem {f : Bool} {d : D} (h : d ∈ rulesD f) : ∃ c e, d = ruleD c e f ∧ IsC c ∧ IsE e := by
  unfold rulesD at h
  simp only [List.mem_cons, List.not_mem_nil, or_false] at h
  rcases h with rfl | rfl | rfl | rfl | rfl | rfl <;> exact ⟨_, _, rfl, by unfold IsC; simp, by unfold IsE; simp⟩
theorem rules_spec {S : Store} {n : Nat} {B : Int} (h : Rng S n B) (hB : B ≤ 1000000) : ∃ f S', f_L_rules [.ref n] S = .ok (.lst (rulesD f)) S' ∧ Rng S' n (B + 1) ∧ Frm n S S' := by
  obtain ⟨r, S1, e, r0, r1, h1, f1⟩ := take_spec h hB (b := 2) (by decide) (by decide)
  refine ⟨decide (r = 0), S1, ?_, h1, f1⟩
  unfold f_L_rules b_L_rules rulesD ruleD
  walk_at "evs"
end K45

namespace K45
open PySem PySem.Spec L2 PL
def strD (a b : Int) : D := if a ≤ b then .tup [.int a, .int b] else .non
theorem stretch_spec {S : Store} {a b : Int} : f_stretch [.int a, .int b] S = .ok (strD a b) S := by
  unfold f_stretch b_stretch strD
  by_cases h : a ≤ b <;> walk_at "evs"
theorem first_spec {S : Store} {g m : Int} (h1 : 1 ≤ g) (h2 : g ≤ 1000000000000000000) : f_first_of [.int g, .int m] S = .ok (.int (m / g * g)) S := by
  have hd : DivOk g := divOk_s (by omega) (Int.le_trans h2 (by decide))
  have hm : MulOk (m / g) g := mulOk_r (by omega) (by omega)
  unfold f_first_of b_first_of
  walk_at "evs"
theorem last_spec {S : Store} {g m : Int} (h1 : 1 ≤ g) (h2 : g ≤ 1000000000000000000) : f_last_of_tick [.int g, .int m] S = .ok (.int (m / g * g + g - 1)) S := by
  have hd : DivOk g := divOk_s (by omega) (Int.le_trans h2 (by decide))
  have hm : MulOk (m / g) g := mulOk_r (by omega) (by omega)
  unfold f_last_of_tick b_last_of_tick
  walk_at "evs"
theorem rising_spec {S : Store} {x y z : D} {b r w : Int} (h0 : 0 ≤ b) (h1 : b ≤ r) (h2 : r ≤ w) (h3 : w ≤ 1000000000000000000) : f_require_rising [.tup [x, y, z], .tup [.int b, .int r, .int w]] S = .ok .non S := by
  have e1 : f_is_moment [.int b] S = .ok (.bl true) S := by
    have := is_between_spec (S := S) (l := 0) (v := b) (h := 1000000000000000000) (by omega) (by omega)
    unfold f_is_moment b_is_moment
    walk_at "evs"
  have e2 : f_is_moment [.int r] S = .ok (.bl true) S := by
    have := is_between_spec (S := S) (l := 0) (v := r) (h := 1000000000000000000) (by omega) (by omega)
    unfold f_is_moment b_is_moment
    walk_at "evs"
  have e3 : f_is_moment [.int w] S = .ok (.bl true) S := by
    have := is_between_spec (S := S) (l := 0) (v := w) (h := 1000000000000000000) (by omega) (by omega)
    unfold f_is_moment b_is_moment
    walk_at "evs"
  have n1 : ¬ b < 0 := by omega
  have n2 : ¬ r < b := by omega
  have n3 : ¬ w < r := by omega
  unfold f_require_rising b_require_rising
  walk_at "evs"
/-- the first edit that is due -/
def upD (c : String) (g m : Int) : Int := if c = "newer" then m / g * g + g else if c = "notolder" then m / g * g else m + 1
def mkD (e : String) (b w : Int) : Int := if e = "end" then w else b
def IsR (x : D) (c e : String) : Prop := x = .tup [.str c, .str e] ∨ ∃ f, x = .tup [.str c, .str e, .bl f]
theorem last_lost_spec {S : Store} {x : D} {c e : String} {g b r w : Int} (hx : IsR x c e) (hc : IsC c) (he : IsE e) (g1 : 1 ≤ g) (g2 : g ≤ 1000000000000000000) :
    f_last_lost [x, .int g, .int b, .int r, .int w] S = .ok (.int (if e = "start" ∧ c ≠ "newer" then r else upD c g (mkD e b w) - 1)) S := by
  have e1 := last_spec (S := S) (m := b) g1 g2
  have e2 := last_spec (S := S) (m := w) g1 g2
  have e3 := first_spec (S := S) (m := w) g1 g2
  unfold f_last_lost b_last_lost upD mkD
  rcases hx with rfl | ⟨f, rfl⟩
  · rcases hc with rfl | rfl | rfl <;> rcases he with rfl | rfl <;> walk_at "evs"
  · rcases hc with rfl | rfl | rfl <;> rcases he with rfl | rfl <;> walk_at "evs"
theorem up_start {c : String} {g b r : Int} (hc : IsC c) (h : c ≠ "newer") (hg : 1 ≤ g) (hr : b ≤ r) : upD c g b ≤ r + 1 := by
  have t1 := Int.ediv_mul_le b (show g ≠ 0 by omega)
  unfold upD
  rcases hc with rfl | rfl | rfl
  · exact (h rfl).elim
  · simp only [String.reduceEq, reduceIte]; omega
  · simp only [String.reduceEq, reduceIte]; omega
theorem strD_none {a b : Int} (h : b < a) : strD a b = .non := by unfold strD; rw [if_neg (by omega)]
theorem lostS_spec {S : Store} {x : D} {c e : String} {g b r w : Int} (hx : IsR x c e) (hc : IsC c) (he : IsE e) (g1 : 1 ≤ g) (g2 : g ≤ 1000000000000000000) (h1 : b ≤ r) :
    f_lost_stretch [x, .int g, .int b, .int r, .int w] S = .ok (strD (r + 1) (upD c g (mkD e b w) - 1)) S := by
  have k4 := last_lost_spec (S := S) (b := b) (r := r) (w := w) hx hc he g1 g2
  have k5 := stretch_spec (S := S) (a := r + 1) (b := if e = "start" ∧ c ≠ "newer" then r else upD c g (mkD e b w) - 1)
  have k6 : strD (r + 1) (if e = "start" ∧ c ≠ "newer" then r else upD c g (mkD e b w) - 1) = strD (r + 1) (upD c g (mkD e b w) - 1) := by
    by_cases h : e = "start" ∧ c ≠ "newer"
    · rw [if_pos h, strD_none (by omega)]
      have : upD c g (mkD e b w) ≤ r + 1 := by
        rw [h.1]
        exact up_start hc h.2 g1 h1
      rw [strD_none (by omega)]
    · rw [if_neg h]
  rw [k6] at k5
  generalize hx : (if e = "start" ∧ c ≠ "newer" then r else upD c g (mkD e b w) - 1) = x at k4 k5
  clear hx k6
  generalize strD (r + 1) (upD c g (mkD e b w) - 1) = y at k5 ⊢
  unfold f_lost_stretch b_lost_stretch
  walk_at "evs"
end K45

namespace K45
open PySem PySem.Spec L2 PL
theorem due_up {c e : String} {g b wr ed : Int} (hc : IsC c) (hg : 1 ≤ g) : due c e g b wr ed = decide (upD c g (mkD e b wr) ≤ ed) := by
  unfold due mkD
  generalize (if e = "end" then wr else b) = m
  unfold upD
  rcases hc with rfl | rfl | rfl
  · simp only [String.reduceEq, reduceIte]
    refine decide_eq_decide.mpr ?_
    rw [← Int.add_one_le_iff, Int.le_ediv_iff_mul_le (by omega), Int.add_mul]; omega
  · simp only [String.reduceEq, reduceIte]
    refine decide_eq_decide.mpr ?_
    rw [Int.le_ediv_iff_mul_le (by omega)]
  · simp only [String.reduceEq, reduceIte]
    exact decide_eq_decide.mpr (by omega)
theorem up_shift {c : String} {g m k : Int} (hg : 1 ≤ g) : upD c g (m + k * g) = upD c g m + k * g := by
  unfold upD
  rw [Int.add_mul_ediv_right _ _ (by omega), Int.add_mul]
  split
  · omega
  · split <;> omega
theorem up_nn {c : String} {g m : Int} (hg : 1 ≤ g) (hm : 0 ≤ m) : 0 ≤ upD c g m := by
  have := Int.mul_nonneg (Int.ediv_nonneg hm (show 0 ≤ g by omega)) (show 0 ≤ g by omega)
  unfold upD
  split
  · omega
  · split <;> omega
theorem up_le {c : String} {g m : Int} (hg : 1 ≤ g) : upD c g m ≤ m + g := by
  have := Int.ediv_mul_le m (show g ≠ 0 by omega)
  unfold upD
  split
  · omega
  · split <;> omega
/-- the numbers of a range that lie between two bounds -/
theorem filter_between : ∀ (n s a b : Nat), (List.range' s n).filter (fun i => decide (a ≤ i) && decide (i < b)) = List.range' (max s a) (min (s + n) b - max s a)
  | 0, s, a, b => by
    rw [List.range'_zero, List.filter_nil, show min (s + 0) b - max s a = 0 by omega]; rfl
  | n + 1, s, a, b => by
    rw [List.range'_succ]
    have ih := filter_between n (s + 1) a b
    by_cases h : a ≤ s ∧ s < b
    · rw [List.filter_cons_of_pos (by simp [h]), ih, show max (s + 1) a = s + 1 by omega, show max s a = s by omega,
        show min (s + (n + 1)) b - s = (min (s + 1 + n) b - (s + 1)) + 1 by omega, List.range'_succ]
    · rw [List.filter_cons_of_neg (by
        simp only [Bool.and_eq_true, decide_eq_true_eq]
        exact h), ih]
      by_cases h2 : a ≤ s
      · have : b ≤ s := by omega
        rw [show min (s + 1 + n) b - max (s + 1) a = 0 by omega, show min (s + (n + 1)) b - max s a = 0 by omega]; rfl
      · rw [show max (s + 1) a = max s a by omega, show s + 1 + n = s + (n + 1) by omega]
theorem strD_ok {a b : Int} : okD 60 (strD a b) = true := by
  unfold strD
  split <;> rfl
theorem filt_1 {N : Nat} {R U : Int} (hR : 0 ≤ R) (hU : 0 ≤ U) : ((List.range' 0 N).filter fun (i : Nat) => decide (R < (i : Int)) && !decide (U ≤ (i : Int))) = List.range' (R + 1).toNat (min N U.toNat - (R + 1).toNat) := by
  have h := filter_between N 0 (R + 1).toNat U.toNat
  rw [show max 0 (R + 1).toNat = (R + 1).toNat by omega, Nat.zero_add] at h
  rw [← h]
  refine List.filter_congr fun i _ => ?_
  have e1 : decide (R < (i : Int)) = decide ((R + 1).toNat ≤ i) := decide_eq_decide.mpr (by omega)
  have e2 : (!decide (U ≤ (i : Int))) = decide (i < U.toNat) := by
    rw [← decide_not]
    exact decide_eq_decide.mpr (by omega)
  rw [e1, e2]
theorem filt_2 {N : Nat} {R U : Int} (hR : 0 ≤ R) (hU : 0 ≤ U) : ((List.range' 0 N).filter fun (i : Nat) => decide ((i : Int) ≤ R) && decide (U ≤ (i : Int))) = List.range' U.toNat (min N (R + 1).toNat - U.toNat) := by
  have h := filter_between N 0 U.toNat (R + 1).toNat
  rw [show max 0 U.toNat = U.toNat by omega, Nat.zero_add] at h
  rw [← h]
  refine List.filter_congr fun i _ => ?_
  have e1 : decide ((i : Int) ≤ R) = decide (i < (R + 1).toNat) := decide_eq_decide.mpr (by omega)
  have e2 : decide (U ≤ (i : Int)) = decide (U.toNat ≤ i) := decide_eq_decide.mpr (by omega)
  rw [e1, e2, Bool.and_comm]
theorem range_as {N : Nat} : rangeL 0 N = (List.range' 0 N).map fun (i : Nat) => D.int (i : Int) := by
  unfold rangeL
  rw [List.range_eq_range']
  exact List.map_congr_left fun i _ => by rw [Int.zero_add]
theorem isR_rule {c e : String} {f : Bool} : IsR (ruleD c e f) c e := .inr ⟨f, rfl⟩
end K45

namespace K45
open PySem PySem.Spec L2 PL
theorem require_delays_spec {S : Store} {r w : Int} (h1 : 0 ≤ r) (h2 : r ≤ 1000000000000000000) (h3 : r ≤ w) (h5 : 1 ≤ w) (h4 : w ≤ 1000000000000000000) : f_require_delays [.int r, .int w] S = .ok .non S := by
  have e1 := is_between_spec (S := S) h1 h2
  have e2 := is_between_spec (S := S) (v := w) (l := if 1 > r then 1 else r) (by split <;> omega) h4
  unfold f_require_delays b_require_delays
  simp only [gt_iff_lt] at e2
  walk_at "evs"
end K45

namespace K45
open PySem PySem.Spec L2 PL
theorem require_moment_spec {S : Store} {d : D} {g : Int} (h1 : 0 ≤ g) (h2 : g ≤ 1000000000000000000) : f_require_moment [d, .int g] S = .ok .non S := by
  have := is_between_spec (S := S) h1 h2
  unfold f_require_moment b_require_moment f_is_moment b_is_moment
  walk_at "evs"
end K45

namespace K45
open PySem PySem.Spec L2 PL
/-- a, a + 1, .., n numbers -/
def ri (a : Int) : Nat → List Int
  | 0 => []
  | n + 1 => a :: ri (a + 1) n
theorem ri_len : ∀ (n : Nat) (a : Int), (ri a n).length = n
  | 0, a => rfl
  | n + 1, a => by rw [ri, List.length_cons, ri_len n]
theorem ri_get : ∀ (n : Nat) (a : Int) (k : Nat) (x : Int), (ri a n)[k]? = some x → k < n ∧ x = a + k
  | 0, a, k, x, h => by cases h
  | n + 1, a, 0, x, h => by
    rw [ri, List.getElem?_cons_zero] at h
    cases h
    exact ⟨by omega, by omega⟩
  | n + 1, a, k + 1, x, h => by
    rw [ri, List.getElem?_cons_succ] at h
    obtain ⟨h1, h2⟩ := ri_get n (a + 1) k x h
    exact ⟨by omega, by omega⟩
theorem ri_mem {n : Nat} {a x : Int} : x ∈ ri a n ↔ a ≤ x ∧ x < a + n := by
  induction n generalizing a with
  | zero =>
    rw [ri]
    exact ⟨fun h => (by cases h), fun h => by omega⟩
  | succ n ih => rw [ri, List.mem_cons, ih]; omega
theorem ri_range : ∀ (n : Nat) (a : Int), rangeL a n = (ri a n).map D.int
  | 0, a => rfl
  | n + 1, a => by rw [rangeL_s, ri_range n, ri, List.map_cons]
theorem ri_app : ∀ (n m : Nat) (a : Int), ri a n ++ ri (a + n) m = ri a (n + m)
  | 0, m, a => by rw [ri, List.nil_append, Nat.zero_add, show a + ((0 : Nat) : Int) = a by omega]
  | n + 1, m, a => by
    rw [ri, List.cons_append, show a + ((n + 1 : Nat) : Int) = a + 1 + n by omega, ri_app n m, show n + 1 + m = (n + m) + 1 by omega, ri]
theorem ri_shift : ∀ (n : Nat) (a b : Int), (ri a n).map (fun x => x - b) = ri (a - b) n
  | 0, a, b => rfl
  | n + 1, a, b => by rw [ri, List.map_cons, ri_shift n, ri, show a + 1 - b = a - b + 1 by omega]
theorem ri_last {n : Nat} {a : Int} (h : 0 < n) : ∃ L, ri a n = L ++ [a + n - 1] := by
  obtain ⟨m, rfl⟩ : ∃ m, n = m + 1 := ⟨n - 1, by omega⟩
  refine ⟨ri a m, ?_⟩
  rw [← ri_app m 1, ri, ri, show a + ((m + 1 : Nat) : Int) - 1 = a + m by omega]
/-- a .. b -/
def seg (a b : Int) : List Int := ri a (b + 1 - a).toNat
theorem seg_nil {a b : Int} (h : b < a) : seg a b = [] := by
  unfold seg
  rw [show (b + 1 - a).toNat = 0 by omega]; rfl
theorem seg_cons {a b : Int} (h : a ≤ b) : seg a b = a :: seg (a + 1) b := by
  unfold seg
  rw [show (b + 1 - a).toNat = (b + 1 - (a + 1)).toNat + 1 by omega]; rfl
theorem seg_app {a b c : Int} (h1 : a ≤ b + 1) (h2 : b ≤ c) : seg a b ++ seg (b + 1) c = seg a c := by
  unfold seg
  have := ri_app (b + 1 - a).toNat (c + 1 - (b + 1)).toNat a
  rw [show a + ((b + 1 - a).toNat : Int) = b + 1 by omega] at this
  rw [this, show (b + 1 - a).toNat + (c + 1 - (b + 1)).toNat = (c + 1 - a).toNat by omega]
theorem filt2 {x y z : Int} (h : x < y) : ∀ (n : Nat) (a : Int), (ri a n).filter (fun e => (decide (e ≤ x) || decide (y ≤ e)) && decide (e ≤ z)) =
    seg a (min (a + n - 1) (min x z)) ++ seg (max a y) (min (a + n - 1) z)
  | 0, a => by
    rw [ri, List.filter_nil, seg_nil (by omega), seg_nil (by omega)]; rfl
  | n + 1, a => by
    have ih := filt2 (z := z) h n (a + 1)
    rw [show a + 1 + (n : Int) - 1 = a + ((n + 1 : Nat) : Int) - 1 by omega] at ih
    rw [ri]
    by_cases hk : (a ≤ x ∨ y ≤ a) ∧ a ≤ z
    · rw [List.filter_cons_of_pos (by simp only [Bool.and_eq_true, Bool.or_eq_true, decide_eq_true_eq]; exact hk), ih]
      obtain ⟨hxy, hz⟩ := hk
      rcases hxy with hx | hy
      · rw [seg_cons (a := a) (by omega), show max (a + 1) y = max a y by omega]; rfl
      · rw [seg_nil (a := a) (by omega), seg_nil (a := a + 1) (by omega), List.nil_append, List.nil_append, show max (a + 1) y = a + 1 by omega, show max a y = a by omega, ← seg_cons (by omega)]
    · rw [List.filter_cons_of_neg (by simp only [Bool.and_eq_true, Bool.or_eq_true, decide_eq_true_eq]; exact hk), ih]
      by_cases hz : a ≤ z
      · have hxy : ¬ (a ≤ x ∨ y ≤ a) := fun q => hk ⟨q, hz⟩
        rw [seg_nil (a := a) (by omega), seg_nil (a := a + 1) (by omega), show max (a + 1) y = max a y by omega]
      · rw [seg_nil (a := a) (by omega), seg_nil (a := a + 1) (by omega), seg_nil (a := max a y) (by omega), seg_nil (a := max (a + 1) y) (by omega)]
/-- the stretches of edits that slip past the guard -/
def slp (r l A L : Int) : List (Int × Int) :=
  if r + 1 ≤ A then (if l + 1 ≤ L then (if l ≤ A then [(r + 1, L)] else [(r + 1, A), (l + 1, L)]) else [(r + 1, A)])
  else if l + 1 ≤ L then [(l + 1, L)] else []
def flatP (by_ : Int) (P : List (Int × Int)) : List Int := P.flatMap fun p => seg (p.1 - by_) (p.2 - by_)
theorem slp_shift {r l A L k : Int} : flatP k (slp (r + k) (l + k) (A + k) (L + k)) = flatP 0 (slp r l A L) := by
  unfold slp flatP
  have e1 : (r + k + 1 ≤ A + k) = (r + 1 ≤ A) := propext ⟨fun h => by omega, fun h => by omega⟩
  have e2 : (l + k + 1 ≤ L + k) = (l + 1 ≤ L) := propext ⟨fun h => by omega, fun h => by omega⟩
  have e3 : (l + k ≤ A + k) = (l ≤ A) := propext ⟨fun h => by omega, fun h => by omega⟩
  simp only [e1, e2, e3]
  split
  · split
    · split <;> simp only [List.flatMap_cons, List.flatMap_nil, List.append_nil, show r + k + 1 - k = r + 1 - 0 by omega, show A + k - k = A - 0 by omega, show L + k - k = L - 0 by omega, show l + k + 1 - k = l + 1 - 0 by omega]
    · simp only [List.flatMap_cons, List.flatMap_nil, List.append_nil, show r + k + 1 - k = r + 1 - 0 by omega, show A + k - k = A - 0 by omega]
  · split
    · simp only [List.flatMap_cons, List.flatMap_nil, List.append_nil, show L + k - k = L - 0 by omega, show l + k + 1 - k = l + 1 - 0 by omega]
    · rfl
theorem slp_flat {r l A L : Int} (hA : A ≤ l) (hr : r ≤ l) (hAL : A ≤ L) : flatP 0 (slp r l A L) = seg (r + 1) A ++ seg (l + 1) L := by
  unfold slp flatP
  by_cases h1 : r + 1 ≤ A
  · rw [if_pos h1]
    by_cases h2 : l + 1 ≤ L
    · rw [if_pos h2]
      by_cases h3 : l ≤ A
      · rw [if_pos h3]
        simp only [List.flatMap_cons, List.flatMap_nil, List.append_nil, Int.sub_zero]
        rw [show l = A by omega, seg_app (by omega) (by omega)]
      · rw [if_neg h3]
        simp only [List.flatMap_cons, List.flatMap_nil, List.append_nil, Int.sub_zero]
    · rw [if_neg h2, seg_nil (a := l + 1) (by omega)]
      simp only [List.flatMap_cons, List.flatMap_nil, List.append_nil, Int.sub_zero]
  · rw [if_neg h1, seg_nil (a := r + 1) (by omega)]
    by_cases h2 : l + 1 ≤ L
    · rw [if_pos h2]
      simp only [List.flatMap_cons, List.flatMap_nil, List.append_nil, Int.sub_zero, List.nil_append]
    · rw [if_neg h2, seg_nil (a := l + 1) (by omega)]; rfl
/-- the stretches rise, with gaps between -/
theorem slp_good {r l A L : Int} (hA : A ≤ l) (hr : r ≤ l) : (slp r l A L = [] ∨ (∃ p, slp r l A L = [p] ∧ p.1 ≤ p.2 ∧ r < p.1 ∧ p.2 ≤ max A L) ∨ ∃ p q, slp r l A L = [p, q] ∧ p.1 ≤ p.2 ∧ q.1 ≤ q.2 ∧ p.2 + 1 < q.1 ∧ r < p.1 ∧ q.2 ≤ max A L) := by
  unfold slp
  split
  · split
    · split
      · exact .inr (.inl ⟨_, rfl, by simp only; omega, by simp only; omega, by simp only; omega⟩)
      · exact .inr (.inr ⟨_, _, rfl, by simp only; omega, by simp only; omega, by simp only; omega, by simp only; omega, by simp only; omega⟩)
    · exact .inr (.inl ⟨_, rfl, by simp only; omega, by simp only; omega, by simp only; omega⟩)
  · split
    · exact .inr (.inl ⟨_, rfl, by simp only; omega, by simp only; omega, by simp only; omega⟩)
    · exact .inl rfl
end K45

namespace K45
open PySem PySem.Spec L2 PL
def pI (p : Int × Int) : D := .tup [.int p.1, .int p.2]
theorem pI_ok {n : Nat} {L : List (Int × Int)} : okL (n + 2) (L.map pI) = true := okL_map _ _ fun p _ => by unfold pI okD okL okD okL okD okL; rfl
theorem eqG_lnil {S : Store} {ds : List D} (h : okL 58 ds = true) : eqG S (.lst ds) (.lst []) = some ds.isEmpty := by
  rw [eqG_ok (by unfold okD; exact h) rfl]
  exact eq_nil (okL_le 58 59 _ h (by decide))
theorem is_moment_spec {S : Store} {b : Int} (h0 : 0 ≤ b) (h1 : b ≤ 1000000000000000000) : f_is_moment [.int b] S = .ok (.bl true) S := by
  have := is_between_spec (S := S) (l := 0) (v := b) (h := 1000000000000000000) h0 h1
  unfold f_is_moment b_is_moment
  walk_at "evs"
theorem rising4_spec {S : Store} {x y z u : D} {b r w l : Int} (h0 : 0 ≤ b) (h1 : b ≤ r) (h2 : r ≤ w) (h3 : w ≤ l) (h4 : l ≤ 1000000000000000000) :
    f_require_rising [.tup [x, y, z, u], .tup [.int b, .int r, .int w, .int l]] S = .ok .non S := by
  have e1 := is_moment_spec (S := S) (b := b) h0 (by omega)
  have e2 := is_moment_spec (S := S) (b := r) (by omega) (by omega)
  have e3 := is_moment_spec (S := S) (b := w) (by omega) (by omega)
  have e4 := is_moment_spec (S := S) (b := l) (by omega) (by omega)
  have n1 : ¬ b < 0 := by omega
  have n2 : ¬ r < b := by omega
  have n3 : ¬ w < r := by omega
  have n4 : ¬ l < w := by omega
  unfold f_require_rising b_require_rising
  walk_at "evs"
theorem joined0_spec {S : Store} : f_joined [.lst []] S = .ok (.ref S.length) (S ++ [.lst []]) := by
  unfold f_joined b_joined
  walk_at "evs"
theorem joined1_spec {S : Store} {a b : Int} : f_joined [.lst [.tup [.int a, .int b]]] S = .ok (.ref S.length) (S ++ [.lst [.tup [.int a, .int b]]]) := by
  have h0 : eqG (S ++ [.lst []]) (.ref S.length) (.lst []) = some true := eqG_nil get_app rfl
  unfold f_joined b_joined
  walk_at "evs"
theorem joined2_spec {S : Store} {a b c d : Int} : f_joined [.lst [.tup [.int a, .int b], .tup [.int c, .int d]]] S = .ok (.ref S.length) (S ++ [.lst (if c ≤ b + 1 then [.tup [.int a, .int (if b > d then b else d)]] else [.tup [.int a, .int b], .tup [.int c, .int d]])]) := by
  have h0 : eqG (S ++ [.lst []]) (.ref S.length) (.lst []) = some true := eqG_nil get_app rfl
  have h1 : eqG (S ++ [.lst [.tup [.int a, .int b]]]) (.ref S.length) (.lst []) = some false := eqG_nil get_app rfl
  have a1 : ∀ x : D, atI [x] (-1) = some x := fun x => atI_last (xs := [])
  have a2 : ixN 1 (-1) = some 0 := ixN_last
  unfold f_joined b_joined
  by_cases h : c ≤ b + 1
  · walk_at "evs"
  · walk_at "evs"
theorem guarded_spec {S : Store} {c e : String} {f : Bool} {g s r w l A L : Int} (hc : IsC c) (he : IsE e) (g1 : 1 ≤ g) (g2 : g ≤ 1000000000000000000) (h0 : 0 ≤ s) (h1 : s ≤ r) (h2 : r ≤ w) (h3 : w ≤ l) (h4 : l ≤ 1000000000000000000)
    (hL : (if e = "start" ∧ c ≠ "newer" then r else upD c g (mkD e r w) - 1) = L) (hA : (if s / g * g + g - 1 < (if l < L then l else L) then s / g * g + g - 1 else (if l < L then l else L)) = A) :
    f_guarded [ruleD c e f, .int g, .int s, .int r, .int w, .int l] S = .ok (.ref S.length) (S ++ [.lst ((slp r l A L).map pI)]) := by
  have k1 := require_rule_spec (S := S) (f := f) hc he
  have k2 := require_grain_spec (S := S) g1 g2
  have k3 := rising4_spec (S := S) (x := .str "seen") (y := .str "read") (z := .str "write") (u := .str "look") h0 h1 h2 h3 h4
  have k4 := last_lost_spec (S := S) (x := ruleD c e f) (b := r) (r := r) (w := w) isR_rule hc he g1 g2
  rw [hL] at k4
  have k5 := last_spec (S := S) (m := s) g1 g2
  have k6 := stretch_spec (S := S) (a := r + 1) (b := A)
  have k7 := stretch_spec (S := S) (a := l + 1) (b := L)
  have hAl : A ≤ l ∧ A ≤ L := by rw [← hA]; split <;> split <;> omega
  have j0 := joined0_spec (S := S)
  have j1 : ∀ a b, f_joined [.lst [.tup [.int a, .int b]]] S = _ := fun a b => joined1_spec (S := S)
  have j2 := joined2_spec (S := S) (a := r + 1) (b := A) (c := l + 1) (d := L)
  generalize ruleD c e f = R at *
  unfold slp
  unfold strD at k6 k7
  clear hL hc he g1 g2 h0 h1 h2 h3 h4
  generalize hM : s / g * g + g - 1 = M at *
  unfold f_guarded b_guarded
  have ha := Hide.mk hAl
  clear hAl hM
  by_cases q1 : r + 1 ≤ A
  · by_cases q2 : l + 1 ≤ L
    · have q4 : ¬ (L < A) := by have := ha.out; omega
      by_cases q3 : l ≤ A
      · have q5 : l + 1 ≤ A + 1 := by omega
        have hp : List.map pI [(r + 1, L)] = [.tup [.int (r + 1), .int L]] := rfl
        walk_at "evs"
      · have q5 : ¬ (l + 1 ≤ A + 1) := by omega
        have hp : List.map pI [(r + 1, A), (l + 1, L)] = [.tup [.int (r + 1), .int A], .tup [.int (l + 1), .int L]] := rfl
        walk_at "evs"
    · have hp : List.map pI [(r + 1, A)] = [.tup [.int (r + 1), .int A]] := rfl
      walk_at "evs"
  · by_cases q2 : l + 1 ≤ L
    · have hp : List.map pI [(l + 1, L)] = [.tup [.int (l + 1), .int L]] := rfl
      walk_at "evs"
    · walk_at "evs"
theorem slips_spec {S : Store} {c e : String} {f : Bool} {g s r w l t : Int} (hc : IsC c) (he : IsE e) (g1 : 1 ≤ g) (g2 : g ≤ 12) (h0 : 0 ≤ s) (h1 : s ≤ r) (h2 : r ≤ 1000) (h3 : 0 ≤ t) (h4 : t ≤ 1000) (hw : r ≤ w) (hl : r ≤ l) (hU : upD c g (mkD e r w) ≤ t) :
    f_L_slips [ruleD c e f, .int g, .int s, .int r, .int w, .int l, .int t] S = .ok (.lst ((seg (r + 1) (min (upD c g (mkD e r w) - 1) (min l (s / g * g + g - 1))) ++ seg (l + 1) (upD c g (mkD e r w) - 1)).map D.int)) S := by
  have hd : DivOk g := divOk_s (by omega) (by omega)
  have hdu : ∀ ed, f_L_is_due [ruleD c e f, .int g, .int r, .int w, .int ed] S = .ok (.bl (decide (upD c g (mkD e r w) ≤ ed))) S := fun ed => by
    rw [← due_up hc (by omega)]
    exact is_due_spec hc he (by omega) (by omega)
  have r2 : r2K (.ok [.int (r + 1), .int t] S) = _ := r2_ok (by omega) (by omega) (by omega) (by omega) (by omega)
  have key : ∀ ed : Int, s ≤ ed → (ed / g = s / g ↔ ed ≤ s / g * g + g - 1) := fun ed hs => by
    have q1 : s / g ≤ ed / g := Int.ediv_le_ediv (by omega) hs
    have q2 : ed / g < s / g + 1 ↔ ed < (s / g + 1) * g := Int.ediv_lt_iff_lt_mul (by omega)
    rw [Int.add_mul, Int.one_mul] at q2
    omega
  generalize upD c g (mkD e r w) = U at *
  generalize ruleD c e f = R at *
  generalize s / g * g + g - 1 = M at *
  unfold f_L_slips b_L_slips
  walk_at "evs"
  rw [ri_range]
  have hn : (t - (r + 1)).toNat ≤ 1000 := by omega
  generalize hN : (t - (r + 1)).toNat = N at *
  clear r2
  refine forL_toI (fun k σ S' => S' = S ∧ ∃ s8 s9, σ = [.val R, .val (.int g), .val (.int s), .val (.int r), .val (.int w), .val (.int l), .val (.int t), .uq ((((ri (r + 1) N).take k).filter (fun e => (decide (e ≤ min l M) || decide (l + 1 ≤ e)) && decide (e ≤ U - 1))).map D.int), s8, s9]) (fun z => runK (z.next _) = _) ⟨rfl, _, _, rfl⟩ (fun k d σ S' hk hp => ?_) (fun σ S' hp => ?_)
  · obtain ⟨rfl, s8, s9, rfl⟩ := hp
    rw [List.getElem?_map] at hk
    cases hx : (ri (r + 1) N)[k]? with
    | none => rw [hx] at hk; cases hk
    | some x =>
      rw [hx] at hk
      cases hk
      obtain ⟨x1, x2⟩ := ri_get _ _ _ _ hx
      have hlen : (((ri (r + 1) N).take k).filter (fun e => (decide (e ≤ min l M) || decide (l + 1 ≤ e)) && decide (e ≤ U - 1))).length ≤ 1000 := by
        refine Nat.le_trans (List.length_filter_le _ _) ?_
        rw [List.length_take]; omega
      rw [List.take_add_one, hx, Option.toList_some, List.filter_append, List.map_append]
      have hkx := key x (by omega)
      have hnl : (List.map D.int (((ri (r + 1) N).take k).filter (fun e => (decide (e ≤ min l M) || decide (l + 1 ≤ e)) && decide (e ≤ U - 1)))).length < 1000000 := by rw [List.length_map]; omega
      generalize List.map D.int (((ri (r + 1) N).take k).filter (fun e => (decide (e ≤ min l M) || decide (l + 1 ≤ e)) && decide (e ≤ U - 1))) = A at *
      clear hlen hx x1 hN hn key
      by_cases a1 : (x ≤ min l M ∨ l + 1 ≤ x) ∧ x ≤ U - 1
      · have hf : List.map D.int (List.filter (fun e => (decide (e ≤ min l M) || decide (l + 1 ≤ e)) && decide (e ≤ U - 1)) [x]) = [.int x] := by
          rw [List.filter_cons_of_pos (by simp only [Bool.and_eq_true, Bool.or_eq_true, decide_eq_true_eq]; exact a1)]; rfl
        rw [hf]
        have b2 : ¬ U ≤ x := by omega
        by_cases b1 : x ≤ l
        · have b3 : x / g = s / g := hkx.mpr (by omega)
          clear hf hkx a1 x2
          walk_at "evs"
          exact stp_nx ⟨rfl, _, _, rfl⟩
        · clear hf hkx a1 x2
          walk_at "evs"
          exact stp_nx ⟨rfl, _, _, rfl⟩
      · have hf : List.map D.int (List.filter (fun e => (decide (e ≤ min l M) || decide (l + 1 ≤ e)) && decide (e ≤ U - 1)) [x]) = [] := by
          rw [List.filter_cons_of_neg (by simp only [Bool.and_eq_true, Bool.or_eq_true, decide_eq_true_eq]; exact a1)]; rfl
        rw [hf, List.append_nil]
        by_cases b2 : U ≤ x
        · by_cases b1 : x ≤ l
          · by_cases b3 : x / g = s / g
            · clear hf hkx a1 x2
              walk_at "evs"
              exact stp_nx ⟨rfl, _, _, rfl⟩
            · clear hf hkx a1 x2
              walk_at "evs"
              exact stp_nx ⟨rfl, _, _, rfl⟩
          · clear hf hkx a1 x2
            walk_at "evs"
            exact stp_nx ⟨rfl, _, _, rfl⟩
        · have b1 : x ≤ l := by omega
          have b3 : ¬ x / g = s / g := fun z => by have := hkx.mp z; omega
          clear hf hkx a1 x2
          walk_at "evs"
          exact stp_nx ⟨rfl, _, _, rfl⟩
  · obtain ⟨rfl, s8, s9, rfl⟩ := hp
    rw [List.length_map, ri_len, List.take_of_length_le (by rw [ri_len]; omega), filt2 (by omega)]
    have e1 : min (r + 1 + (N : Int) - 1) (min (min l M) (U - 1)) = min (U - 1) (min l M) := by omega
    have e2 : max (r + 1) (l + 1) = l + 1 := by omega
    by_cases hz : r + 1 ≤ t
    · have e3 : min (r + 1 + (N : Int) - 1) (U - 1) = U - 1 := by omega
      rw [e1, e2, e3]
      walk_at "evs"
    · have e3 : seg (l + 1) (min (r + 1 + (N : Int) - 1) (U - 1)) = seg (l + 1) (U - 1) := by rw [seg_nil (by omega), seg_nil (by omega)]
      have e4 : seg (r + 1) (min (r + 1 + (N : Int) - 1) (min (min l M) (U - 1))) = seg (r + 1) (min (U - 1) (min l M)) := by rw [seg_nil (by omega), seg_nil (by omega)]
      rw [e2, e3, e4]
      walk_at "evs"
theorem flatP_app {by_ : Int} {P Q : List (Int × Int)} : flatP by_ (P ++ Q) = flatP by_ P ++ flatP by_ Q := by
  unfold flatP
  exact List.flatMap_append
theorem flatP_one {by_ : Int} {p : Int × Int} : flatP by_ [p] = seg (p.1 - by_) (p.2 - by_) := by
  unfold flatP
  rw [List.flatMap_cons, List.flatMap_nil, List.append_nil]
theorem seg_len {a b : Int} : (seg a b).length = (b + 1 - a).toNat := by unfold seg; exact ri_len _ _
theorem seg_last {a b : Int} (h : a ≤ b) : ∃ L, seg a b = L ++ [b] := by
  obtain ⟨L, hL⟩ := ri_last (n := (b + 1 - a).toNat) (a := a) (by omega)
  refine ⟨L, ?_⟩
  unfold seg
  rw [hL, show a + ((b + 1 - a).toNat : Int) - 1 = b by omega]
theorem listed_spec {S : Store} {m : Nat} {by_ r Z : Int} {P : List (Int × Int)} (hm : S[m]? = some (.lst (P.map pI))) (hb0 : 0 ≤ by_) (hb : by_ ≤ 1000000000000000000) (hr : 0 ≤ r) (hZ : Z ≤ r + 1000) (hr2 : r ≤ 1000000000000000000)
    (hP : P = [] ∨ (∃ p, P = [p] ∧ p.1 ≤ p.2 ∧ r < p.1 ∧ p.2 ≤ Z) ∨ ∃ p q, P = [p, q] ∧ p.1 ≤ p.2 ∧ q.1 ≤ q.2 ∧ p.2 + 1 < q.1 ∧ r < p.1 ∧ q.2 ≤ Z) :
    ∃ T, f_L_listed [.ref m, .int by_] S = .ok (.ref S.length) (S ++ .lst ((flatP by_ P).map D.int) :: T) := by
  have hlt := (List.getElem?_eq_some_iff.mp hm).1
  have hst : ∀ (k : Nat) (p : Int × Int), P[k]? = some p → p.1 ≤ p.2 ∧ r < p.1 ∧ p.2 ≤ Z ∧ (flatP by_ (P.take k) = [] ∨ ∃ L y, flatP by_ (P.take k) = L ++ [y] ∧ ¬ (p.1 ≤ y + by_ + 1)) ∧ (flatP by_ (P.take k)).length ≤ 2000 := fun k p hk => by
    rcases hP with rfl | ⟨a, rfl, a1, a2, a3⟩ | ⟨a, b, rfl, a1, a2, a3, a4, a5⟩
    · cases hk
    · match k, hk with
      | 0, hk =>
        cases hk
        exact ⟨a1, a2, a3, .inl rfl, by show (0 : Nat) ≤ 2000; decide⟩
    · match k, hk with
      | 0, hk =>
        cases hk
        exact ⟨a1, a4, by omega, .inl rfl, by show (0 : Nat) ≤ 2000; decide⟩
      | 1, hk =>
        have hkp : b = p := by simpa using hk
        subst hkp
        have e1 : flatP by_ (List.take 1 [a, b]) = seg (a.1 - by_) (a.2 - by_) := flatP_one
        rw [e1]
        obtain ⟨L, hL⟩ := seg_last (a := a.1 - by_) (b := a.2 - by_) (by omega)
        exact ⟨a2, by omega, a5, .inr ⟨L, _, hL, by omega⟩, by rw [seg_len]; omega⟩
  have hnil : ∀ (T : Store) (F : List Int), eqG (S ++ .lst (F.map D.int) :: T) (.ref S.length) (.lst []) = some (F.map D.int).isEmpty := fun T F => eqG_nil (by rw [get_app0]; rfl) okL_ints
  have comp : ∀ (a b : Int) (σ : Sls) (S : Store), (∃ s3 s4, σ = [.val (.ref m), .val (.int by_), s3, s4, .no, .no]) ∨ (∃ s2 s3 s4 s5, σ = [.val (.ref m), .val (.int by_), s2, s3, s4, s5]) → lcL (gN 5) mYes (mBin subD (mV 5) (mV 1)) σ (rangeL a (b + 1 - a).toNat) S = .ok ((seg (a - by_) (b - by_)).map D.int) S := fun a b σ S hσ => by
    rw [ri_range, lcL_map D.int (fun x => .int (x - by_)) (fun _ => true), List.filter_eq_self.mpr (fun _ _ => rfl)]
    · unfold seg
      rw [show b - by_ + 1 - (a - by_) = b + 1 - a by omega, ← ri_shift, List.map_map]; rfl
    · intro z hz
      rcases hσ with ⟨s3, s4, rfl⟩ | ⟨s2, s3, s4, s5, rfl⟩ <;> exact ⟨_, rfl, rfl, fun _ => rfl⟩
  unfold f_L_listed b_L_listed
  walk_at "evs"
  refine forR_to (fun k σ S' => ∃ T s3 s4 s5, S' = S ++ .lst ((flatP by_ (P.take k)).map D.int) :: T ∧ σ = [.val (.ref m), .val (.int by_), .val (.ref S.length), s3, s4, s5]) (fun z => ∃ T, runK (z.next _) = .ok _ (S ++ _ :: T)) ⟨[], _, _, _, rfl, rfl⟩ (fun i σ S' hp => ?_) (fun k d σ S' hk hp => ?_) (fun σ S' hp => ?_)
  · obtain ⟨T, s3, s4, s5, rfl, _⟩ := hp
    rw [List.getElem?_append_left hlt, hm]
  · obtain ⟨T, s3, s4, s5, rfl, rfl⟩ := hp
    rw [List.getElem?_map] at hk
    cases hx : P[k]? with
    | none => rw [hx] at hk; cases hk
    | some p =>
      rw [hx] at hk
      cases hk
      obtain ⟨p1, p2, p3, p4, p5⟩ := hst k p hx
      have e1 : flatP by_ (P.take (k + 1)) = flatP by_ (P.take k) ++ seg (p.1 - by_) (p.2 - by_) := by
        rw [List.take_add_one, hx, Option.toList_some, flatP_app, flatP_one]
      have q5 : (seg (p.1 - by_) (p.2 - by_)).length ≤ 2000 := by rw [seg_len]; omega
      have hn := hnil T (flatP by_ (P.take k))
      rw [e1]
      have cm := fun (σ : Sls) (S : Store) h => comp p.1 p.2 σ S h
      have r2 : ∀ S, r2K (.ok [.int p.1, .int (p.2 + 1)] S) = _ := fun S => r2_ok (by omega) (by omega) (by omega) (by omega) (by omega)
      have n1 : ¬ (p.2 < p.1) := by omega
      clear hst hnil comp hx hm e1 hP
      generalize flatP by_ (P.take k) = F at *
      generalize seg (p.1 - by_) (p.2 - by_) = G at *
      generalize hS1 : S ++ .lst (F.map D.int) :: T = S1 at *
      have h1 : S1[S.length]? = some (.lst (F.map D.int)) := by rw [← hS1, get_app0]; rfl
      have hl1 : S.length < S1.length := (List.getElem?_eq_some_iff.mp h1).1
      have hset : ∀ c, S1.set S.length c = S ++ c :: T := fun c => by rw [← hS1]; exact set_app0
      have hext : extR S.length (S1 ++ [Cell.lst (G.map D.int)]) (some (Cell.lst (F.map D.int))) (some (Cell.lst (G.map D.int))) = some ((S1 ++ [Cell.lst (G.map D.int)]).set S.length (Cell.lst (F.map D.int ++ G.map D.int))) := extR_1 (by simp only [List.length_map]; omega)
      have hfin : S1.set S.length (Cell.lst (F.map D.int ++ G.map D.int)) ++ [Cell.lst (G.map D.int)] = S ++ Cell.lst ((F ++ G).map D.int) :: (T ++ [Cell.lst (G.map D.int)]) := by
        rw [hset, List.map_append, List.append_assoc]; rfl
      have hgo : ∀ s3 s4 s5, Stp (fun σ S' => ∃ T s3 s4 s5, S' = S ++ Cell.lst ((F ++ G).map D.int) :: T ∧ σ = [.val (.ref m), .val (.int by_), .val (.ref S.length), s3, s4, s5]) (.nx [.val (.ref m), .val (.int by_), .val (.ref S.length), s3, s4, s5] (S1.set S.length (Cell.lst (F.map D.int ++ G.map D.int)) ++ [Cell.lst (G.map D.int)])) := fun s3 s4 s5 => stp_nx ⟨_, _, _, _, hfin, rfl⟩
      generalize (fun σ S' => ∃ T s3 s4 s5, S' = S ++ Cell.lst ((F ++ G).map D.int) :: T ∧ σ = [.val (.ref m), .val (.int by_), .val (.ref S.length), s3, s4, s5] : Sls → Store → Prop) = PP at *
      have hpp : pI p = .tup [.int p.1, .int p.2] := rfl
      rw [hpp]
      generalize p.1 = a at *
      generalize p.2 = b at *
      clear hset hfin hpp p1 p2 p3 p5 q5 hb0 hb hr hZ hr2 hS1
      have cm2 := cm [.val (.ref m), .val (.int by_), .val (.ref S.length), .val (.int a), .val (.int b), .no] S1 (.inr ⟨_, _, _, _, rfl⟩)
      have hgo' := Hide.mk hgo
      clear hgo cm
      rcases p4 with rfl | ⟨L, y, rfl, hy⟩
      · rw [show List.map D.int [] = [] from rfl] at hn h1 hext hgo'
        rw [List.nil_append] at hext hgo'
        walk_at "evs"
        exact hgo'.out _ _ _
      · rw [List.map_append] at *
        have hne : (List.map D.int L ++ List.map D.int [y]).isEmpty = false := by simp
        rw [hne] at hn
        have hmy : List.map D.int [y] = [.int y] := rfl
        rw [hmy] at h1 hext hgo'
        generalize List.map D.int L = L' at *
        clear hmy hne
        walk_at "evs"
        exact hgo'.out _ _ _
  · obtain ⟨T, s3, s4, s5, rfl, rfl⟩ := hp
    refine ⟨T, ?_⟩
    rw [List.length_map, List.take_of_length_le (Nat.le_refl _)]
    walk_at "evs"
end K45

namespace K45
open PySem PySem.Spec L2 PL
theorem rising3_spec {S : Store} {x y z : D} {b r w : Int} (h0 : 0 ≤ b) (h1 : b ≤ r) (h2 : r ≤ w) (h3 : w ≤ 1000000000000000000) : f_require_rising [.tup [x, y, z], .tup [.int b, .int r, .int w]] S = .ok .non S :=
  rising_spec h0 h1 h2 h3
theorem safe_look_spec {S : Store} {c e : String} {f : Bool} {g s r w U M : Int} (hc : IsC c) (he : IsE e) (g1 : 1 ≤ g) (g2 : g ≤ 1000000000000000000) (h0 : 0 ≤ s) (h1 : s ≤ r) (h2 : r ≤ w) (h3 : w ≤ 1000000000000000000)
    (hU : upD c g (mkD e r w) = U) (hM : s / g * g + g - 1 = M) :
    f_safe_look [ruleD c e f, .int g, .int s, .int r, .int w] S = .ok (if r + 1 ≤ U - 1 then (if M > r then .non else .int (if U - 1 > w then U - 1 else w)) else .int w) S := by
  have k1 := require_rule_spec (S := S) (f := f) hc he
  have k2 := require_grain_spec (S := S) g1 g2
  have k3 := rising3_spec (S := S) (x := .str "seen") (y := .str "read") (z := .str "write") h0 h1 h2 h3
  have k4 := lostS_spec (S := S) (x := ruleD c e f) (b := r) (r := r) (w := w) isR_rule hc he g1 g2 (Int.le_refl _)
  have k5 := last_spec (S := S) (m := s) g1 g2
  rw [hU] at k4
  rw [hM] at k5
  unfold strD at k4
  generalize ruleD c e f = R at *
  clear hU hM hc he
  unfold f_safe_look b_safe_look
  by_cases q1 : r + 1 ≤ U - 1
  · by_cases q2 : r < M
    · walk_at "evs"
    · walk_at "evs"
  · walk_at "evs"
theorem filt1 {z : Int} : ∀ (n : Nat) (a : Int), (ri a n).filter (fun e => decide (e ≤ z)) = seg a (min (a + n - 1) z)
  | 0, a => by
    rw [ri, List.filter_nil, seg_nil (by omega)]
  | n + 1, a => by
    have ih := filt1 (z := z) n (a + 1)
    rw [show a + 1 + (n : Int) - 1 = a + ((n + 1 : Nat) : Int) - 1 by omega] at ih
    rw [ri]
    by_cases hk : a ≤ z
    · rw [List.filter_cons_of_pos (by simp only [decide_eq_true_eq]; exact hk), ih, seg_cons (a := a) (by omega)]
    · rw [List.filter_cons_of_neg (by simp only [decide_eq_true_eq]; exact hk), ih, seg_nil (by omega), seg_nil (by omega)]
theorem seg_empty {a b : Int} : (seg a b).isEmpty = decide (b < a) := by
  by_cases h : b < a
  · rw [seg_nil h, decide_eq_true h]; rfl
  · rw [seg_cons (by omega), decide_eq_false h]; rfl
/-- the looks that are not safe -/
def badL (r w U M : Int) (N : Nat) : List Int := if r + 1 ≤ U - 1 then (if r + 1 ≤ M then ri w N else seg w (U - 2)) else []
theorem bad_is {r w U M : Int} {N : Nat} (hr : r ≤ w) (hU : U ≤ w + N) :
    (ri w N).filter (fun one => !(seg (r + 1) (min (U - 1) (min one M)) ++ seg (one + 1) (U - 1)).isEmpty) = badL r w U M N := by
  have hp : ∀ one ∈ ri w N, (!(seg (r + 1) (min (U - 1) (min one M)) ++ seg (one + 1) (U - 1)).isEmpty) = decide (r + 1 ≤ U - 1 ∧ (r + 1 ≤ M ∨ one ≤ U - 2)) := fun one h => by
    obtain ⟨a, b⟩ := ri_mem.mp h
    have hap : ∀ (a b : List Int), (a ++ b).isEmpty = (a.isEmpty && b.isEmpty) := fun a b => by cases a <;> rfl
    rw [hap, seg_empty, seg_empty, ← Bool.decide_and, ← decide_not]
    exact decide_eq_decide.mpr (by omega)
  rw [List.filter_congr hp]
  unfold badL
  by_cases q1 : r + 1 ≤ U - 1
  · rw [if_pos q1]
    by_cases q2 : r + 1 ≤ M
    · rw [if_pos q2]
      exact List.filter_eq_self.mpr fun x _ => decide_eq_true ⟨q1, .inl q2⟩
    · rw [if_neg q2, List.filter_congr (q := fun e => decide (e ≤ U - 2)) (fun x _ => decide_eq_decide.mpr ⟨fun h => by omega, fun h => ⟨q1, .inr h⟩⟩), filt1]
      by_cases q3 : w ≤ U - 2
      · rw [show min (w + (N : Int) - 1) (U - 2) = U - 2 by omega]
      · rw [seg_nil (by omega), seg_nil (by omega)]
  · rw [if_neg q1]
    exact List.filter_eq_nil_iff.mpr fun x _ => by simp only [decide_eq_true_eq]; exact fun h => q1 h.1
theorem slp_same {c e : String} {g r w l L M U : Int} (hc : IsC c) (g1 : 1 ≤ g) (hr : r ≤ w) (hl : w ≤ l) (hU : upD c g (mkD e r w) = U) (hL : (if e = "start" ∧ c ≠ "newer" then r else U - 1) = L) :
    flatP 0 (slp r l (if M < (if l < L then l else L) then M else (if l < L then l else L)) L) = seg (r + 1) (min (U - 1) (min l M)) ++ seg (l + 1) (U - 1) := by
  have hA : (if M < (if l < L then l else L) then M else (if l < L then l else L)) = min (min l M) L := by split <;> split <;> omega
  rw [hA, slp_flat (by omega) (by omega) (by omega)]
  by_cases h : e = "start" ∧ c ≠ "newer"
  · rw [if_pos h] at hL
    have := up_start (g := g) hc h.2 g1 (Int.le_refl r)
    have hm : mkD e r w = r := by unfold mkD; rw [h.1, if_neg (by decide)]
    rw [hm] at hU
    subst hL
    rw [seg_nil (a := r + 1) (by omega), seg_nil (a := r + 1) (by omega), seg_nil (a := l + 1) (by omega), seg_nil (a := l + 1) (by omega)]
  · rw [if_neg h] at hL
    subst hL
    rw [show min (min l M) (U - 1) = min (U - 1) (min l M) by omega]
theorem mkD_shift {e : String} {r w k : Int} : mkD e (r + k) (w + k) = mkD e r w + k := by unfold mkD; split <;> rfl
end K45

namespace K45
open PySem PySem.Spec L2 PL
theorem guard_spec {S : Store} {n : Nat} {B : Int} (h : Rng S n B) (hB : B ≤ 900000) : ∃ S', f_L_guard_right [.ref n] S = .ok (.bl true) S' ∧ Rng S' n (B + 11) := by
  obtain ⟨g, S1, e1, g0, g1, h1, _⟩ := take_spec h (by omega) (b := 12) (by decide) (by decide)
  obtain ⟨s, S2, e2, s0, s1, h2, _⟩ := take_spec h1 (by omega) (b := 20) (by decide) (by decide)
  obtain ⟨x3, S3, e3, x30, x31, h3, _⟩ := take_spec h2 (by omega) (b := 12) (by decide) (by decide)
  obtain ⟨x4, S4, e4, x40, x41, h4, _⟩ := take_spec h3 (by omega) (b := 30) (by decide) (by decide)
  obtain ⟨v5, S5, e5, v50, h5, _⟩ := pick3_spec h4 (by omega) (x := 0) (y := x3) (z := x4)
  obtain ⟨x6, S6, e6, x60, x61, h6, _⟩ := take_spec h5 (by omega) (b := 15) (by decide) (by decide)
  obtain ⟨v7, S7, e7, v70, h7, _⟩ := pick2_spec h6 (by omega) (x := 0) (y := x6)
  obtain ⟨x8, S8, e8, x80, x81, h8, _⟩ := take_spec h7 (by omega) (b := 20) (by decide) (by decide)
  obtain ⟨v9, S9, e9, v90, h9, _⟩ := pick2_spec h8 (by omega) (x := 0) (y := x8)
  obtain ⟨k, S10, e10, k0, h10, _⟩ := pick3_spec h9 (by omega) (x := 0) (y := 1000000000) (z := 10000000000000000)
  obtain ⟨f, S11, e11, h11, _⟩ := rules_spec h10 (by omega)
  have hk : 0 ≤ k ∧ k ≤ 10000000000000000 := by omega
  have hv5 : 0 ≤ v5 ∧ v5 ≤ 30 := by omega
  have hv7 : 0 ≤ v7 ∧ v7 ≤ 15 := by omega
  have hv9 : 0 ≤ v9 ∧ v9 ≤ 20 := by omega
  clear k0 v50 v70 v90 x30 x31 x40 x41 x60 x61 x80 x81 h h1 h2 h3 h4 h5 h6 h7 h8 h9 h10
  rw [show B + 1 + 1 + 1 + 1 + 1 + 1 + 1 + 1 + 1 + 1 + 1 = B + 11 by omega] at h11
  have hm1 : MulOk k (1 + g) := mulOk_r (by omega) (by omega)
  have hm2 : MulOk 2 (1 + g) := mulOk_l (by decide) (by decide)
  unfold f_L_guard_right b_L_guard_right
  walk_at "evs"
  clear e1 e2 e3 e4 e5 e6 e7 e8 e9 e10 e11
  have hG : 1 ≤ 1 + g ∧ 1 + g ≤ 12 := by omega
  generalize 1 + g = G at *
  have hby : 0 ≤ k * G ∧ k * G ≤ 120000000000000000 := by
    have q1 : k * G ≤ 10000000000000000 * 12 := Int.mul_le_mul hk.2 hG.2 (by omega) (by decide)
    exact ⟨Int.mul_nonneg hk.1 (by omega), by omega⟩
  generalize hr : s + v5 = r at *
  generalize hw : r + v7 = w at *
  generalize hl : w + v9 = l at *
  have hb1 : 0 ≤ s ∧ s ≤ r ∧ r ≤ w ∧ w ≤ l ∧ l ≤ 200 := by omega
  clear hr hw hl hv5 hv7 hv9 s0 s1 hm1
  refine forL_to (fun σ S' => (∃ s8 s9 s10 s11 s12 s13, σ = [.val (.ref n), .val (.int G), .val (.int s), .val (.int r), .val (.int w), .val (.int l), .val (.int (k * G)), .val (.int (l + 2 * G + 2)), s8, s9, s10, s11, s12, s13]) ∧ Rng S' n (B + 11)) (fun z => ∃ S', runK (z.next _) = .ok (.bl true) S' ∧ Rng S' n (B + 11)) ⟨⟨_, _, _, _, _, _, rfl⟩, h11⟩ (fun d σ S' hd hp => ?_) (fun σ S' hp => ?_)
  · obtain ⟨⟨s8, s9, s10, s11, s12, s13, rfl⟩, hR⟩ := hp
    obtain ⟨c, e, rfl, hc, he⟩ := rules_mem hd
    clear hd h11
    generalize hU : upD c G (mkD e r w) = U
    generalize hM : s / G * G + G - 1 = M
    generalize hL : (if e = "start" ∧ c ≠ "newer" then r else U - 1) = L
    generalize hA : (if M < (if l < L then l else L) then M else (if l < L then l else L)) = A
    have hU1 : U ≤ w + G ∧ 0 ≤ U := by
      have q1 := up_le (c := c) (g := G) (m := mkD e r w) (by omega)
      have q2 := up_nn (c := c) (g := G) (m := mkD e r w) (by omega) (by unfold mkD; split <;> omega)
      have : mkD e r w ≤ w := by unfold mkD; split <;> omega
      omega
    have hUk : upD c G (mkD e (r + k * G) (w + k * G)) = U + k * G := by rw [mkD_shift, up_shift (by omega), hU]
    have hMk : (s + k * G) / G * G + G - 1 = M + k * G := by
      rw [Int.add_mul_ediv_right _ _ (by omega), Int.add_mul, ← hM]; omega
    have hLk : (if e = "start" ∧ c ≠ "newer" then r + k * G else upD c G (mkD e (r + k * G) (w + k * G)) - 1) = L + k * G := by
      rw [hUk, ← hL]; split <;> omega
    have hAk : (if (s + k * G) / G * G + G - 1 < (if l + k * G < L + k * G then l + k * G else L + k * G) then (s + k * G) / G * G + G - 1 else (if l + k * G < L + k * G then l + k * G else L + k * G)) = A + k * G := by
      rw [hMk, ← hA]
      split <;> split <;> split <;> split <;> omega
    have hAl : A ≤ l ∧ A ≤ L := by rw [← hA]; split <;> split <;> omega
    have q1 := guarded_spec (S := S') (f := f) hc he hG.1 (by omega) (s := s + k * G) (r := r + k * G) (w := w + k * G) (l := l + k * G) (by omega) (by omega) (by omega) (by omega) (by omega) hLk hAk
    have hLl : L ≤ l + 200 := by rw [← hL]; split <;> omega
    obtain ⟨T, q2⟩ := listed_spec (S := S' ++ [.lst ((slp (r + k * G) (l + k * G) (A + k * G) (L + k * G)).map pI)]) (m := S'.length) (by_ := k * G) (r := r + k * G) (Z := max (A + k * G) (L + k * G)) get_app (by omega) (by omega) (by omega) (by omega) (by omega) (slp_good (by omega) (by omega))
    rw [slp_shift, ← hA, slp_same (L := L) hc hG.1 (by omega) (by omega) hU hL, hA] at q2
    have q3 : ∀ S, f_L_slips [ruleD c e f, .int G, .int s, .int r, .int w, .int l, .int (l + 2 * G + 2)] S = .ok (.lst ((seg (r + 1) (min (U - 1) (min l M)) ++ seg (l + 1) (U - 1)).map D.int)) S := fun S => by
      rw [← hU, ← hM]
      exact slips_spec hc he hG.1 hG.2 (by omega) (by omega) (by omega) (by omega) (by omega) (by omega) (by omega) (by rw [hU]; omega)
    have q4 : ∀ (S : Store) (one : Int), w ≤ one → one ≤ 500 → f_L_slips [ruleD c e f, .int G, .int s, .int r, .int w, .int one, .int (w + 2 * G + 1)] S = .ok (.lst ((seg (r + 1) (min (U - 1) (min one M)) ++ seg (one + 1) (U - 1)).map D.int)) S := fun S one o1 o2 => by
      rw [← hU, ← hM]
      exact slips_spec hc he hG.1 hG.2 (by omega) (by omega) (by omega) (by omega) (by omega) (by omega) (by omega) (by rw [hU]; omega)
    have q5 : ∀ S, f_safe_look [ruleD c e f, .int G, .int (s + k * G), .int (r + k * G), .int (w + k * G)] S = _ := fun S => safe_look_spec (S := S) (f := f) hc he hG.1 (by omega) (s := s + k * G) (r := r + k * G) (w := w + k * G) (by omega) (by omega) (by omega) (by omega) hUk hMk
    have q6 := bad_is (r := r) (w := w) (U := U) (M := M) (N := (2 * G).toNat) (by omega) (by omega)
    have r2 : ∀ S, r2K (.ok [.int w, .int (w + 2 * G)] S) = _ := fun S => r2_ok (by omega) (by omega) (by omega) (by omega) (by omega)
    have hX : okL 40 ((seg (r + 1) (min (U - 1) (min l M)) ++ seg (l + 1) (U - 1)).map D.int) = true := okL_ints
    have hXn : ∀ S (X : List Int), eqG S (.lst (X.map D.int)) (.lst []) = some X.isEmpty := fun S X => by rw [eqG_lnil okL_ints]; cases X <;> rfl
    have hR1 : Rng (S' ++ [.lst ((slp (r + k * G) (l + k * G) (A + k * G) (L + k * G)).map pI)]) n (B + 11) := hR.app
    have hPl : ((slp (r + k * G) (l + k * G) (A + k * G) (L + k * G)).map pI).length < 1000000 := by
      rw [List.length_map]
      rcases slp_good (r := r + k * G) (l := l + k * G) (A := A + k * G) (L := L + k * G) (by omega) (by omega) with q | ⟨p, q, _⟩ | ⟨p, p', q, _⟩ <;> rw [q] <;> simp only [List.length_cons, List.length_nil] <;> omega
    generalize (slp (r + k * G) (l + k * G) (A + k * G) (L + k * G)).map pI = Y at *
    generalize hXe : (seg (r + 1) (min (U - 1) (min l M)) ++ seg (l + 1) (U - 1)).map D.int = X at *
    generalize hS1 : S' ++ [Cell.lst Y] = S1 at *
    have hl1 : S1.length = S'.length + 1 := by rw [← hS1]; simp
    have hc1 : S1[S'.length]? = some (.lst Y) := by rw [← hS1]; exact get_app
    have hc2 : (S1 ++ Cell.lst X :: T)[S1.length]? = some (.lst X) := by rw [get_app0]; rfl
    have hc3 : (S1 ++ Cell.lst X :: T)[S'.length]? = some (.lst Y) := by rw [get_appl (by omega)]; exact hc1
    have q7 : eqG (S1 ++ Cell.lst X :: T) (.ref S1.length) (.lst X) = some true := eqG_cell hc2 hX
    have hfr : Rng ((S1 ++ Cell.lst X :: T).set S'.length (.lst (Y ++ [.non]))) n (B + 11) := (hR1.app).set_ne (by have := hR.lt; omega)
    clear hR hR1 hS1 hX hUk hMk hLk hAk hAl hLl hA hL hc1 hl1 hc2
    generalize hS2 : S1 ++ Cell.lst X :: T = S2 at *
    generalize S1.length = m1 at *
    generalize S'.length = m0 at *
    have hgo : ∀ s8 s9 s10 s11 s12 s13, Stp (fun σ S' => (∃ s8 s9 s10 s11 s12 s13, σ = [.val (.ref n), .val (.int G), .val (.int s), .val (.int r), .val (.int w), .val (.int l), .val (.int (k * G)), .val (.int (l + 2 * G + 2)), s8, s9, s10, s11, s12, s13]) ∧ Rng S' n (B + 11)) (.nx [.val (.ref n), .val (.int G), .val (.int s), .val (.int r), .val (.int w), .val (.int l), .val (.int (k * G)), .val (.int (l + 2 * G + 2)), s8, s9, s10, s11, s12, s13] (S2.set m0 (.lst (Y ++ [.non])))) := fun s8 s9 s10 s11 s12 s13 => stp_nx ⟨⟨_, _, _, _, _, _, rfl⟩, hfr⟩
    generalize (fun σ S' => (∃ s8 s9 s10 s11 s12 s13, σ = [.val (.ref n), .val (.int G), .val (.int s), .val (.int r), .val (.int w), .val (.int l), .val (.int (k * G)), .val (.int (l + 2 * G + 2)), s8, s9, s10, s11, s12, s13]) ∧ Rng S' n (B + 11) : Sls → Store → Prop) = PP at *
    have hgo' := Hide.mk hgo
    clear hgo hfr
    have q8 := Hide.mk q5
    have q9 := Hide.mk (And.intro hU1 (And.intro hG hb1))
    have q6' := Hide.mk q6
    have q4' := Hide.mk q4
    clear q5 hU1 hG hb1 q6 q4 hU hM hXe hS2 hm2
    generalize ruleD c e f = Rl at *
    have hm3 : MulOk 2 G := mulOk_l (by decide) (by decide)
    walk_at "evs"
    have q9a := q9.out
    rw [show (w + 2 * G - w).toNat = (2 * G).toNat by omega, ri_range, lcL_map D.int D.int (fun one => !(seg (r + 1) (min (U - 1) (min one M)) ++ seg (one + 1) (U - 1)).isEmpty) (ri w (2 * G).toNat), q6'.out]
    · clear q6' q4' q3 q2 q1 q7 hc3 r2 hPl
      generalize S2.set m0 (.lst (Y ++ [.non])) = S3 at *
      have hsl := q8.out S3
      have hlast : ∀ (L : List Int) (y : Int) (S : Store), eqG S (.lst (L.map D.int ++ [.int y])) (.lst []) = some false := fun L y S => by
        have := hXn S (L ++ [y])
        rw [List.map_append] at this
        rw [show [D.int y] = [y].map D.int from rfl, this]
        cases L <;> rfl
      have hmap : ∀ (L : List Int) (y : Int), (L ++ [y]).map D.int = L.map D.int ++ [.int y] := fun L y => by rw [List.map_append]; rfl
      have hnil : ∀ S : Store, eqG S (.lst []) (.lst []) = some true := fun S => hXn S []
      clear hXn q8
      unfold badL
      by_cases a1 : r + 1 ≤ U - 1
      · rw [if_pos a1]
        rw [if_pos (by omega)] at hsl
        by_cases a2 : r + 1 ≤ M
        · rw [if_pos a2]
          rw [if_pos (by omega)] at hsl
          obtain ⟨L, hL⟩ := ri_last (n := (2 * G).toNat) (a := w) (by omega)
          rw [hL, show w + ((2 * G).toNat : Int) - 1 = w + 2 * G - 1 by omega, hmap]
          have hla := hlast L (w + 2 * G - 1)
          generalize List.map D.int L = L' at *
          clear hlast hmap hL q9 q9a
          walk_at "evs"
          exact hgo'.out _ _ _ _ _ _
        · rw [if_neg a2]
          rw [if_neg (by omega)] at hsl
          by_cases a3 : w ≤ U - 2
          · rw [if_pos (by omega), show U + k * G - 1 = U - 2 + 1 + k * G by omega] at hsl
            obtain ⟨L, hL⟩ := seg_last (a := w) (b := U - 2) a3
            rw [hL, hmap]
            have hla := hlast L (U - 2)
            generalize List.map D.int L = L' at *
            have hne : ¬ (U - 2 = w + 2 * G - 1) := by omega
            clear hlast hmap hL q9 q9a
            walk_at "evs"
            exact hgo'.out _ _ _ _ _ _
          · rw [if_neg (by omega)] at hsl
            rw [seg_nil (by omega), show List.map D.int [] = [] from rfl]
            clear hlast hmap q9 q9a
            walk_at "evs"
            exact hgo'.out _ _ _ _ _ _
      · rw [if_neg a1]
        rw [if_neg (by omega)] at hsl
        rw [show List.map D.int [] = [] from rfl]
        clear hlast hmap q9 q9a
        walk_at "evs"
        exact hgo'.out _ _ _ _ _ _
    · intro z hz
      obtain ⟨z1, z2⟩ := ri_mem.mp hz
      have q4 := q4'.out (S2.set m0 (.lst (Y ++ [.non]))) z (by omega) (by omega)
      have hx := hXn (S2.set m0 (.lst (Y ++ [.non]))) (seg (r + 1) (min (U - 1) (min z M)) ++ seg (z + 1) (U - 1))
      refine ⟨_, rfl, ?_, fun _ => rfl⟩
      generalize seg (r + 1) (min (U - 1) (min z M)) ++ seg (z + 1) (U - 1) = Q at *
      generalize S2.set m0 (.lst (Y ++ [.non])) = S3 at *
      clear hXn q6' q4' q3 q2 q1 q7 hc3 r2 hPl hgo' q8 q9 q9a hz z1 z2
      walk_at "evs"
  · obtain ⟨⟨s8, s9, s10, s11, s12, s13, rfl⟩, hR⟩ := hp
    walk_at "evs"
    exact ⟨_, rfl, hR⟩
end K45

namespace K45
open PySem PySem.Spec L2 PL
/-- the least number of which P holds -/
theorem least {P : Nat → Prop} : ∀ n, P n → ∃ k, k ≤ n ∧ P k ∧ ∀ j, j < k → ¬ P j
  | 0, h => ⟨0, Nat.le_refl _, h, fun j hj => by omega⟩
  | n + 1, h => by
    by_cases hb : ∃ m, m ≤ n ∧ P m
    · obtain ⟨m, hm, hp⟩ := hb
      obtain ⟨k, k1, k2, k3⟩ := least m hp
      exact ⟨k, by omega, k2, k3⟩
    · exact ⟨n + 1, Nat.le_refl _, h, fun j hj hp => hb ⟨j, by omega, hp⟩⟩
/-- the last of the rising numbers that is at most t, 0 if there is none -/
def lastE (E : List Int) (t : Int) : Int := ((E.filter fun e => decide (e ≤ t)).getLast?).getD 0
def stE (g : Int) (E : List Int) (t : Int) : Int := lastE E t / g * g
def Rise (E : List Int) : Prop := E.Pairwise (· < ·) ∧ ∀ e ∈ E, 0 ≤ e ∧ e ≤ 1000000000000000000
/-- x is a list or a tuple of E -/
def SqE (S : Store) (x : D) (E : List Int) : Prop := x = .tup (E.map D.int) ∨ x = .lst (E.map D.int) ∨ ∃ m, x = .ref m ∧ S[m]? = some (.lst (E.map D.int))
theorem SqE.app {S T : Store} {x : D} {E : List Int} (h : SqE S x E) : SqE (S ++ T) x E := by
  rcases h with h | h | ⟨m, h1, h2⟩
  · exact .inl h
  · exact .inr (.inl h)
  · exact .inr (.inr ⟨m, h1, by rw [List.getElem?_append_left (List.getElem?_eq_some_iff.mp h2).1]; exact h2⟩)
theorem law_last_spec {S : Store} {m : Nat} {g t : Int} {E : List Int} (hm : S[m]? = some (.lst (E.map D.int))) (g1 : 1 ≤ g) (g2 : g ≤ 1000000000000000000) :
    f_L_last [.int g, .ref m, .int t] S = .ok (.int (stE g E t)) S := by
  have hd : DivOk g := divOk_s (by omega) (Int.le_trans g2 (by decide))
  have h00 : stE g (E.take 0) t = 0 := by
    unfold stE lastE
    show (0 : Int) / g * g = 0
    rw [Int.zero_ediv, Int.zero_mul]
  unfold f_L_last b_L_last
  walk_at "evs"
  refine forR_to (fun k σ S' => S' = S ∧ ∃ s4, σ = [.val (.int g), .val (.ref m), .val (.int t), .val (.int (stE g (E.take k) t)), s4]) (fun z => runK (z.next _) = _) ⟨rfl, .no, by rw [h00]⟩ (fun i σ S' hp => ?_) (fun k d σ S' hk hp => ?_) (fun σ S' hp => ?_)
  · rw [hp.1, hm]
  · obtain ⟨rfl, s4, rfl⟩ := hp
    rw [List.getElem?_map] at hk
    cases hx : E[k]? with
    | none => rw [hx] at hk; cases hk
    | some x =>
      rw [hx] at hk
      cases hk
      have e1 : stE g (E.take (k + 1)) t = if x ≤ t then x / g * g else stE g (E.take k) t := by
        unfold stE lastE
        rw [List.take_add_one, hx, Option.toList_some, List.filter_append]
        by_cases h : x ≤ t
        · rw [if_pos h, List.filter_cons_of_pos (by simp only [decide_eq_true_eq]; exact h), List.filter_nil, List.getLast?_append]
          rfl
        · rw [if_neg h, List.filter_cons_of_neg (by simp only [decide_eq_true_eq]; exact h), List.filter_nil, List.append_nil]
      have hmul : MulOk (x / g) g := mulOk_r (by omega) (by omega)
      rw [e1]
      clear e1 hx
      by_cases h : x ≤ t
      · walk_at "evs"
        exact stp_nx ⟨rfl, _, rfl⟩
      · walk_at "evs"
        exact stp_nx ⟨rfl, _, rfl⟩
  · obtain ⟨rfl, s4, rfl⟩ := hp
    rw [List.length_map, List.take_of_length_le (Nat.le_refl _)]
    walk_at "evs"
theorem getLast_max : ∀ (E : List Int), E.Pairwise (· < ·) → ∀ (z : Int), (∀ e ∈ E, z ≤ e) → E.foldl max z = (E.getLast?).getD z
  | [], _, z, _ => rfl
  | a :: E, h, z, hz => by
    obtain ⟨h1, h2⟩ := List.pairwise_cons.mp h
    have hza := hz a List.mem_cons_self
    rw [List.foldl_cons, show max z a = a by omega, getLast_max E h2 a (fun e he => by have := h1 e he; omega)]
    cases E with
    | nil => rfl
    | cons b E => rw [List.getLast?_cons_cons, List.getLast?_eq_some_getLast (by simp), Option.getD_some, Option.getD_some]
theorem stamp_by_spec {S : Store} {x : D} {g t : Int} {E : List Int} (hx : SqE S x E) (hE : Rise E) (g1 : 1 ≤ g) (g2 : g ≤ 1000000000000000000) (hl : E.length ≤ 1000) :
    f_stamp_by [.int g, x, .int t] S = .ok (.int (stE g E t)) S := by
  have hf : ∀ m, f_first_of [.int g, .int m] S = _ := fun m => first_spec (S := S) (m := m) g1 g2
  have hc : ∀ σ : Sls, (∃ s0 s1, σ = [s0, s1, .val (.int t), .no]) → lcG (gN 3) (mB (mBin leD (mV 3) (mV 2))) (mV 3) σ S x = .ok ((E.filter fun e => decide (e ≤ t)).map D.int) S := fun σ hσ => by
    obtain ⟨s0, s1, rfl⟩ := hσ
    have hz : ∀ z ∈ E, ∃ σ1, gN 3 (D.int z) [s0, s1, .val (.int t), .no] = some σ1 ∧ mB (mBin leD (mV 3) (mV 2)) σ1 S = .ok (decide (z ≤ t)) S ∧ (decide (z ≤ t) = true → mV 3 σ1 S = .ok (D.int z) S) := fun z _ => by
      refine ⟨_, rfl, ?_, fun _ => rfl⟩
      by_cases h : z ≤ t <;> walk_at "evs"
    rcases hx with rfl | rfl | ⟨m, rfl, hm⟩
    · rw [e_lcGt, lcL_map D.int D.int _ E hz]
    · rw [e_lcGl, lcL_map D.int D.int _ E hz]
    · rw [e_lcGr, hm, e_lcGr1, lcR_all D.int D.int _ E hm hz]
  have hc2 := hc [.val (.int g), .val x, .val (.int t), .no] ⟨_, _, rfl⟩
  have hlen : (E.filter fun e => decide (e ≤ t)).length ≤ 1000 := Nat.le_trans (List.length_filter_le _ _) hl
  have hmx : maxI (0 :: E.filter fun e => decide (e ≤ t)) = some (lastE E t) := by
    show some (List.foldl max 0 (E.filter fun e => decide (e ≤ t))) = some (((E.filter fun e => decide (e ≤ t)).getLast?).getD 0)
    rw [getLast_max _ (hE.1.filter _) 0 (fun e he => (hE.2 e (List.mem_filter.mp he).1).1)]
  have hin : intsOf (D.int 0 :: (E.filter fun e => decide (e ≤ t)).map D.int) = some (0 :: E.filter fun e => decide (e ≤ t)) := by
    have := intsOf_map (0 :: E.filter fun e => decide (e ≤ t))
    rw [List.map_cons] at this
    exact this
  unfold stE
  generalize hF : (E.filter fun e => decide (e ≤ t)) = F at *
  have hadd : addD S (.lst [.int 0]) (.lst (F.map D.int)) = some (.lst (.int 0 :: F.map D.int)) := by
    rw [add_ll (by rw [List.length_singleton, List.length_map]; omega)]; rfl
  generalize lastE E t = v at *
  unfold f_stamp_by b_stamp_by
  clear hx hE hc hl hF
  walk_at "evs"
theorem len_SqE {S : Store} {x : D} {E : List Int} (hx : SqE S x E) : lenD S [x] = some (.int E.length) := by
  rcases hx with rfl | rfl | ⟨m, rfl, hm⟩
  · rw [o_lent, List.length_map]
  · rw [o_lenl, List.length_map]
  · rw [o_lenr, hm, lstR_1, Option.map_some, List.length_map]
theorem last_SqE {S : Store} {x : D} {E : List Int} {y : Int} (hx : SqE S x (E ++ [y])) : idxD S x (.int (-1)) = some (.int y) := by
  rcases hx with rfl | rfl | ⟨m, rfl, hm⟩
  · rw [o_idxt, List.map_append]; exact atI_last
  · rw [o_idx, List.map_append]; exact atI_last
  · rw [List.map_append] at hm
    rw [o_idxr, hm]
    exact atI_last
theorem sqE_facts {S : Store} {x : D} {E : List Int} (hx : SqE S x E) : ∃ dp y t, itemsS S x = some (E.map D.int, dp) ∧ dpOk dp S ∧ sliD S x (some 1) none = some y ∧ itemsS S y = some ((E.drop 1).map D.int, []) ∧ tyOf S x = some t ∧ (t = .list ∨ t = .tuple) := by
  have hc : cutL (E.map D.int) (some 1) none = (E.drop 1).map D.int := by rw [cut_n0 (by decide), List.map_drop]; rfl
  rcases hx with rfl | rfl | ⟨m, rfl, hm⟩
  · exact ⟨[], _, _, rfl, (fun p h => nomatch h), rfl, (by show itemsS S (.tup (cutL (E.map D.int) (some 1) none)) = _; rw [hc]; rfl), rfl, .inr rfl⟩
  · exact ⟨[], _, _, rfl, (fun p h => nomatch h), rfl, (by show itemsS S (.lst (cutL (E.map D.int) (some 1) none)) = _; rw [hc]; rfl), rfl, .inl rfl⟩
  · refine ⟨[(m, E.map D.int)], .lst ((E.drop 1).map D.int), .list, itemsS_r hm, fun p h => ?_, ?_, rfl, ?_, .inl rfl⟩
    · rw [List.mem_singleton.mp h]; exact hm
    · rw [o_slir, hm, lstR_1, Option.map_some, hc]
    · rw [o_tyr, hm, tyR_1]
theorem zip_rise : ∀ (E : List Int), E.Pairwise (· < ·) → ∀ q ∈ E.zip (E.drop 1), q.1 < q.2
  | [], _, q, hq => by cases hq
  | [a], _, q, hq => by cases hq
  | a :: b :: E, h, q, hq => by
    obtain ⟨h1, h2⟩ := List.pairwise_cons.mp h
    rw [List.drop_succ_cons, List.drop_zero, List.zip_cons_cons, List.mem_cons] at hq
    rcases hq with rfl | hq
    · exact h1 b List.mem_cons_self
    · exact zip_rise (b :: E) h2 q hq
theorem edits_spec {S : Store} {x : D} {E : List Int} (hx : SqE S x E) (hE : Rise E) (hl : E.length ≤ 200) : f_require_edits [x] S = .ok .non S := by
  have hlen := len_SqE hx
  have hmo : ∀ z ∈ E, f_is_moment [.int z] S = .ok (.bl true) S := fun z hz => is_moment_spec (hE.2 z hz).1 (hE.2 z hz).2
  have hc : ∀ s2 s3, lcG (gN 1) mYes (mCall f_is_moment (mCons (mV 1) mNil)) [.val x, .no, s2, s3] S x = .ok (E.map fun _ => .bl true) S := fun s2 s3 => by
    have hz : ∀ z ∈ E, ∃ σ1, gN 1 (D.int z) [.val x, .no, s2, s3] = some σ1 ∧ mYes σ1 S = .ok true S ∧ (true = true → mCall f_is_moment (mCons (mV 1) mNil) σ1 S = .ok (.bl true) S) := fun z hz => by
      have := hmo z hz
      refine ⟨_, rfl, rfl, fun _ => ?_⟩
      clear hx hlen
      walk_at "evs"
    have ef : E.filter (fun _ => true) = E := List.filter_eq_self.mpr (fun _ _ => rfl)
    have hx2 := hx
    rcases hx2 with h | h | ⟨m, h, hm⟩
    · have := lcL_map (tg := gN 1) (ca := mYes) (σ := [.val x, .no, s2, s3]) D.int (fun _ => .bl true) (fun _ => true) E hz
      rw [ef] at this
      rw [← this]
      conv => lhs; arg 6; rw [h]
      rw [e_lcGt]
    · have := lcL_map (tg := gN 1) (ca := mYes) (σ := [.val x, .no, s2, s3]) D.int (fun _ => .bl true) (fun _ => true) E hz
      rw [ef] at this
      rw [← this]
      conv => lhs; arg 6; rw [h]
      rw [e_lcGl]
    · have := lcR_all (g := gN 1) (c := mYes) (σ := [.val x, .no, s2, s3]) D.int (fun _ => .bl true) (fun _ => true) E hm hz
      rw [ef] at this
      rw [← this]
      conv => lhs; arg 6; rw [h]
      rw [e_lcGr, hm, e_lcGr1]
  obtain ⟨dp, y, ty, i1, i2, i3, i4, i5, i6⟩ := sqE_facts hx
  have hb : ∀ L : List Int, boolsOf (L.map fun _ => D.bl true) = some (L.map fun _ => true) := fun L => by
    have := boolsOf_map (L.map fun _ => true)
    rw [List.map_map] at this
    exact this
  have hall : ∀ L : List Int, (L.map fun _ => true).all id = true := fun L => by simp
  have hb2 := hb E
  have ha2 := hall E
  have hzp : zipDD false S [x, y] = some (pairsL (E.map D.int) ((E.drop 1).map D.int), dp) := by
    have := zipDD_of (st := false) i1 i4 (.inl rfl)
    rw [List.append_nil] at this
    exact this
  have hcD : ∀ s1, lcD (gT (gsCons (gN 2) (gsCons (gN 3) gsNil))) mYes (mBin ltD (mV 2) (mV 3)) [.val x, s1, .no, .no] dp (pairsL (E.map D.int) ((E.drop 1).map D.int)) S = .ok ((E.zip (E.drop 1)).map fun _ => .bl true) S := fun s1 => by
    rw [pairsL_map, lcD_map (fun q : Int × Int => .tup [D.int q.1, D.int q.2]) (fun _ => .bl true) (fun _ => true) i2, List.filter_eq_self.mpr (fun _ _ => rfl)]
    intro z hz
    have hlt := zip_rise E hE.1 z hz
    refine ⟨_, rfl, rfl, fun _ => ?_⟩
    clear hx hlen hc i1 i2 i3 i4 i5 i6 hb hall hb2 ha2 hzp
    walk_at "evs"
  have hb3 : boolsOf ((E.zip (E.drop 1)).map fun _ => D.bl true) = some ((E.zip (E.drop 1)).map fun _ => true) := by
    have := boolsOf_map ((E.zip (E.drop 1)).map fun _ => true)
    rw [List.map_map] at this
    exact this
  have ha3 : ((E.zip (E.drop 1)).map fun _ => true).all id = true := by simp
  have hL : ¬ (200 < (E.length : Int)) := by omega
  unfold f_require_edits b_require_edits
  clear hb hall hmo hx hE i1 i2 i4
  generalize (E.zip (E.drop 1)).map (fun _ => D.bl true) = Z1 at *
  generalize pairsL (E.map D.int) ((E.drop 1).map D.int) = Z2 at *
  generalize (E.map fun _ => D.bl true) = Z3 at *
  generalize (E.map fun _ => true) = Z4 at *
  generalize ((E.zip (E.drop 1)).map fun _ => true) = Z5 at *
  have eD : ∀ (own : List Nat) (g : MG) (c : MB) (e : M) (σ : Sls), lcDK (.ok (Z2, dp) S) own g c e σ = lcGK2 (lcD g c e (wipeS σ own) dp Z2 S) := fun _ _ _ _ _ => rfl
  rcases i6 with rfl | rfl
  · walk_at "evs"
  · walk_at "evs"
end K45

namespace K45
open PySem PySem.Spec L2 PL
/-- the begin number j -/
def sq (b d : Int) (j : Nat) : Int := b + (j : Int) * d
theorem sq_0 {b d : Int} : sq b d 0 = b := by unfold sq; rw [show ((0 : Nat) : Int) = 0 from rfl, Int.zero_mul, Int.add_zero]
theorem sq_s {b d : Int} {j : Nat} : sq b d (j + 1) = sq b d j + d := by
  unfold sq
  rw [show ((j + 1 : Nat) : Int) = (j : Int) + 1 by omega, Int.add_mul, Int.one_mul]; omega
def begs (b d : Int) (k : Nat) : List Int := (List.range (k + 1)).map (sq b d)
theorem begs_s {b d : Int} {k : Nat} : begs b d (k + 1) = begs b d k ++ [sq b d (k + 1)] := by
  unfold begs
  rw [List.range_succ, List.map_append]; rfl
theorem begs_0 {b d : Int} : begs b d 0 = [b] := by
  unfold begs
  rw [List.range_succ, List.range_zero, List.nil_append, List.map_cons, List.map_nil, sq_0]
theorem begs_len {b d : Int} {k : Nat} : (begs b d k).length = k + 1 := by unfold begs; rw [List.length_map, List.length_range]
/-- the loop ends behind k turns -/
def Ends (st : Int → Int) (b d0 d2 : Int) (k : Nat) : Prop := st (sq b d2 k + d0) = st (sq b d2 k + d2) ∧ ∀ j, j < k → ¬ st (sq b d2 j + d0) = st (sq b d2 j + d2)
def whatE (c e : String) (g : Int) (E : List Int) (r0 d0 d1 : Int) : String := match E.getLast? with
  | none => "right"
  | some y => if y ≤ r0 + d0 then "right" else if upD c g (mkD e r0 (r0 + d1)) ≤ y then "due" else "lost"
theorem rounds_spec {S : Store} {m k : Nat} {c e : String} {f : Bool} {g b d0 d1 d2 : Int} {E : List Int} (hc : IsC c) (he : IsE e) (hm : S[m]? = some (.lst (E.map D.int))) (g1 : 1 ≤ g) (g2 : g ≤ 1000000000000000000)
    (hk : Ends (stE g E) b d0 d2 k) (hk9 : k ≤ 900) :
    f_L_rounds [ruleD c e f, .int g, .ref m, .int b, .lst [.int d0, .int d1, .int d2]] S = .ok (.tup [.lst ((begs b d2 k).map D.int), .str (whatE c e g E (sq b d2 k) d0 d1)]) S := by
  have hla : ∀ t, f_L_last [.int g, .ref m, .int t] S = _ := fun t => law_last_spec (t := t) hm g1 g2
  have hdu : ∀ (r w ed : Int), f_L_is_due [ruleD c e f, .int g, .int r, .int w, .int ed] S = .ok (.bl (decide (upD c g (mkD e r w) ≤ ed))) S := fun r w ed => by
    rw [← due_up hc (by omega)]
    exact is_due_spec hc he (by omega) (by omega)
  have hnil : eqG S (.ref m) (.lst []) = some (E.map D.int).isEmpty := eqG_nil hm okL_ints
  generalize ruleD c e f = R at *
  obtain ⟨hk1, hk2⟩ := hk
  generalize hst : stE g E = st at *
  unfold f_L_rounds b_L_rounds
  walk_at "evs"
  refine whileF_to (fun i σ S' => S' = S ∧ ∃ j, j + i = k ∧ σ = [.val R, .val (.int g), .val (.ref m), .val (.int (sq b d2 j)), .val (.lst [.int d0, .int d1, .int d2]), .uq ((begs b d2 j).map D.int)]) (fun z => runK (z.next _) = _) k ⟨rfl, 0, by omega, by rw [sq_0, begs_0]; rfl⟩ (by omega) (fun i σ S' hp => ?_) (fun σ S' hp => ?_) (fun σ S' hp => ?_)
  · obtain ⟨rfl, j, hj, rfl⟩ := hp
    have hne := hk2 j (by omega)
    have hlen : ((begs b d2 j).map D.int).length < 1000000 := by rw [List.length_map, begs_len]; omega
    refine ⟨[.val R, .val (.int g), .val (.ref m), .val (.int (sq b d2 (j + 1))), .val (.lst [.int d0, .int d1, .int d2]), .uq ((begs b d2 (j + 1)).map D.int)], S', ?_, .inl ?_, rfl, j + 1, by omega, rfl⟩
    · clear hk1 hk2 hm hdu hnil hlen hj
      walk_at "evs"
    · rw [begs_s, sq_s, List.map_append, show List.map D.int [sq b d2 j + d2] = [.int (sq b d2 j + d2)] from rfl]
      clear hk1 hk2 hm hdu hnil hne hj hla
      generalize (begs b d2 j).map D.int = L at *
      walk_at "evs"
  · obtain ⟨rfl, j, hj, rfl⟩ := hp
    have : j = k := by omega
    subst this
    clear hk2 hm hdu hnil hj
    walk_at "evs"
  · obtain ⟨rfl, j, hj, rfl⟩ := hp
    have : j = k := by omega
    subst this
    unfold whatE
    clear hla hk1 hk2 hst hj hk9
    generalize (begs b d2 j).map D.int = L at *
    generalize sq b d2 j = r0 at *
    rcases List.eq_nil_or_concat E with rfl | ⟨E', y, rfl⟩
    · have hb : (List.map D.int []).isEmpty = true := rfl
      rw [hb] at hnil
      walk_at "evs"
      rfl
    · rw [List.concat_eq_append] at hm hnil ⊢
      rw [List.getLast?_concat]
      have hb : (List.map D.int (E' ++ [y])).isEmpty = false := by simp
      rw [hb] at hnil
      rw [List.map_append, show List.map D.int [y] = [.int y] from rfl] at hm
      generalize List.map D.int E' = E2 at *
      clear hb
      by_cases q1 : y ≤ r0 + d0
      · walk_at "evs"
      · by_cases q2 : upD c g (mkD e r0 (r0 + d1)) ≤ y
        · walk_at "evs"
        · walk_at "evs"
end K45

namespace K45
open PySem PySem.Spec L2 PL
theorem begs_last {b d : Int} {k : Nat} : ∃ L, begs b d k = L ++ [sq b d k] := by
  unfold begs
  rw [List.range_succ, List.map_append]
  exact ⟨_, rfl⟩
theorem guard_rounds_spec {S : Store} {k : Nat} {c e : String} {f : Bool} {x : D} {g b d0 d1 d2 : Int} {E : List Int} (hc : IsC c) (he : IsE e) (hx : SqE S x E) (hE : Rise E) (hl : E.length ≤ 200) (g1 : 1 ≤ g) (g2 : g ≤ 1000000000000000000)
    (b1 : 0 ≤ b) (b2 : b ≤ 1000000000000000000) (h0 : 0 ≤ d0) (h1 : d0 ≤ d1) (h2 : 1 ≤ d1) (h3 : d1 ≤ d2) (h4 : d2 ≤ 1000000000000000000) (hk : Ends (stE g E) b d0 d2 k) (hk9 : k ≤ 900) :
    f_guard_rounds [ruleD c e f, .int g, x, .int b, .int d0, .int d1, .int d2] S = .ok (.tup [.ref S.length, .str (whatE c e g E (sq b d2 k) d0 d1)]) (S ++ [.lst ((begs b d2 k).map D.int)]) := by
  have k1 := require_rule_spec (S := S) (f := f) hc he
  have k2 := require_grain_spec (S := S) g1 g2
  have k3 := edits_spec hx hE hl
  have k4 := require_moment_spec (S := S) (d := .str "begin") b1 b2
  have k5 := require_delays_spec (S := S) h0 (by omega) h1 h2 (by omega)
  have k6 := is_between_spec (S := S) (v := d2) (l := d1) h3 h4
  have hst : ∀ (L : List D) (t : Int), f_stamp_by [.int g, x, .int t] (S ++ [.lst L]) = .ok (.int (stE g E t)) (S ++ [.lst L]) := fun L t => stamp_by_spec hx.app hE g1 g2 (by omega)
  have hll : ∀ (S : Store) (r0 : Int), f_last_lost [ruleD c e f, .int g, .int r0, .int (r0 + d0), .int (r0 + d1)] S = _ := fun S r0 => last_lost_spec isR_rule hc he g1 g2
  have hup : ∀ r0 : Int, e = "start" ∧ c ≠ "newer" → upD c g (mkD e r0 (r0 + d1)) ≤ r0 + 1 := fun r0 h => by
    have hm : mkD e r0 (r0 + d1) = r0 := by unfold mkD; rw [h.1, if_neg (by decide)]
    rw [hm]
    exact up_start hc h.2 g1 (Int.le_refl _)
  generalize ruleD c e f = R at *
  obtain ⟨hk1, hk2⟩ := hk
  generalize hs : stE g E = st at *
  unfold f_guard_rounds b_guard_rounds
  walk_at "evs"
  clear k1 k2 k3 k4 k5 k6 hc he
  refine whileF_to (fun i σ S' => ∃ j, j + i = k ∧ S' = S ++ [.lst ((begs b d2 j).map D.int)] ∧ σ = [.val R, .val (.int g), .val x, .val (.int b), .val (.int d0), .val (.int d1), .val (.int d2), .val (.ref S.length), .no, .no]) (fun z => runK (z.next _) = _) k ⟨0, by omega, by rw [begs_0]; rfl, rfl⟩ (by omega) (fun i σ S' hp => ?_) (fun σ S' hp => ?_) (fun σ S' hp => ?_)
  · obtain ⟨j, hj, rfl, rfl⟩ := hp
    have hne := hk2 j (by omega)
    have hlen : ((begs b d2 j).map D.int).length < 1000000 := by rw [List.length_map, begs_len]; omega
    obtain ⟨L, hL⟩ := begs_last (b := b) (d := d2) (k := j)
    refine ⟨[.val R, .val (.int g), .val x, .val (.int b), .val (.int d0), .val (.int d1), .val (.int d2), .val (.ref S.length), .no, .no], S ++ [.lst ((begs b d2 (j + 1)).map D.int)], ?_, .inl ?_, j + 1, by omega, rfl, rfl⟩
    · rw [hL, List.map_append, show List.map D.int [sq b d2 j] = [.int (sq b d2 j)] from rfl]
      generalize List.map D.int L = L' at *
      clear hk1 hk2 hlen hj hx hE hll hup hL hs h0 h1 h2 h3 h4 b1 b2
      generalize sq b d2 j = r0 at *
      walk_at "evs"
    · rw [begs_s, sq_s, List.map_append, show List.map D.int [sq b d2 j + d2] = [.int (sq b d2 j + d2)] from rfl]
      rw [hL, List.map_append, show List.map D.int [sq b d2 j] = [.int (sq b d2 j)] from rfl] at hlen ⊢
      generalize List.map D.int L = L' at *
      clear hk1 hk2 hj hx hE hll hup hL hs h0 h1 h2 h3 h4 b1 b2 hst hne
      generalize sq b d2 j = r0 at *
      walk_at "evs"
  · obtain ⟨j, hj, rfl, rfl⟩ := hp
    have : j = k := by omega
    subst this
    obtain ⟨L, hL⟩ := begs_last (b := b) (d := d2) (k := j)
    rw [hL, List.map_append, show List.map D.int [sq b d2 j] = [.int (sq b d2 j)] from rfl]
    generalize List.map D.int L = L' at *
    clear hk2 hj hx hE hll hup hL hs h0 h1 h2 h3 h4 b1 b2
    generalize sq b d2 j = r0 at *
    walk_at "evs"
  · obtain ⟨j, hj, rfl, rfl⟩ := hp
    have : j = k := by omega
    subst this
    obtain ⟨L, hL⟩ := begs_last (b := b) (d := d2) (k := j)
    have hmL : (begs b d2 j).map D.int = L.map D.int ++ [.int (sq b d2 j)] := by rw [hL, List.map_append]; rfl
    rw [hmL]
    unfold whatE
    clear hst hk1 hk2 hs hj hk9 hL hmL
    generalize List.map D.int L = L' at *
    generalize sq b d2 j = r0 at *
    have hll' := hll (S ++ [.lst (L' ++ [.int r0])]) r0
    have hlen := len_SqE (hx.app (T := [.lst (L' ++ [.int r0])]))
    rcases List.eq_nil_or_concat E with rfl | ⟨E', y, rfl⟩
    · clear hll hll' hx hE hup h0 h1 h2 h3 h4 b1 b2
      rw [show (([] : List Int).length : Int) = 0 from rfl] at hlen
      walk_at "evs"
      rfl
    · rw [List.concat_eq_append] at hx hlen ⊢
      rw [List.getLast?_concat]
      have hlast := last_SqE (hx.app (T := [.lst (L' ++ [.int r0])]))
      have hn0 : ¬ ((E' ++ [y]).length : Int) = 0 := by rw [List.length_append, List.length_singleton]; omega
      have hu := hup r0
      generalize ((E' ++ [y]).length : Int) = n0 at *
      clear hll hx hE hup h1 h2 h3 h4 b1 b2 hl
      by_cases q1 : y ≤ r0 + d0
      · clear hll' hu
        walk_at "evs"
      · by_cases qs : e = "start" ∧ c ≠ "newer"
        · have hu' := hu qs
          have q2 : upD c g (mkD e r0 (r0 + d1)) ≤ y := by omega
          rw [if_pos qs] at hll'
          clear hu hu' qs
          walk_at "evs"
        · rw [if_neg qs] at hll'
          clear hu qs
          by_cases q2 : upD c g (mkD e r0 (r0 + d1)) ≤ y
          · have q3 : ¬ (y ≤ upD c g (mkD e r0 (r0 + d1)) - 1) := by omega
            walk_at "evs"
          · have q3 : y ≤ upD c g (mkD e r0 (r0 + d1)) - 1 := by omega
            walk_at "evs"
end K45

namespace K45
open PySem PySem.Spec L2 PL
theorem whatE_or {c e : String} {g r0 d0 d1 : Int} {E : List Int} : whatE c e g E r0 d0 d1 = "right" ∨ whatE c e g E r0 d0 d1 = "due" ∨ whatE c e g E r0 d0 d1 = "lost" := by
  unfold whatE
  split
  · exact .inl rfl
  · split
    · exact .inl rfl
    · split
      · exact .inr (.inl rfl)
      · exact .inr (.inr rfl)
theorem eq_told {S : Store} {m : Nat} {L : List Int} {w : String} (hw : w = "right" ∨ w = "due" ∨ w = "lost") (h : S[m]? = some (.lst (L.map D.int))) : eqG S (.tup [.ref m, .str w]) (.tup [.lst (L.map D.int), .str w]) = some true := by
  have h1 : snap S 59 (.ref m) = some (.lst (L.map D.int)) := snap_cell h okL_ints (by decide)
  have h2 : snap S 59 (.lst (L.map D.int)) = some (.lst (L.map D.int)) := snap_ok 40 59 _ (by unfold okD; exact okL_ints) (by decide)
  have h3 : snap S 59 (.str w) = some (.str w) := rfl
  refine eqG_same (x := .tup [.lst (L.map D.int), .str w]) (snap_tup ?_) (snap_tup ?_) ?_ rfl
  · simp only [mapO, h1, h3, Option.bind_some, Option.map_some]
  · simp only [mapO, h2, h3, Option.bind_some, Option.map_some]
  · unfold okD okL okL okL okD okD
    rw [okL_ints]
    rcases hw with rfl | rfl | rfl <;> decide +kernel
theorem ends_ex {g b d0 d2 : Int} {E : List Int} (hE : ∀ e ∈ E, e ≤ 500) (hb : 0 ≤ b) (h0 : 0 ≤ d0) (h2 : 1 ≤ d2) : ∃ k, k ≤ 900 ∧ Ends (stE g E) b d0 d2 k := by
  have hall : ∀ t, 500 ≤ t → stE g E t = E.getLast?.getD 0 / g * g := fun t ht => by
    unfold stE lastE
    rw [List.filter_eq_self.mpr fun e he => decide_eq_true (by have := hE e he; omega)]
  have h5 : 500 ≤ sq b d2 500 := by
    unfold sq
    have : (500 : Int) * 1 ≤ 500 * d2 := Int.mul_le_mul_of_nonneg_left h2 (by decide)
    show 500 ≤ b + 500 * d2
    omega
  obtain ⟨k, k1, k2, k3⟩ := least (P := fun k => stE g E (sq b d2 k + d0) = stE g E (sq b d2 k + d2)) 500 (by rw [hall _ (by omega), hall _ (by omega)])
  exact ⟨k, by omega, k2, k3⟩
theorem rounds_right_spec {S : Store} {n : Nat} {B : Int} {M : Nat} {w : Int} (h : Rng S n B) (hB : B ≤ 900000) (hM : M ≤ 30) (w1 : 1 ≤ w) (w2 : w ≤ 12) : ∃ S', f_L_rounds_right [.ref n, .int M, .int w] S = .ok (.bl true) S' ∧ Rng S' n (B + 40) := by
  obtain ⟨g, S1, e1, g0, g1, h1, _⟩ := take_spec h (by omega) (b := 12) (by decide) (by decide)
  obtain ⟨b, S2, e2, b0, b1, h2, _⟩ := take_spec h1 (by omega) (b := 20) (by decide) (by decide)
  have h2' : Rng (S2 ++ [.lst []]) n (B + 1 + 1) := h2.app
  obtain ⟨x, S3, e3, x0, x1, h3, f3⟩ := take_spec h2' (by omega) (b := 10) (by decide) (by decide)
  have hm3 : S3[S2.length]? = some (.lst (([] : List Int).map D.int)) := f3.get get_app (by have := h2.lt; omega)
  have hnm : n ≠ S2.length := by have := h2.lt; omega
  have r1 : ∀ S, r1K (.ok [.int (M : Int)] S) = .ok (rangeL 0 M) S := fun S => by rw [r1_ok (by omega) (by omega), Int.toNat_natCast]
  unfold f_L_rounds_right b_L_rounds_right
  walk_at "evs"
  clear e1 e2 e3 h1 h h2' h2 f3 r1
  generalize S2.length = m at *
  have hG : 1 ≤ 1 + g ∧ 1 + g ≤ 12 := by omega
  generalize 1 + g = G at *
  refine forL_toI (fun j σ S' => ∃ (E : List Int) (mo : Int) (s7 : Sl), σ = [.val (.ref n), .val (.int M), .val (.int w), .val (.int G), .val (.int b), .val (.ref m), .val (.int mo), s7, .no, .no, .no, .no, .no, .no] ∧ Rng S' n (B + 3 + j) ∧ S'[m]? = some (.lst (E.map D.int)) ∧ E.length = j ∧ E.Pairwise (· < ·) ∧ (∀ e ∈ E, 0 ≤ e ∧ e < mo) ∧ 0 ≤ mo ∧ mo ≤ 10 + 13 * (j : Int)) (fun z => ∃ S', runK (z.next _) = .ok (.bl true) S' ∧ Rng S' n (B + 40))
    ⟨[], x, _, rfl, h3.le (by omega), hm3, rfl, .nil, (fun e he => by cases he), by omega, by omega⟩ (fun j d σ S' hj hp => ?_) (fun σ S' hp => ?_)
  · obtain ⟨rfl, hj1⟩ := rangeL_at hj
    obtain ⟨E, mo, s7, rfl, hR, hm, hl, hpw, hall, m0, m1⟩ := hp
    have hlen : (E.map D.int).length < 1000000 := by rw [List.length_map]; omega
    have hR2 : Rng (S'.set m (.lst (E.map D.int ++ [.int mo]))) n (B + 3 + j) := hR.set_ne (Ne.symm hnm)
    obtain ⟨t, S5, e5, t0, t1, h5, f5⟩ := take_spec hR2 (by omega) (b := w) (by omega) (by omega)
    have hm5 : S5[m]? = some (.lst ((E ++ [mo]).map D.int)) := by
      rw [List.map_append]
      exact f5.get (get_set hm) (Ne.symm hnm)
    have hfin : ∀ s7, Stp (fun σ S' => ∃ (E : List Int) (mo : Int) (s7 : Sl), σ = [.val (.ref n), .val (.int M), .val (.int w), .val (.int G), .val (.int b), .val (.ref m), .val (.int mo), s7, .no, .no, .no, .no, .no, .no] ∧ Rng S' n (B + 3 + ((j + 1 : Nat) : Int)) ∧ S'[m]? = some (.lst (E.map D.int)) ∧ E.length = j + 1 ∧ E.Pairwise (· < ·) ∧ (∀ e ∈ E, 0 ≤ e ∧ e < mo) ∧ 0 ≤ mo ∧ mo ≤ 10 + 13 * ((j + 1 : Nat) : Int))
        (.nx [.val (.ref n), .val (.int M), .val (.int w), .val (.int G), .val (.int b), .val (.ref m), .val (.int (mo + 1 + t)), s7, .no, .no, .no, .no, .no, .no] S5) := fun s7 =>
      stp_nx ⟨E ++ [mo], mo + 1 + t, s7, rfl, h5.le (by omega), hm5, by rw [List.length_append, hl]; rfl, List.pairwise_append.mpr ⟨hpw, List.pairwise_singleton _ _, fun p hp q hq => by rw [List.mem_singleton.mp hq]; exact (hall p hp).2⟩, fun e he => by
        rcases List.mem_append.mp he with he | he
        · have := hall e he; omega
        · rw [List.mem_singleton.mp he]; omega, by omega, by omega⟩
    generalize (fun σ S' => ∃ (E : List Int) (mo : Int) (s7 : Sl), σ = [.val (.ref n), .val (.int M), .val (.int w), .val (.int G), .val (.int b), .val (.ref m), .val (.int mo), s7, .no, .no, .no, .no, .no, .no] ∧ Rng S' n (B + 3 + ((j + 1 : Nat) : Int)) ∧ S'[m]? = some (.lst (E.map D.int)) ∧ E.length = j + 1 ∧ E.Pairwise (· < ·) ∧ (∀ e ∈ E, 0 ≤ e ∧ e < mo) ∧ 0 ≤ mo ∧ mo ≤ 10 + 13 * ((j + 1 : Nat) : Int) : Sls → Store → Prop) = PP at *
    have hfin' := Hide.mk hfin
    generalize E.map D.int = L at *
    clear hfin hm5 f5 h5 hR2 hR hj hall hpw hl m0 m1
    walk_at "evs"
    exact hfin'.out _
  · obtain ⟨E, mo, s7, rfl, hR, hm, hl, hpw, hall, m0, m1⟩ := hp
    rw [rangeL_len] at hR hl m1
    obtain ⟨d0, S4, e4, d00, d01, h4, f4⟩ := take_spec hR (by omega) (b := 5) (by decide) (by decide)
    obtain ⟨y, S5, e5, y0, y1, h5, f5⟩ := take_spec h4 (by omega) (b := 6) (by decide) (by decide)
    obtain ⟨z, S6, e6, z0, z1, h6, f6⟩ := take_spec h5 (by omega) (b := 8) (by decide) (by decide)
    obtain ⟨f, S7, e7, h7, f7⟩ := rules_spec h6 (by omega)
    have hm7 : S7[m]? = some (.lst (E.map D.int)) := (((f4.trans f5).trans f6).trans f7).get hm (Ne.symm hnm)
    have hRise : Rise E := ⟨hpw, fun e he => by have := hall e he; omega⟩
    generalize hd1 : (if 1 < d0 + y then d0 + y else 1) = d1
    have hd : d0 ≤ d1 ∧ 1 ≤ d1 ∧ d1 ≤ 12 := by rw [← hd1]; split <;> omega
    obtain ⟨k, hk9, hk⟩ := ends_ex (g := G) (b := b) (d0 := d0) (d2 := d1 + z) (E := E) (fun e he => by have := hall e he; omega) b0 d00 (by omega)
    have h7' : Rng S7 n (B + 40) := h7.le (by omega)
    clear hR hm h3 hm3 h4 h5 h6 f4 f5 f6 f7 h7
    walk_at "evs"
    clear e4 e5 e6 e7 hd1
    refine forL_to (fun σ S' => (∃ s7 s11 s12 s13, σ = [.val (.ref n), .val (.int M), .val (.int w), .val (.int G), .val (.int b), .val (.ref m), .val (.int mo), s7, .val (.int d0), .val (.int d1), .val (.lst [.int d0, .int d1, .int (d1 + z)]), s11, s12, s13]) ∧ Rng S' n (B + 40) ∧ S'[m]? = some (.lst (E.map D.int))) (fun z => ∃ S', runK (z.next _) = .ok (.bl true) S' ∧ Rng S' n (B + 40)) ⟨⟨_, _, _, _, rfl⟩, h7', hm7⟩ (fun d σ S' hd' hp => ?_) (fun σ S' hp => ?_)
    · obtain ⟨⟨s7, s11, s12, s13, rfl⟩, hR, hm⟩ := hp
      obtain ⟨c, e, rfl, hc, he⟩ := rules_mem hd'
      clear hd' h7' hm7
      have q1 := rounds_spec (S := S') (f := f) (d1 := d1) hc he hm hG.1 (by omega) hk hk9
      have q2 := guard_rounds_spec (S := S') (f := f) (x := .tup (E.map D.int)) (d1 := d1) hc he (.inl rfl) hRise (by omega) hG.1 (by omega) b0 (by omega) d00 hd.1 hd.2.1 (by omega) (by omega) hk hk9
      have hc1 : (S' ++ [Cell.lst ((begs b (d1 + z) k).map D.int)])[S'.length]? = some (.lst ((begs b (d1 + z) k).map D.int)) := get_app
      have q3 := eq_told (whatE_or (c := c) (e := e) (g := G) (E := E) (r0 := sq b (d1 + z) k) (d0 := d0) (d1 := d1)) hc1
      have hml : m < S'.length := (List.getElem?_eq_some_iff.mp hm).1
      have hm2 : ((S' ++ [Cell.lst ((begs b (d1 + z) k).map D.int)]).set S'.length (.lst ((begs b (d1 + z) k).map D.int ++ [.non])))[m]? = some (.lst (E.map D.int)) := by
        rw [List.getElem?_set_ne (by omega), get_appl hml]; exact hm
      have hR2 : Rng ((S' ++ [Cell.lst ((begs b (d1 + z) k).map D.int)]).set S'.length (.lst ((begs b (d1 + z) k).map D.int ++ [.non]))) n (B + 40) := (hR.app).set_ne (by have := hR.lt; omega)
      have hbl : ((begs b (d1 + z) k).map D.int).length < 1000000 := by rw [List.length_map, begs_len]; omega
      have hset : (S' ++ [Cell.lst ((begs b (d1 + z) k).map D.int)]).set S'.length (.lst ((begs b (d1 + z) k).map D.int ++ [.non])) = S' ++ [Cell.lst ((begs b (d1 + z) k).map D.int ++ [.non])] := set_app0
      rw [hset] at hm2 hR2
      have q4 := guard_rounds_spec (S := S' ++ [Cell.lst ((begs b (d1 + z) k).map D.int ++ [.non])]) (f := f) (x := .ref m) (d1 := d1) hc he (.inr (.inr ⟨m, rfl, hm2⟩)) hRise (by omega) hG.1 (by omega) b0 (by omega) d00 hd.1 hd.2.1 (by omega) (by omega) hk hk9
      have q5 := eq_told (whatE_or (c := c) (e := e) (g := G) (E := E) (r0 := sq b (d1 + z) k) (d0 := d0) (d1 := d1)) (S := S' ++ [Cell.lst ((begs b (d1 + z) k).map D.int ++ [.non])] ++ [Cell.lst ((begs b (d1 + z) k).map D.int)]) (m := (S' ++ [Cell.lst ((begs b (d1 + z) k).map D.int ++ [.non])]).length) get_app
      have hm3 : (S' ++ [Cell.lst ((begs b (d1 + z) k).map D.int ++ [.non])] ++ [Cell.lst ((begs b (d1 + z) k).map D.int)])[m]? = some (.lst (E.map D.int)) := by
        rw [get_appl (List.getElem?_eq_some_iff.mp hm2).1]; exact hm2
      have hR3 : Rng (S' ++ [Cell.lst ((begs b (d1 + z) k).map D.int ++ [.non])] ++ [Cell.lst ((begs b (d1 + z) k).map D.int)]) n (B + 40) := hR2.app
      have hgo : ∀ s7 s11 s12 s13, Stp (fun σ S' => (∃ s7 s11 s12 s13, σ = [.val (.ref n), .val (.int M), .val (.int w), .val (.int G), .val (.int b), .val (.ref m), .val (.int mo), s7, .val (.int d0), .val (.int d1), .val (.lst [.int d0, .int d1, .int (d1 + z)]), s11, s12, s13]) ∧ Rng S' n (B + 40) ∧ S'[m]? = some (.lst (E.map D.int))) (.nx [.val (.ref n), .val (.int M), .val (.int w), .val (.int G), .val (.int b), .val (.ref m), .val (.int mo), s7, .val (.int d0), .val (.int d1), .val (.lst [.int d0, .int d1, .int (d1 + z)]), s11, s12, s13] (S' ++ [Cell.lst ((begs b (d1 + z) k).map D.int ++ [.non])] ++ [Cell.lst ((begs b (d1 + z) k).map D.int)])) := fun s7 s11 s12 s13 => stp_nx ⟨⟨_, _, _, _, rfl⟩, hR3, hm3⟩
      generalize (fun σ S' => (∃ s7 s11 s12 s13, σ = [.val (.ref n), .val (.int M), .val (.int w), .val (.int G), .val (.int b), .val (.ref m), .val (.int mo), s7, .val (.int d0), .val (.int d1), .val (.lst [.int d0, .int d1, .int (d1 + z)]), s11, s12, s13]) ∧ Rng S' n (B + 40) ∧ S'[m]? = some (.lst (E.map D.int)) : Sls → Store → Prop) = PP at *
      have hgo' := Hide.mk hgo
      clear hgo hR3 hm3 hR2 hm2 hc1 hml hR hRise hl hpw hall m0 m1 hk hk9 hd d00 d01 y0 y1 z0 z1 b0 b1 x0 x1 hG
      generalize whatE c e G E (sq b (d1 + z) k) d0 d1 = wh at *
      generalize (begs b (d1 + z) k).map D.int = Bd at *
      generalize ruleD c e f = Rl at *
      generalize E.map D.int = EL at *
      generalize hS3 : S' ++ [Cell.lst (Bd ++ [D.non])] ++ [Cell.lst Bd] = S3 at *
      generalize hS2 : S' ++ [Cell.lst (Bd ++ [D.non])] = S2 at *
      generalize hS1 : S' ++ [Cell.lst Bd] = S1 at *
      have hc1 : S1[S'.length]? = some (.lst Bd) := by rw [← hS1]; exact get_app
      clear hS1 hS2 hS3
      generalize S'.length = m0 at *
      generalize S2.length = m2 at *
      walk_at "evs"
      exact hgo'.out _ _ _ _
    · obtain ⟨⟨s7, s11, s12, s13, rfl⟩, hR, hm⟩ := hp
      walk_at "evs"
      exact ⟨_, rfl, hR⟩
end K45

namespace K45
open PySem PySem.Spec L2 PL
theorem ri_pw : ∀ (n : Nat) (a : Int), (ri a n).Pairwise (· < ·)
  | 0, a => .nil
  | n + 1, a => List.pairwise_cons.mpr ⟨fun x hx => by have := ri_mem.mp hx; omega, ri_pw n (a + 1)⟩
theorem ri_as : ∀ (n : Nat) (a : Int), ri a n = (List.range n).map fun (j : Nat) => a + (j : Int)
  | 0, a => rfl
  | n + 1, a => by
    rw [ri, ri_as n, List.range_succ_eq_map, List.map_cons, List.map_map]
    congr 1
    · omega
    · refine List.map_congr_left fun j _ => ?_
      show a + 1 + (j : Int) = a + ((j + 1 : Nat) : Int)
      omega
def bigE : List Int := (ri 1 200).map fun k => 1000000000000000 * k + 5
theorem bigE_rise : Rise bigE := by
  refine ⟨List.pairwise_map.mpr ((ri_pw 200 1).imp fun {a b} h => by omega), fun e he => ?_⟩
  obtain ⟨k, hk, rfl⟩ := List.mem_map.mp he
  have := ri_mem.mp hk
  omega
theorem bigE_st {q : Int} (h1 : 1 ≤ q) : stE 10 bigE (1000000000000000 * q) = 1000000000000000 * min 200 (q - 1) := by
  unfold stE lastE bigE
  have hf : List.filter ((fun e => decide (e ≤ 1000000000000000 * q)) ∘ fun k => 1000000000000000 * k + 5) (ri 1 200) = List.filter (fun k => decide (k ≤ q - 1)) (ri 1 200) := List.filter_congr fun k _ => decide_eq_decide.mpr (by show 1000000000000000 * k + 5 ≤ 1000000000000000 * q ↔ _; omega)
  rw [List.filter_map, hf, filt1, show (1 : Int) + ((200 : Nat) : Int) - 1 = 200 by omega]
  by_cases h : q = 1
  · rw [seg_nil (by omega), h]; rfl
  · obtain ⟨L, hL⟩ := seg_last (a := 1) (b := min 200 (q - 1)) (by omega)
    rw [hL, List.map_append, List.map_cons, List.map_nil, List.getLast?_concat, Option.getD_some]
    omega
theorem big_sq (j : Nat) : sq 1000000000000000 1000000000000000 j = 1000000000000000 * ((j : Int) + 1) := by
  unfold sq
  omega
theorem bigE_ends : Ends (stE 10 bigE) 1000000000000000 0 1000000000000000 200 := by
  refine ⟨?_, fun j hj => ?_⟩
  · rw [big_sq, Int.add_zero, bigE_st (by omega), show 1000000000000000 * (((200 : Nat) : Int) + 1) + 1000000000000000 = 1000000000000000 * (((200 : Nat) : Int) + 2) by omega, bigE_st (by omega)]
    omega
  · rw [big_sq, Int.add_zero, bigE_st (by omega), show 1000000000000000 * ((j : Int) + 1) + 1000000000000000 = 1000000000000000 * ((j : Int) + 2) by omega, bigE_st (by omega)]
    omega
theorem big_begs : begs 1000000000000000 1000000000000000 200 = (ri 1 201).map fun k => 1000000000000000 * k := by
  unfold begs
  rw [ri_as, List.map_map]
  refine List.map_congr_left fun j _ => ?_
  rw [big_sq]
  show _ = 1000000000000000 * (1 + (j : Int))
  omega
theorem big_what : whatE "newer" "end" 10 bigE (sq 1000000000000000 1000000000000000 200) 0 1 = "right" := by
  have : bigE.getLast? = some 200000000000000005 := by
    unfold bigE
    obtain ⟨L, hL⟩ := ri_last (n := 200) (a := 1) (by decide)
    rw [hL, List.map_append, List.map_cons, List.map_nil, List.getLast?_concat]
    rfl
  unfold whatE
  rw [this, big_sq]
  exact if_pos (by omega)
def Lc (ns : List Int) (n : Nat) (σ : Sls) : Prop := ∃ s1 s3, σ = [.val (.lst (ns.map D.int)), s1, .val (.ref n), s3, .no, .no, .no, .no, .no]
theorem law_true : LawTrue f_law := by
  intro ns hl hb
  have hcell : ∃ c0, ∀ S, f_L_cell_at [.lst (ns.map D.int), .int 0] S = .ok (.int c0) S := by
    unfold f_L_cell_at b_L_cell_at
    cases ns with
    | nil =>
      refine ⟨0, fun S => ?_⟩
      walk_at "evs"
    | cons x xs =>
      refine ⟨x, fun S => ?_⟩
      have h : (0 : Int) < ((xs.length + 1 : Nat) : Int) := by omega
      walk_at "evs"
      simp only [List.length_map]
      walk_at "evs"
  obtain ⟨c0, hc0⟩ := hcell
  have hdc : List.drop 1 (List.take 5 (ns.map D.int)) = (List.drop 1 (List.take 5 ns)).map D.int := by rw [List.map_drop, List.map_take]
  unfold f_law b_law
  walk_at "evs"
  rw [add_ll (by simp; omega), show [D.int c0] ++ (List.drop 1 (List.take 5 ns)).map D.int = (c0 :: List.drop 1 (List.take 5 ns)).map D.int from rfl]
  generalize (c0 :: List.drop 1 (List.take 5 ns)) = cells
  walk_at "evs"
  refine forL_to (fun σ S => ∃ s1 s2 s3, σ = [.val (.lst (ns.map D.int)), s1, s2, s3, .no, .no, .no, .no, .no]) (fun r => ∃ S', runK (r.next _) = .ok _ S') ⟨_, _, _, rfl⟩ (fun d σ S hd hp => ?_) (fun σ S hp => ?_)
  · obtain ⟨s1, s2, s3, rfl⟩ := hp
    obtain ⟨c, _, rfl⟩ := List.mem_map.mp hd
    obtain ⟨S1, e1, h1, _⟩ := source_spec (S := S) (c := c)
    clear hd
    walk_at "evs"
    rw [r1_ok (by decide) (by decide), e_for1]
    refine forL_toI (fun k σ S' => Lc ns S.length σ ∧ Rng S' S.length (20 * (k : Int))) (fun r => Stp _ (r.next _)) ⟨⟨_, _, rfl⟩, by rw [show 20 * ((0 : Nat) : Int) = 0 from rfl]; exact h1⟩ (fun k d σ S2 hk hp => ?_) (fun σ S2 hp => ?_)
    · have hk1 : k < 2 := by
        have := (List.getElem?_eq_some_iff.mp hk).1
        rw [rangeL_len] at this
        exact this
      obtain ⟨⟨s1, s3, rfl⟩, hR⟩ := hp
      obtain ⟨S3, f1, h3⟩ := guard_spec hR (by omega)
      clear hk h1 e1 hR
      have h3' : Rng S3 S.length (20 * ((k + 1 : Nat) : Int)) := h3.le (by omega)
      generalize hP : (fun σ S' => Lc ns S.length σ ∧ Rng S' S.length (20 * ((k + 1 : Nat) : Int)) : Sls → Store → Prop) = P
      walk_at "evs"
      refine stp_nx ?_
      rw [← hP]
      exact ⟨⟨_, _, rfl⟩, h3'⟩
    · obtain ⟨⟨s1, s3, rfl⟩, hR⟩ := hp
      rw [rangeL_len] at hR
      clear h1 e1
      walk_at "evs"
      rw [r1_ok (by decide) (by decide), e_for1]
      refine forL_toI (fun k σ S' => Lc ns S.length σ ∧ Rng S' S.length (100 + 50 * (k : Int))) (fun r => Stp _ r) ⟨⟨_, _, rfl⟩, hR.le (by omega)⟩ (fun k d σ S2 hk hp => ?_) (fun σ S2 hp => ?_)
      · have hk1 : k < 4 := by
          have := (List.getElem?_eq_some_iff.mp hk).1
          rw [rangeL_len] at this
          exact this
        obtain ⟨⟨s1, s3, rfl⟩, hR⟩ := hp
        obtain ⟨r, S3, f1, r0, r1, h3, _⟩ := take_spec hR (by omega) (b := 9) (by decide) (by decide)
        obtain ⟨M, rfl⟩ : ∃ M : Nat, r = (M : Int) := ⟨r.toNat, by omega⟩
        obtain ⟨S4, f2, h4⟩ := rounds_right_spec h3 (by omega) (M := M) (w := 12) (by omega) (by decide) (by decide)
        clear hk hR h3
        have h4' : Rng S4 S.length (100 + 50 * ((k + 1 : Nat) : Int)) := h4.le (by omega)
        generalize hP : (fun σ S' => Lc ns S.length σ ∧ Rng S' S.length (100 + 50 * ((k + 1 : Nat) : Int)) : Sls → Store → Prop) = P
        walk_at "evs"
        refine stp_nx ?_
        rw [← hP]
        exact ⟨⟨_, _, rfl⟩, h4'⟩
      · obtain ⟨⟨s1, s3, rfl⟩, _⟩ := hp
        exact ⟨_, _, _, rfl⟩
  · obtain ⟨s1, s2, s3, rfl⟩ := hp
    have hs := hc0 S
    obtain ⟨S1, e1, h1, _⟩ := source_spec (S := S) (c := c0)
    obtain ⟨S2, e2, h2⟩ := rounds_right_spec h1 (by omega) (M := 30) (w := 3) (by decide) (by decide) (by decide)
    rw [show ((30 : Nat) : Int) = 30 from rfl] at e2
    obtain ⟨N, hN⟩ : ∃ N : Nat, Hide (N = 200) := ⟨_, .mk rfl⟩
    obtain ⟨N2, hN2⟩ : ∃ N : Nat, Hide (N = 201) := ⟨_, .mk rfl⟩
    have r2 : r2K (.ok [.int 1, .int 201] S2) = .ok (rangeL 1 N) S2 := by rw [r2_ok (by decide) (by decide) (by decide) (by decide) (by decide), hN.out]; rfl
    have r3 : ∀ S, r2K (.ok [.int 1, .int 202] S) = .ok (rangeL 1 N2) S := fun S => by rw [r2_ok (by decide) (by decide) (by decide) (by decide) (by decide), hN2.out]; rfl
    have q1 := guard_rounds_spec (S := S2) (f := false) (x := .lst (bigE.map D.int)) (.inl rfl) (.inl rfl) (.inr (.inl rfl)) bigE_rise (by unfold bigE; rw [List.length_map, ri_len]; decide) (g := 10) (by decide) (by decide) (b := 1000000000000000) (by decide) (by decide) (d0 := 0) (by decide) (d1 := 1) (by decide) (by decide) (d2 := 1000000000000000) (by decide) (by decide) bigE_ends (by decide)
    rw [big_what] at q1
    have q2 := eq_told (w := "right") (.inl rfl) (get_app (S := S2) (c := Cell.lst ((begs 1000000000000000 1000000000000000 200).map D.int)))
    rw [big_begs] at q1 q2
    rw [List.map_map] at q1 q2
    unfold ruleD at q1
    walk_at "evs"
    rw [ri_range, lcL_map D.int (fun k => .int (1000000000000000 * k + 5)) (fun _ => true), List.filter_eq_self.mpr (fun _ _ => rfl), show (ri 1 N).map (fun k => D.int (1000000000000000 * k + 5)) = bigE.map D.int by unfold bigE; rw [List.map_map, hN.out]; rfl]
    · clear r2 hs e1 h1 e2 h2
      generalize bigE.map D.int = BE at *
      walk_at "evs"
      rw [ri_range, lcL_map D.int (fun k => .int (1000000000000000 * k)) (fun _ => true), List.filter_eq_self.mpr (fun _ _ => rfl)]
      · rw [show (ri 1 N2).map (fun k => D.int (1000000000000000 * k)) = (ri 1 201).map (D.int ∘ fun k => 1000000000000000 * k) by rw [hN2.out]; rfl]
        generalize (ri 1 201).map (D.int ∘ fun k => 1000000000000000 * k) = BF at *
        clear r3 q1
        walk_at "evs"
        exact ⟨_, rfl⟩
      · intro z hz
        have hm : MulOk 1000000000000000 z := mulOk_l (by decide) (by decide)
        clear q1 q2 r3
        refine ⟨_, rfl, rfl, fun _ => ?_⟩
        walk_at "evs"
    · intro z hz
      have hm : MulOk 1000000000000000 z := mulOk_l (by decide) (by decide)
      clear q1 q2 r3 r2
      refine ⟨_, rfl, rfl, fun _ => ?_⟩
      walk_at "evs"
end K45

open PySem PySem.W PyProof.Rows
set_option maxRecDepth 100000 in
set_option maxHeartbeats 0 in
theorem PySem.Challenge.cw_lostedits_k45_guards_holds : PySem.Challenge.rw_lostedits_k45_guards.Holds := by
  w_on; o_law; k_head; (case hw => w_witness2)
  k_fill
  refine PL.walkX (l := PySem.Challenge.rw_lostedits_k45_guards) (k := 7) (x := "_law_script") K45.law_true rfl rfl ⟨⟨rfl, by decide, by decide⟩, rfl⟩ (fun w h Y => PySem.W.kIn_of Y) ?F
  case F =>
    intro w mg fa h KX G hmg hX
    obtain ⟨t_MAX_MOMENT, v_MAX_MOMENT⟩ := PL.loose_int (x := "MAX_MOMENT") (i := 1000000000000000000) hX (by first | exact List.mem_cons_self | simp)
    have v_MAX_EVENTS : mg "MAX_EVENTS" = some (.int 200 _) := PySem.W.mg_of KX G (by k_is)
    refine' K45.all_mk KX G hmg ?a0 ?l0 ?c0 ?k0 ?a1 ?l1 ?c1 ?k1 ?a2 ?l2 ?c2 ?k2 ?a3 ?l3 ?c3 ?k3 ?a4 ?l4 ?c4 ?k4 ?a5 ?l5 ?c5 ?k5 ?a6 ?l6 ?c6 ?k6 ?a7 ?l7 ?c7 ?k7 ?a8 ?l8 ?c8 ?k8 ?a9 ?l9 ?c9 ?k9 ?a10 ?l10 ?c10 ?k10 ?a11 ?l11 ?c11 ?k11 ?a12 ?l12 ?c12 ?k12 ?a13 ?l13 ?c13 ?k13 ?a14 ?l14 ?c14 ?k14 ?a15 ?l15 ?c15 ?k15 ?a16 ?l16 ?c16 ?k16 ?a17 ?l17 ?c17 ?k17 ?a18 ?l18 ?c18 ?k18 ?a19 ?l19 ?c19 ?k19 ?a20 ?l20 ?c20 ?k20 ?a21 ?l21 ?c21 ?k21 ?a22 ?l22 ?c22 ?k22 ?a23 ?l23 ?c23 ?k23 ?a24 ?l24 ?c24 ?k24 ?a25 ?l25 ?c25 ?k25 ?a26 ?l26 ?c26 ?k26 ?a27 ?l27 ?c27 ?k27 ?a28 ?l28 ?c28 ?k28 ?a29 ?l29 ?c29 ?k29 ?a30 ?l30 ?c30 ?k30 ?a31 ?l31 ?c31 ?k31 ?z_all ?z_bool ?z_int ?z_isinstance ?z_len ?z_list ?z_max ?z_min ?z_range ?z_str ?z_tuple ?z_zip v_MAX_MOMENT v_MAX_EVENTS
    (case a0 => k_is)
    (case l0 => k_is)
    (case c0 => k_is)
    (case k0 => k_is)
    (case a1 => k_is)
    (case l1 => k_is)
    (case c1 => k_is)
    (case k1 => k_is)
    (case a2 => k_is)
    (case l2 => k_is)
    (case c2 => k_is)
    (case k2 => k_is)
    (case a3 => k_is)
    (case l3 => k_is)
    (case c3 => k_is)
    (case k3 => k_is)
    (case a4 => k_is)
    (case l4 => k_is)
    (case c4 => k_is)
    (case k4 => k_is)
    (case a5 => k_is)
    (case l5 => k_is)
    (case c5 => k_is)
    (case k5 => k_is)
    (case a6 => k_is)
    (case l6 => k_is)
    (case c6 => k_is)
    (case k6 => k_is)
    (case a7 => k_is)
    (case l7 => k_is)
    (case c7 => k_is)
    (case k7 => k_is)
    (case a8 => k_is)
    (case l8 => k_is)
    (case c8 => k_is)
    (case k8 => k_is)
    (case a9 => k_is)
    (case l9 => k_is)
    (case c9 => k_is)
    (case k9 => k_is)
    (case a10 => k_is)
    (case l10 => k_is)
    (case c10 => k_is)
    (case k10 => k_is)
    (case a11 => k_is)
    (case l11 => k_is)
    (case c11 => k_is)
    (case k11 => k_is)
    (case a12 => k_is)
    (case l12 => k_is)
    (case c12 => k_is)
    (case k12 => k_is)
    (case a13 => k_is)
    (case l13 => k_is)
    (case c13 => k_is)
    (case k13 => k_is)
    (case a14 => k_is)
    (case l14 => k_is)
    (case c14 => k_is)
    (case k14 => k_is)
    (case a15 => k_is)
    (case l15 => k_is)
    (case c15 => k_is)
    (case k15 => k_is)
    (case a16 => k_is)
    (case l16 => k_is)
    (case c16 => k_is)
    (case k16 => k_is)
    (case a17 => k_is)
    (case l17 => k_is)
    (case c17 => k_is)
    (case k17 => k_is)
    (case a18 => k_is)
    (case l18 => k_is)
    (case c18 => k_is)
    (case k18 => k_is)
    (case a19 => k_is)
    (case l19 => k_is)
    (case c19 => k_is)
    (case k19 => k_is)
    (case a20 => k_is)
    (case l20 => k_is)
    (case c20 => k_is)
    (case k20 => k_is)
    (case a21 => k_is)
    (case l21 => k_is)
    (case c21 => k_is)
    (case k21 => k_is)
    (case a22 => k_is)
    (case l22 => k_is)
    (case c22 => k_is)
    (case k22 => k_is)
    (case a23 => k_is)
    (case l23 => k_is)
    (case c23 => k_is)
    (case k23 => k_is)
    (case a24 => k_is)
    (case l24 => k_is)
    (case c24 => k_is)
    (case k24 => k_is)
    (case a25 => k_is)
    (case l25 => k_is)
    (case c25 => k_is)
    (case k25 => k_is)
    (case a26 => k_is)
    (case l26 => k_is)
    (case c26 => k_is)
    (case k26 => k_is)
    (case a27 => k_is)
    (case l27 => k_is)
    (case c27 => k_is)
    (case k27 => k_is)
    (case a28 => k_is)
    (case l28 => k_is)
    (case c28 => k_is)
    (case k28 => k_is)
    (case a29 => k_is)
    (case l29 => k_is)
    (case c29 => k_is)
    (case k29 => k_is)
    (case a30 => k_is)
    (case l30 => k_is)
    (case c30 => k_is)
    (case k30 => k_is)
    (case a31 => k_is)
    (case l31 => k_is)
    (case c31 => k_is)
    (case k31 => k_is)
    (case z_all => k_is)
    (case z_bool => k_is)
    (case z_int => k_is)
    (case z_isinstance => k_is)
    (case z_len => k_is)
    (case z_list => k_is)
    (case z_max => k_is)
    (case z_min => k_is)
    (case z_range => k_is)
    (case z_str => k_is)
    (case z_tuple => k_is)
    (case z_zip => k_is)

