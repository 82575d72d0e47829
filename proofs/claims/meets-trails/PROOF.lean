import PyProof.Rows.All
import Wide.All
import OpenK.AllK
import Wide.FinOn
import HandS.ForMost
import HandS.TupAny
import HandS.TupLe
import HandS.Rev
import HandS.IsInst
import HandS.Small
import HandS.CallRecv
import HandS.SortInts
import KE.GoesMore
import PySem.Challenge.RW_slipcatch_k12_whole_meets_and_trails
set_option Elab.async false
set_option linter.all false
set_option maxRecDepth 100000
set_option maxHeartbeats 2000000
/-! DA: data-level values, the abstract store, semantic judgements over the layer HandS. -/
namespace DL
open PySem L2

/-! ### values as data -/
/-- a value as data: tuples are data, lists, dicts and instances stand at addresses -/
inductive D where
  | non | bl (b : Bool) | int (i : Int) | str (s : Str) | tup (l : List D) | ref (a : Addr)

mutual
inductive Fz (H : Hp) : V → D → Prop
  | non : Fz H .non .non
  | bl (b : Bool) : Fz H (.bl b) (.bl b)
  | int (i : Int) : Fz H (.int i) (.int i)
  | str (s : Str) : Fz H (.str s) (.str s)
  | tup {a : Addr} {xs : List V} {ds : List D} : H a = some (.tup xs) → FzAll H xs ds → Fz H (.ref a) (.tup ds)
  | ref (a : Addr) : Fz H (.ref a) (.ref a)
inductive FzAll (H : Hp) : List V → List D → Prop
  | nil : FzAll H [] []
  | cons {v : V} {vs : List V} {d : D} {ds : List D} : Fz H v d → FzAll H vs ds → FzAll H (v :: vs) (d :: ds)
end

/-- tuples stay -/
def TK (H H' : Hp) : Prop := ∀ a xs, H a = some (.tup xs) → H' a = some (.tup xs)
theorem TK.refl (H : Hp) : TK H H := fun _ _ h => h
theorem TK.trans {H H1 H2 : Hp} (a : TK H H1) (b : TK H1 H2) : TK H H2 := fun c o h => b c o (a c o h)
theorem TK.new {H : Hp} {p : Addr} {o : HO} (h : H p = none) : TK H (upd H p o) := fun a xs e => by
  rw [upd_ne (ne_of_none e h)]; exact e
theorem TK.put {H : Hp} {p : Addr} {o u : HO} (h : H p = some u) (hu : ∀ xs, u ≠ .tup xs) : TK H (upd H p o) := fun a xs e => by
  rw [upd_ne (fun z => by subst z; rw [h] at e; exact hu xs (Option.some.inj e))]; exact e

mutual
theorem Fz.mono {H H' : Hp} (k : TK H H') : ∀ {v : V} {d : D}, Fz H v d → Fz H' v d
  | _, _, .non => .non
  | _, _, .bl b => .bl b
  | _, _, .int i => .int i
  | _, _, .str s => .str s
  | _, _, .tup h hs => .tup (k _ _ h) (FzAll.mono k hs)
  | _, _, .ref a => .ref a
theorem FzAll.mono {H H' : Hp} (k : TK H H') : ∀ {vs : List V} {ds : List D}, FzAll H vs ds → FzAll H' vs ds
  | _, _, .nil => .nil
  | _, _, .cons h hs => .cons (Fz.mono k h) (FzAll.mono k hs)
end

theorem FzAll.length {H : Hp} : ∀ {vs : List V} {ds : List D}, FzAll H vs ds → vs.length = ds.length
  | _, _, .nil => rfl
  | _, _, .cons _ hs => by rw [List.length_cons, List.length_cons, FzAll.length hs]
theorem FzAll.get {H : Hp} : ∀ {vs : List V} {ds : List D} {i : Nat} {d : D}, FzAll H vs ds → ds[i]? = some d → ∃ v, vs[i]? = some v ∧ Fz H v d
  | _, _, _, _, .nil, e => by simp at e
  | _, _, 0, _, .cons h _, e => by simp at e; subst e; exact ⟨_, rfl, h⟩
  | _, _, i + 1, d, .cons _ hs, e => by
    obtain ⟨v, h1, h2⟩ := FzAll.get (i := i) (d := d) hs (by simpa using e)
    exact ⟨v, by simpa using h1, h2⟩
theorem FzAll.getV {H : Hp} : ∀ {vs : List V} {ds : List D} {i : Nat} {v : V}, FzAll H vs ds → vs[i]? = some v → ∃ d, ds[i]? = some d ∧ Fz H v d
  | _, _, _, _, .nil, e => by simp at e
  | _, _, 0, _, .cons h _, e => by simp at e; subst e; exact ⟨_, rfl, h⟩
  | _, _, i + 1, d, .cons _ hs, e => by
    obtain ⟨v, h1, h2⟩ := FzAll.getV (i := i) hs (by simpa using e)
    exact ⟨v, by simpa using h1, h2⟩
theorem FzAll.append {H : Hp} : ∀ {vs ws : List V} {ds es : List D}, FzAll H vs ds → FzAll H ws es → FzAll H (vs ++ ws) (ds ++ es)
  | _, _, _, _, .nil, s => s
  | _, _, _, _, .cons r t, s => .cons r (FzAll.append t s)
theorem FzAll.take {H : Hp} : ∀ {vs : List V} {ds : List D} (n : Nat), FzAll H vs ds → FzAll H (vs.take n) (ds.take n)
  | _, _, 0, _ => .nil
  | _, _, _ + 1, .nil => .nil
  | _, _, n + 1, .cons r t => .cons r (FzAll.take n t)
theorem FzAll.drop {H : Hp} : ∀ {vs : List V} {ds : List D} (n : Nat), FzAll H vs ds → FzAll H (vs.drop n) (ds.drop n)
  | _, _, 0, r => r
  | _, _, _ + 1, .nil => .nil
  | _, _, n + 1, .cons _ t => FzAll.drop n t
theorem FzAll.set {H : Hp} {x : V} {u : D} (r : Fz H x u) : ∀ {vs : List V} {ds : List D} (i : Nat), FzAll H vs ds → FzAll H (vs.set i x) (ds.set i u)
  | _, _, _, .nil => .nil
  | _, _, 0, .cons _ t => .cons r t
  | _, _, i + 1, .cons q t => .cons q (FzAll.set r i t)
theorem FzAll.dropLast {H : Hp} : ∀ {vs : List V} {ds : List D}, FzAll H vs ds → FzAll H vs.dropLast ds.dropLast
  | _, _, .nil => .nil
  | _, _, .cons _ .nil => .nil
  | _, _, .cons r (.cons q t) => .cons r (FzAll.dropLast (.cons q t))
theorem FzAll.reverse {H : Hp} : ∀ {vs : List V} {ds : List D}, FzAll H vs ds → FzAll H vs.reverse ds.reverse
  | _, _, .nil => .nil
  | _, _, .cons r t => by rw [List.reverse_cons, List.reverse_cons]; exact FzAll.append (FzAll.reverse t) (.cons r .nil)
theorem FzAll.nilV {H : Hp} {ds : List D} (h : FzAll H [] ds) : ds = [] := by cases h; rfl
theorem FzAll.nilD {H : Hp} {vs : List V} (h : FzAll H vs []) : vs = [] := by cases h; rfl
theorem FzAll.ints {H : Hp} : ∀ {vs : List V} {ns : List Int}, FzAll H vs (ns.map D.int) → vs = ns.map V.int
  | _, [], h => by cases h; rfl
  | _, n :: ns, h => by
    cases h with
    | cons r t => cases r; rw [List.map_cons, FzAll.ints t]
theorem FzAll.strs {H : Hp} : ∀ {vs : List V} {ns : List Str}, FzAll H vs (ns.map D.str) → vs = ns.map V.str
  | _, [], h => by cases h; rfl
  | _, n :: ns, h => by
    cases h with
    | cons r t => cases r; rw [List.map_cons, FzAll.strs t]
theorem FzAll.ofInts {H : Hp} : ∀ (ns : List Int), FzAll H (ns.map V.int) (ns.map D.int)
  | [] => .nil
  | n :: ns => .cons (.int n) (FzAll.ofInts ns)
theorem FzAll.ofStrs {H : Hp} : ∀ (ns : List Str), FzAll H (ns.map V.str) (ns.map D.str)
  | [] => .nil
  | n :: ns => .cons (.str n) (FzAll.ofStrs ns)

/-! ### the store -/
inductive DO where
  | lst (ds : List D)
  | dK (kvs : List (Key × D))
  | dT (kvs : List (List Key × D))
  | ins (C : Addr) (fs : List (Str × D))
  /-- a list that is only read (the script) -/
  | rd (ds : List D)
abbrev M := Addr → Option DO
def mup (m : M) (a : Addr) (o : DO) : M := fun b => if b = a then some o else m b
theorem mup_same {m : M} {a : Addr} {o : DO} : mup m a o a = some o := by unfold mup; rw [if_pos rfl]
theorem mup_ne {m : M} {a b : Addr} {o : DO} (h : b ≠ a) : mup m a o b = m b := by unfold mup; rw [if_neg h]
theorem mup_mup {m : M} {a : Addr} {o u : DO} : mup (mup m a o) a u = mup m a u := by
  funext b; unfold mup; split <;> rfl
theorem mne {m : M} {a b : Addr} {o : DO} (h : m a = some o) (h' : m b = none) : a ≠ b := by
  intro e; subst e; rw [h] at h'; cases h'
theorem mnf {m : M} {a b : Addr} {o u : DO} (h : m a = some o) (h' : m b = some u) (d : o ≠ u) : a ≠ b := by
  intro e; subst e; rw [h] at h'; exact d (Option.some.inj h')

def KR {κ : Type} (H : Hp) : (κ × V) → (κ × D) → Prop := fun p q => p.1 = q.1 ∧ Fz H p.2 q.2
def OA (K : PySem.W.Frag) (H : Hp) (a : Addr) : DO → Prop
  | .lst ds => ∃ xs, H a = some (.lst xs) ∧ FzAll H xs ds
  | .dK kvs => ∃ ks, H a = some (.dK ks) ∧ Paired (KR H) ks kvs
  | .dT kvs => ∃ ks, H a = some (.dT ks) ∧ Paired (KR H) ks kvs
  | .ins C fs => ∃ dx gs, H a = some (.ins C dx gs) ∧ Paired (KR H) gs fs
  | .rd ds => ∃ xs, SqL K H a xs ∧ FzAll H xs ds
def AbsM (K : PySem.W.Frag) (H : Hp) (m : M) : Prop := ∀ a o, m a = some o → OA K H a o
def Kf (K : PySem.W.Frag) (H : Hp) : Prop := ∀ a o, H a = some o → K.lookup a = none

theorem KR.mono {κ : Type} {H H' : Hp} (k : TK H H') {p : κ × V} {q : κ × D} (h : KR H p q) : KR H' p q := ⟨h.1, h.2.mono k⟩
theorem KRs.mono {κ : Type} {H H' : Hp} (k : TK H H') {ps : List (κ × V)} {qs : List (κ × D)} (h : Paired (KR H) ps qs) : Paired (KR H') ps qs :=
  Paired.mapP h fun _ _ => KR.mono k

theorem SqL.keep {K : PySem.W.Frag} {H H' : Hp} {a : Addr} {xs : List V} (h : SqL K H a xs) (e : H' a = H a) : SqL K H' a xs := by
  rcases h with (h | ⟨o, h⟩) | h
  · exact .inl (.inl (e.trans h))
  · exact .inl (.inr ⟨o, e.trans h⟩)
  · exact .inr h
theorem OA.keep {K : PySem.W.Frag} {H H' : Hp} {a : Addr} (k : TK H H') (e : H' a = H a) : ∀ {o : DO}, OA K H a o → OA K H' a o
  | .lst _, ⟨xs, h, f⟩ => ⟨xs, e.trans h, f.mono k⟩
  | .dK _, ⟨xs, h, f⟩ => ⟨xs, e.trans h, KRs.mono k f⟩
  | .dT _, ⟨xs, h, f⟩ => ⟨xs, e.trans h, KRs.mono k f⟩
  | .ins _ _, ⟨dx, xs, h, f⟩ => ⟨dx, xs, e.trans h, KRs.mono k f⟩
  | .rd _, ⟨xs, h, f⟩ => ⟨xs, SqL.keep h e, f.mono k⟩
/-- the object at p is written -/
theorem AbsM.put {K : PySem.W.Frag} {H : Hp} {m : M} {p : Addr} {u : HO} {o : DO} (am : AbsM K H m) (k : TK H (upd H p u)) (h : OA K (upd H p u) p o) : AbsM K (upd H p u) (mup m p o) := fun a x e => by
  by_cases ha : a = p
  · subst ha; rw [mup_same] at e; cases e; exact h
  · rw [mup_ne ha] at e
    exact (am a x e).keep k (upd_ne ha)
/-- something unknown to m is new -/
theorem AbsM.new {K : PySem.W.Frag} {H : Hp} {m : M} {p : Addr} {u : HO} (am : AbsM K H m) (hp : m p = none) (k : TK H (upd H p u)) : AbsM K (upd H p u) m := fun a x e =>
  (am a x e).keep k (upd_ne (mne e hp))
/-- what is new is not in m -/
theorem AbsM.free {K : PySem.W.Frag} {H : Hp} {m : M} {p : Addr} (am : AbsM K H m) (hn : H p = none) (hk : K.lookup p = none) : m p = none := by
  cases e : m p with
  | none => rfl
  | some o =>
    have h := am p o e
    cases o with
    | lst ds => obtain ⟨xs, q, _⟩ := h; rw [hn] at q; cases q
    | dK ds => obtain ⟨xs, q, _⟩ := h; rw [hn] at q; cases q
    | dT ds => obtain ⟨xs, q, _⟩ := h; rw [hn] at q; cases q
    | ins C fs => obtain ⟨dx, xs, q, _⟩ := h; rw [hn] at q; cases q
    | rd ds =>
      obtain ⟨xs, q, _⟩ := h
      rcases q with (q | ⟨o, q⟩) | ⟨o, its, n, q, _⟩
      · rw [hn] at q; cases q
      · rw [hn] at q; cases q
      · rw [hk] at q; cases q
/-- less may be known -/
def Sub (m m' : M) : Prop := ∀ a o, m a = some o → m' a = some o
theorem Sub.refl (m : M) : Sub m m := fun _ _ h => h
theorem Sub.trans {m m1 m2 : M} (a : Sub m m1) (b : Sub m1 m2) : Sub m m2 := fun c o h => b c o (a c o h)
theorem Sub.new {m : M} {p : Addr} {o : DO} (h : m p = none) : Sub m (mup m p o) := fun a x e => by rw [mup_ne (mne e h)]; exact e
theorem AbsM.sub {K : PySem.W.Frag} {H : Hp} {m m' : M} (am : AbsM K H m') (s : Sub m m') : AbsM K H m := fun a o e => am a o (s a o e)

/-! ### the slots -/
abbrev G := List (Option D)
structure AbsG (H : Hp) (σ : St) (Γ : G) : Prop where
  len : Γ.length = σ.length
  get : ∀ (i : Nat) (d : D), Γ[i]? = some (some d) → ∃ v, σ[i]? = some (some v) ∧ Fz H v d
theorem AbsG.mono {H H' : Hp} {σ : St} {Γ : G} (g : AbsG H σ Γ) (k : TK H H') : AbsG H' σ Γ :=
  ⟨g.len, fun i d e => let ⟨v, h1, h2⟩ := g.get i d e; ⟨v, h1, h2.mono k⟩⟩
theorem AbsG.set {H : Hp} {σ : St} {Γ : G} {v : V} {d : D} (g : AbsG H σ Γ) (i : Nat) (f : Fz H v d) : AbsG H (σ.set i (some v)) (Γ.set i (some d)) := by
  refine ⟨by rw [List.length_set, List.length_set, g.len], fun j e h => ?_⟩
  by_cases hj : i = j
  · subst hj
    have hl : i < Γ.length := by
      have := (List.getElem?_eq_some_iff.mp h).1
      simpa using this
    rw [List.getElem?_set_self hl] at h
    cases h
    exact ⟨v, by rw [List.getElem?_set_self (by rw [← g.len]; exact hl)], f⟩
  · rw [List.getElem?_set_ne hj] at h
    rw [List.getElem?_set_ne hj]
    exact g.get j e h
/-- forgetting -/
theorem AbsG.weak {H : Hp} {σ : St} {Γ Γ' : G} (g : AbsG H σ Γ) (hl : Γ'.length = Γ.length) (h : ∀ (i : Nat) (d : D), Γ'[i]? = some (some d) → Γ[i]? = some (some d)) : AbsG H σ Γ' :=
  ⟨hl.trans g.len, fun i d e => g.get i d (h i d e)⟩

/-! ### canonical readings -/
theorem inv_kf {X : Cx} {pins : List (Addr × Obj)} {σ : St} {H : Hp} {s : Shared} (I : Inv X pins σ H s) : Kf X.K H := fun a o e => by
  cases q : X.K.lookup a with
  | none => rfl
  | some ob =>
    have h1 := (I.bs a ob (I.ok.mod.kin a ob q)).2
    rw [e] at h1; cases h1

def WE (X : Cx) (e : Expr) : TE := fun σ H Q => ∀ (pins : List (Addr × Obj)) (s : Shared), Inv X pins σ H s → wpAny (model X.prog X.w) X.A (eval e X.env) (EP X pins σ Q) X.xe s
def WT (X : Cx) (e : Expr) : TT := fun σ H Q => ∀ (pins : List (Addr × Obj)) (s : Shared), Inv X pins σ H s → wpAny (model X.prog X.w) X.A (isTrue e X.env (eval e X.env)) (TP X pins σ Q) X.xe s
def WW (X : Cx) (e : Expr) : TT := fun σ H Q => ∀ (whole : Sem Value) (pins : List (Addr × Obj)) (s : Shared), Inv X pins σ H s → wpAny (model X.prog X.w) X.A (isTrue e X.env whole) (TP X pins σ Q) X.xe s
def WA (X : Cx) (es : List Expr) : TA := fun σ H Q => ∀ (pos : Pos) (pins : List (Addr × Obj)) (s : Shared), Inv X pins σ H s → wpAny (model X.prog X.w) X.A (spliced (backTo pos (starEach es X.env))) (AP X pins σ Q) X.xe s
def WS (X : Cx) (st : Stmt) : TS := fun D σ H => ∀ (pins : List (Addr × Obj)) (s : Shared), Inv X pins σ H s → wpAny (model X.prog X.w) X.A (exec st X.env) (SP X pins D) X.xe s
def WB (X : Cx) (st : List Stmt) : TS := fun D σ H => ∀ (pins : List (Addr × Obj)) (s : Shared), Inv X pins σ H s → wpAny (model X.prog X.w) X.A (execs st X.env) (SP X pins D) X.xe s
def WG (X : Cx) (target : Expr) : TG := fun v σ H Q => ∀ (pins : List (Addr × Obj)) (s : Shared) (u : Value), Inv X pins σ H s → RelV v u →
    wpAny (model X.prog X.w) X.A (assign target X.env u) (fun _ s' => ∃ σ' H', Inv X pins σ' H' s' ∧ Q σ' H') X.xe s
def WGs (X : Cx) (ts : List Expr) : TGs := fun vs σ H Q => ∀ (pins : List (Addr × Obj)) (s : Shared) (us : List Value), Inv X pins σ H s → Vals vs us →
    wpAny (model X.prog X.w) X.A (assignInOrder ((assignEach ts X.env).map (·.2)) us) (fun _ s' => ∃ σ' H', Inv X pins σ' H' s' ∧ Q σ' H') X.xe s
section
variable {X : Cx} {e : Expr} {es : List Expr} {st : Stmt} {sts : List Stmt} {σ : St} {H : Hp}
theorem we_pe : PE X e (WE X e) := ⟨fun pins s _ _ _ I h => h pins s I⟩
theorem wt_pt : PT X e (WT X e) := ⟨fun pins s _ _ _ I h => h pins s I⟩
theorem ww_pw : PW X e (WW X e) := ⟨fun wh pins s _ _ _ I h => h wh pins s I⟩
theorem wa_pa : PA X es (WA X es) := ⟨fun pos pins s _ _ _ I h => h pos pins s I⟩
theorem ws_ps : PS X st (WS X st) := ⟨fun pins s _ _ _ I h => h pins s I⟩
theorem wb_pss : PSs X sts (WB X sts) := ⟨fun pins s _ _ _ I h => h pins s I⟩
theorem wg_pg : PG X e (WG X e) := ⟨fun pins s _ _ v u _ I r h => h pins s u I r⟩
theorem wgs_pgs : PGs X es (WGs X es) := ⟨fun pins s _ _ vs us _ I r h => h pins s us I r⟩
theorem WE.of {t : TE} {Q : VK} (h : PE X e t) (q : t σ H Q) : WE X e σ H Q := fun pins s I => h.run pins s σ H Q I q
theorem WT.of {t : TT} {Q : Bool → Hp → Prop} (h : PT X e t) (q : t σ H Q) : WT X e σ H Q := fun pins s I => h.run pins s σ H Q I q
theorem WW.of {t : TT} {Q : Bool → Hp → Prop} (h : PW X e t) (q : t σ H Q) : WW X e σ H Q := fun wh pins s I => h.run wh pins s σ H Q I q
theorem WA.of {t : TA} {Q : List V → Hp → Prop} (h : PA X es t) (q : t σ H Q) : WA X es σ H Q := fun pos pins s I => h.run pos pins s σ H Q I q
theorem WS.of {t : TS} {D : Ends} (h : PS X st t) (q : t D σ H) : WS X st D σ H := fun pins s I => h.run pins s σ H D I q
theorem WB.of {t : TS} {D : Ends} (h : PSs X sts t) (q : t D σ H) : WB X sts D σ H := fun pins s I => h.run pins s σ H D I q
theorem WG.of {t : TG} {v : V} {Q : St → Hp → Prop} (h : PG X e t) (q : t v σ H Q) : WG X e v σ H Q := fun pins s u I r => h.run pins s σ H v u Q I r q
theorem WGs.of {t : TGs} {vs : List V} {Q : St → Hp → Prop} (h : PGs X es t) (q : t vs σ H Q) : WGs X es vs σ H Q := fun pins s us I r => h.run pins s σ H vs us Q I r q
/-- weaken; what is tracked is not in the written part -/
theorem WE.mono {Q Q' : VK} (h : WE X e σ H Q) (k : ∀ v H', Kf X.K H' → Q v H' → Q' v H') : WE X e σ H Q' := fun pins s I =>
  thn (h pins s I) fun _ _ ⟨v, H', I', r, q⟩ => ⟨v, H', I', r, k v H' (inv_kf I') q⟩
theorem WT.mono {Q Q' : Bool → Hp → Prop} (h : WT X e σ H Q) (k : ∀ v H', Kf X.K H' → Q v H' → Q' v H') : WT X e σ H Q' := fun pins s I =>
  thn (h pins s I) fun v _ ⟨H', I', q⟩ => ⟨H', I', k v H' (inv_kf I') q⟩
theorem WW.mono {Q Q' : Bool → Hp → Prop} (h : WW X e σ H Q) (k : ∀ v H', Kf X.K H' → Q v H' → Q' v H') : WW X e σ H Q' := fun wh pins s I =>
  thn (h wh pins s I) fun v _ ⟨H', I', q⟩ => ⟨H', I', k v H' (inv_kf I') q⟩
theorem WA.mono {Q Q' : List V → Hp → Prop} (h : WA X es σ H Q) (k : ∀ v H', Kf X.K H' → Q v H' → Q' v H') : WA X es σ H Q' := fun pos pins s I =>
  thn (h pos pins s I) fun _ _ ⟨v, H', I', r, q⟩ => ⟨v, H', I', r, k v H' (inv_kf I') q⟩
theorem WG.mono {v : V} {Q Q' : St → Hp → Prop} (h : WG X e v σ H Q) (k : ∀ σ' H', Kf X.K H' → Q σ' H' → Q' σ' H') : WG X e v σ H Q' := fun pins s u I r =>
  thn (h pins s u I r) fun _ _ ⟨σ', H', I', q⟩ => ⟨σ', H', I', k σ' H' (inv_kf I') q⟩
theorem WGs.mono {vs : List V} {Q Q' : St → Hp → Prop} (h : WGs X es vs σ H Q) (k : ∀ σ' H', Kf X.K H' → Q σ' H' → Q' σ' H') : WGs X es vs σ H Q' := fun pins s us I r =>
  thn (h pins s us I r) fun _ _ ⟨σ', H', I', q⟩ => ⟨σ', H', I', k σ' H' (inv_kf I') q⟩
/-- a statement's ends, weakened -/
structure EndsLe (K : PySem.W.Frag) (D D' : Ends) : Prop where
  nx : ∀ σ H, Kf K H → D.nx σ H → D'.nx σ H
  rt : ∀ v H, Kf K H → D.rt v H → D'.rt v H
  bk : ∀ σ H, Kf K H → D.bk σ H → D'.bk σ H
  ct : ∀ σ H, Kf K H → D.ct σ H → D'.ct σ H
theorem SP.mono {pins : List (Addr × Obj)} {D D' : Ends} {f : Flow} {s : Shared} (k : EndsLe X.K D D') (h : SP X pins D f s) : SP X pins D' f s := by
  cases f with
  | next => obtain ⟨σ', H', I, q⟩ := h; exact ⟨σ', H', I, k.nx _ _ (inv_kf I) q⟩
  | brk => obtain ⟨σ', H', I, q⟩ := h; exact ⟨σ', H', I, k.bk _ _ (inv_kf I) q⟩
  | cont => obtain ⟨σ', H', I, q⟩ := h; exact ⟨σ', H', I, k.ct _ _ (inv_kf I) q⟩
  | ret u => obtain ⟨v, σ', H', I, r, q⟩ := h; exact ⟨v, σ', H', I, r, k.rt _ _ (inv_kf I) q⟩
theorem WS.mono {D D' : Ends} (h : WS X st D σ H) (k : EndsLe X.K D D') : WS X st D' σ H := fun pins s I => thn (h pins s I) fun _ _ q => SP.mono k q
theorem WB.mono {D D' : Ends} (h : WB X sts D σ H) (k : EndsLe X.K D D') : WB X sts D' σ H := fun pins s I => thn (h pins s I) fun _ _ q => SP.mono k q
end

/-! ### the judgements -/
/-- behind an expression -/
def PV (K : PySem.W.Frag) (H : Hp) (Q : D → M → Prop) : VK := fun v H' => Kf K H' → TK H H' ∧ ∃ d m', Fz H' v d ∧ AbsM K H' m' ∧ Q d m'
def PB (K : PySem.W.Frag) (H : Hp) (Q : Bool → M → Prop) : Bool → Hp → Prop := fun b H' => Kf K H' → TK H H' ∧ ∃ m', AbsM K H' m' ∧ Q b m'
def PL (K : PySem.W.Frag) (H : Hp) (Q : List D → M → Prop) : List V → Hp → Prop := fun vs H' => Kf K H' → TK H H' ∧ ∃ ds m', FzAll H' vs ds ∧ AbsM K H' m' ∧ Q ds m'
def PN (K : PySem.W.Frag) (H : Hp) (Q : G → M → Prop) : St → Hp → Prop := fun σ' H' => Kf K H' → TK H H' ∧ ∃ Γ' m', AbsG H' σ' Γ' ∧ AbsM K H' m' ∧ Q Γ' m'
structure DEnds where
  nx : G → M → Prop
  rt : D → M → Prop
  bk : G → M → Prop := fun _ _ => False
  ct : G → M → Prop := fun _ _ => False
def EN (K : PySem.W.Frag) (H : Hp) (E : DEnds) : Ends := ⟨PN K H E.nx, PV K H E.rt, PN K H E.bk, PN K H E.ct⟩
/-- where one stands -/
structure At (X : Cx) (σ : St) (H : Hp) (Γ : G) (m : M) : Prop where
  kf : Kf X.K H
  g : AbsG H σ Γ
  am : AbsM X.K H m
def DE (X : Cx) (e : Expr) (Γ : G) (m : M) (Q : D → M → Prop) : Prop := ∀ σ H, At X σ H Γ m → WE X e σ H (PV X.K H Q)
def DT (X : Cx) (e : Expr) (Γ : G) (m : M) (Q : Bool → M → Prop) : Prop := ∀ σ H, At X σ H Γ m → WT X e σ H (PB X.K H Q)
def DW (X : Cx) (e : Expr) (Γ : G) (m : M) (Q : Bool → M → Prop) : Prop := ∀ σ H, At X σ H Γ m → WW X e σ H (PB X.K H Q)
def DA (X : Cx) (es : List Expr) (Γ : G) (m : M) (Q : List D → M → Prop) : Prop := ∀ σ H, At X σ H Γ m → WA X es σ H (PL X.K H Q)
def DS (X : Cx) (st : Stmt) (Γ : G) (m : M) (E : DEnds) : Prop := ∀ σ H, At X σ H Γ m → WS X st (EN X.K H E) σ H
def DB (X : Cx) (st : List Stmt) (Γ : G) (m : M) (E : DEnds) : Prop := ∀ σ H, At X σ H Γ m → WB X st (EN X.K H E) σ H
def DG (X : Cx) (tg : Expr) (d : D) (Γ : G) (m : M) (Q : G → M → Prop) : Prop := ∀ σ H v, At X σ H Γ m → Fz H v d → WG X tg v σ H (PN X.K H Q)
def DGs (X : Cx) (ts : List Expr) (ds : List D) (Γ : G) (m : M) (Q : G → M → Prop) : Prop := ∀ σ H vs, At X σ H Γ m → FzAll H vs ds → WGs X ts vs σ H (PN X.K H Q)
/-- a two-place operation on values -/
def D2 (X : Cx) (r : R2) (d e : D) (m : M) (Q : D → M → Prop) : Prop := ∀ v w H H0, TK H0 H → Kf X.K H → Fz H v d → Fz H w e → AbsM X.K H m → r v w H (PV X.K H0 Q)
/-- a one-place one -/
def D1 (X : Cx) (r : V → Hp → VK → Prop) (d : D) (m : M) (Q : D → M → Prop) : Prop := ∀ v H H0, TK H0 H → Kf X.K H → Fz H v d → AbsM X.K H m → r v H (PV X.K H0 Q)
/-- a call on values -/
def DC (X : Cx) (r : List V → Hp → VK → Prop) (ds : List D) (m : M) (Q : D → M → Prop) : Prop := ∀ vs H H0, TK H0 H → Kf X.K H → FzAll H vs ds → AbsM X.K H m → r vs H (PV X.K H0 Q)

section
variable {X : Cx} {K : PySem.W.Frag} {e : Expr} {es : List Expr} {st : Stmt} {sts : List Stmt} {σ : St} {H H0 H1 : Hp} {Γ : G} {m : M}
theorem PV.back {Q : D → M → Prop} {v : V} {H' : Hp} (k : TK H0 H) (h : PV K H Q v H') : PV K H0 Q v H' := fun kf => let ⟨a, b⟩ := h kf; ⟨k.trans a, b⟩
theorem PB.back {Q : Bool → M → Prop} {v : Bool} {H' : Hp} (k : TK H0 H) (h : PB K H Q v H') : PB K H0 Q v H' := fun kf => let ⟨a, b⟩ := h kf; ⟨k.trans a, b⟩
theorem PL.back {Q : List D → M → Prop} {v : List V} {H' : Hp} (k : TK H0 H) (h : PL K H Q v H') : PL K H0 Q v H' := fun kf => let ⟨a, b⟩ := h kf; ⟨k.trans a, b⟩
theorem PN.back {Q : G → M → Prop} {v : St} {H' : Hp} (k : TK H0 H) (h : PN K H Q v H') : PN K H0 Q v H' := fun kf => let ⟨a, b⟩ := h kf; ⟨k.trans a, b⟩
theorem EN.back {E : DEnds} (k : TK H0 H) : EndsLe K (EN K H E) (EN K H0 E) := ⟨fun _ _ _ q => PN.back k q, fun _ _ _ q => PV.back k q, fun _ _ _ q => PN.back k q, fun _ _ _ q => PN.back k q⟩
theorem At.mono (a : At X σ H Γ m) (k : TK H H1) (kf : Kf X.K H1) {m1 : M} (am : AbsM X.K H1 m1) : At X σ H1 Γ m1 := ⟨kf, a.g.mono k, am⟩
theorem DE.run {Q : D → M → Prop} (h : DE X e Γ m Q) (a : At X σ H Γ m) (k : TK H0 H) : WE X e σ H (PV X.K H0 Q) := (h σ H a).mono fun _ _ _ q => PV.back k q
theorem DT.run {Q : Bool → M → Prop} (h : DT X e Γ m Q) (a : At X σ H Γ m) (k : TK H0 H) : WT X e σ H (PB X.K H0 Q) := (h σ H a).mono fun _ _ _ q => PB.back k q
theorem DW.run {Q : Bool → M → Prop} (h : DW X e Γ m Q) (a : At X σ H Γ m) (k : TK H0 H) : WW X e σ H (PB X.K H0 Q) := (h σ H a).mono fun _ _ _ q => PB.back k q
theorem DA.run {Q : List D → M → Prop} (h : DA X es Γ m Q) (a : At X σ H Γ m) (k : TK H0 H) : WA X es σ H (PL X.K H0 Q) := (h σ H a).mono fun _ _ _ q => PL.back k q
theorem DS.run {E : DEnds} (h : DS X st Γ m E) (a : At X σ H Γ m) (k : TK H0 H) : WS X st (EN X.K H0 E) σ H := (h σ H a).mono (EN.back k)
theorem DB.run {E : DEnds} (h : DB X sts Γ m E) (a : At X σ H Γ m) (k : TK H0 H) : WB X sts (EN X.K H0 E) σ H := (h σ H a).mono (EN.back k)
theorem DG.run {Q : G → M → Prop} {d : D} {v : V} (h : DG X e d Γ m Q) (a : At X σ H Γ m) (f : Fz H v d) (k : TK H0 H) : WG X e v σ H (PN X.K H0 Q) := (h σ H v a f).mono fun _ _ _ q => PN.back k q
theorem DGs.run {Q : G → M → Prop} {ds : List D} {vs : List V} (h : DGs X es ds Γ m Q) (a : At X σ H Γ m) (f : FzAll H vs ds) (k : TK H0 H) : WGs X es vs σ H (PN X.K H0 Q) := (h σ H vs a f).mono fun _ _ _ q => PN.back k q

/-- an expression, then what is done with its value -/
theorem DE.thn {Q : D → M → Prop} {R : VK} (h : DE X e Γ m Q) (a : At X σ H Γ m)
    (k : ∀ v H' d m', At X σ H' Γ m' → TK H H' → Fz H' v d → Q d m' → R v H') : WE X e σ H R :=
  (h σ H a).mono fun v H' kf q => let ⟨tk, d, m', f, am, q'⟩ := q kf; k v H' d m' (a.mono tk kf am) tk f q'
theorem DT.thn {Q : Bool → M → Prop} {R : Bool → Hp → Prop} (h : DT X e Γ m Q) (a : At X σ H Γ m)
    (k : ∀ b H' m', At X σ H' Γ m' → TK H H' → Q b m' → R b H') : WT X e σ H R :=
  (h σ H a).mono fun v H' kf q => let ⟨tk, m', am, q'⟩ := q kf; k v H' m' (a.mono tk kf am) tk q'
theorem DW.thn {Q : Bool → M → Prop} {R : Bool → Hp → Prop} (h : DW X e Γ m Q) (a : At X σ H Γ m)
    (k : ∀ b H' m', At X σ H' Γ m' → TK H H' → Q b m' → R b H') : WW X e σ H R :=
  (h σ H a).mono fun v H' kf q => let ⟨tk, m', am, q'⟩ := q kf; k v H' m' (a.mono tk kf am) tk q'
theorem DA.thn {Q : List D → M → Prop} {R : List V → Hp → Prop} (h : DA X es Γ m Q) (a : At X σ H Γ m)
    (k : ∀ vs H' ds m', At X σ H' Γ m' → TK H H' → FzAll H' vs ds → Q ds m' → R vs H') : WA X es σ H R :=
  (h σ H a).mono fun v H' kf q => let ⟨tk, d, m', f, am, q'⟩ := q kf; k v H' d m' (a.mono tk kf am) tk f q'
theorem DG.thn {Q : G → M → Prop} {R : St → Hp → Prop} {d : D} {v : V} (h : DG X e d Γ m Q) (a : At X σ H Γ m) (f : Fz H v d)
    (k : ∀ σ' H' Γ' m', At X σ' H' Γ' m' → TK H H' → Q Γ' m' → R σ' H') : WG X e v σ H R :=
  (h σ H v a f).mono fun v H' kf q => let ⟨tk, Γ', m', g, am, q'⟩ := q kf; k v H' Γ' m' ⟨kf, g, am⟩ tk q'
theorem DE.imp {Q Q' : D → M → Prop} (h : DE X e Γ m Q) (k : ∀ d m', Q d m' → Q' d m') : DE X e Γ m Q' := fun σ H a =>
  (h σ H a).mono fun v H' _ q kf => let ⟨tk, d, m', f, am, q'⟩ := q kf; ⟨tk, d, m', f, am, k d m' q'⟩
theorem DT.imp {Q Q' : Bool → M → Prop} (h : DT X e Γ m Q) (k : ∀ d m', Q d m' → Q' d m') : DT X e Γ m Q' := fun σ H a =>
  (h σ H a).mono fun v H' _ q kf => let ⟨tk, m', am, q'⟩ := q kf; ⟨tk, m', am, k v m' q'⟩
/-- the end of an expression -/
theorem PV.mk {Q : D → M → Prop} {v : V} {d : D} (k : TK H0 H) (f : Fz H v d) (am : AbsM K H m) (q : Q d m) : PV K H0 Q v H := fun _ => ⟨k, d, m, f, am, q⟩
theorem PB.mk {Q : Bool → M → Prop} {b : Bool} (k : TK H0 H) (am : AbsM K H m) (q : Q b m) : PB K H0 Q b H := fun _ => ⟨k, m, am, q⟩
theorem PN.mk {Q : G → M → Prop} (k : TK H0 H) (g : AbsG H σ Γ) (am : AbsM K H m) (q : Q Γ m) : PN K H0 Q σ H := fun _ => ⟨k, Γ, m, g, am, q⟩
end
end DL

set_option maxHeartbeats 2000000
/-! DR: the rules of the data level, expressions. -/
namespace DL
open PySem L2
open PyProof.Rows (subscriptTail)

/-- a key as data -/
def kD : Key → D
  | .inl i => .int i
  | .inr x => .str x
theorem fz_key {H : Hp} : ∀ {k : Key} {v : V}, Fz H v (kD k) → v = kV k
  | .inl _, _, h => by cases h; rfl
  | .inr _, _, h => by cases h; rfl
theorem fz_keys {H : Hp} : ∀ {ks : List Key} {vs : List V}, FzAll H vs (ks.map kD) → vs = ks.map kV
  | [], _, h => by cases h; rfl
  | k :: ks, _, h => by
    cases h with
    | cons r t => rw [fz_key r, fz_keys t]; rfl

section
variable {X : Cx} {a b e o i : Expr} {es : List Expr} {Γ : G} {m : M} {pos : Pos} {Q : D → M → Prop} {QB : Bool → M → Prop}

/-! ### names and constants -/
theorem de_v (n : Nat) {x : Str} {d : D} (hN : X.N[n]? = some x) (hv : Vis X.env.scope x) (hd : (x == ("__debug__" : Str)) = false ∧ (x == ("__classdict__" : Str)) = false)
    (e : Γ[n]? = some (some d)) (q : Q d m) : DE X (.Name x pos) Γ m Q := fun σ H at_ => by
  obtain ⟨v, h1, f⟩ := at_.g.get n d e
  exact WE.of (pe_var hN hv hd.1 hd.2) ⟨v, h1, PV.mk (TK.refl _) f at_.am q⟩
theorem de_int {n : Int} {j : Nat} (q : Q (.int n) m) : DE X (.Constant (.int n) j pos) Γ m Q := fun σ H at_ => WE.of pe_int (PV.mk (TK.refl _) (.int n) at_.am q)
theorem de_str {n : Str} {j : Nat} (q : Q (.str n) m) : DE X (.Constant (.str n) j pos) Γ m Q := fun σ H at_ => WE.of pe_str (PV.mk (TK.refl _) (.str n) at_.am q)
theorem de_bl {n : Bool} {j : Nat} (q : Q (.bl n) m) : DE X (.Constant (.bool n) j pos) Γ m Q := fun σ H at_ => WE.of pe_bl (PV.mk (TK.refl _) (.bl n) at_.am q)
theorem de_non {j : Nat} (q : Q .non m) : DE X (.Constant .none j pos) Γ m Q := fun σ H at_ => WE.of pe_non (PV.mk (TK.refl _) .non at_.am q)

/-! ### operators -/
def W2 (X : Cx) (f : Value → Value → Sem Value) : R2 := fun v w H Q => ∀ (pins : List (Addr × Obj)) (s : Shared) (σ : St) (u1 u2 : Value), Inv X pins σ H s → RelV v u1 → RelV w u2 → wpAny (model X.prog X.w) X.A (f u1 u2) (EP X pins σ Q) X.xe s
theorem w2_op {f : Value → Value → Sem Value} : OpR X f (W2 X f) := fun pins s σ H x y v u Q I rx ry h => h pins s σ v u I rx ry
theorem W2.of {f : Value → Value → Sem Value} {r : R2} {v w : V} {H : Hp} {R : VK} (ho : OpR X f r) (h : r v w H R) : W2 X f v w H R := fun pins s σ u1 u2 I r1 r2 => ho pins s σ H v w u1 u2 R I r1 r2 h
def O2 (X : Cx) (f : Value → Value → Sem Value) (d e : D) (m : M) (Q : D → M → Prop) : Prop := D2 X (W2 X f) d e m Q
theorem O2.of {f : Value → Value → Sem Value} {r : R2} {d e : D} (ho : OpR X f r) (h : D2 X r d e m Q) : O2 X f d e m Q := fun v w H H0 k kf f1 f2 am => W2.of ho (h v w H H0 k kf f1 f2 am)
/-- two in a row -/
theorem two {R : D → D → M → Prop} {S : V → V → Hp → Prop} {σ : St} {H : Hp} (h : DE X a Γ m fun d m1 => DE X b Γ m1 fun e m2 => R d e m2) (at_ : At X σ H Γ m)
    (k : ∀ v w d e H2 m2, At X σ H2 Γ m2 → TK H H2 → Fz H2 v d → Fz H2 w e → R d e m2 → S v w H2) : WE X a σ H fun v H1 => WE X b σ H1 fun w H2 => S v w H2 :=
  h.thn at_ fun v H1 d m1 at1 k1 f1 h1 => h1.thn at1 fun w H2 e m2 at2 k2 f2 h2 => k v w d e H2 m2 at2 (k1.trans k2) (f1.mono k2) f2 h2
theorem de_op {op : Operator} (h : DE X a Γ m fun d m1 => DE X b Γ m1 fun e m2 => O2 X (binaryOp op) d e m2 Q) : DE X (.BinOp a op b pos) Γ m Q := fun σ H at_ =>
  WE.of (pe_op w2_op we_pe we_pe) (two h at_ fun v w d e H2 m2 at2 k f1 f2 q => q v w H2 H k at2.kf f1 f2 at2.am)
theorem de_cmp {op : CmpOp} (hm : behindInMarks op b = false) (h : DE X a Γ m fun d m1 => DE X b Γ m1 fun e m2 => O2 X (compareOp op) d e m2 Q) : DE X (.Compare a [op] [b] pos) Γ m Q := fun σ H at_ =>
  WE.of (pe_cmpR w2_op we_pe we_pe hm) (two h at_ fun v w d e H2 m2 at2 k f1 f2 q => q v w H2 H k at2.kf f1 f2 at2.am)
/-- what a test wants of a value -/
def TB (QB : Bool → M → Prop) : D → M → Prop := fun d m => ∃ c, d = .bl c ∧ QB c m
theorem pv_tb {K : PySem.W.Frag} {H H' : Hp} {v : V} (h : PV K H (TB QB) v H') (kf : Kf K H') : ∃ c, v = .bl c ∧ PB K H QB c H' := by
  obtain ⟨k, d, m', f, am, c, rfl, q⟩ := h kf
  cases f
  exact ⟨c, rfl, fun _ => ⟨k, m', am, q⟩⟩
theorem dt_cmp {op : CmpOp} (hm : behindInMarks op b = false) (h : DE X a Γ m fun d m1 => DE X b Γ m1 fun e m2 => O2 X (compareOp op) d e m2 (TB QB)) : DT X (.Compare a [op] [b] pos) Γ m QB := fun σ H at_ => by
  refine WT.of (pt_cmpR w2_op we_pe we_pe hm) ?_
  refine two h at_ fun v w d e H2 m2 at2 k f1 f2 q => ?_
  intro pins s σ' u1 u2 I r1 r2
  refine thn (q v w H2 H k at2.kf f1 f2 at2.am pins s σ' u1 u2 I r1 r2) fun u s' ⟨z, H3, I3, r3, q3⟩ => ?_
  obtain ⟨c, e, q4⟩ := pv_tb q3 (inv_kf I3)
  exact ⟨z, H3, I3, r3, c, e, q4⟩
/-- an expression that is a truth, as a test -/
theorem dt_val (he : ∀ whole, isTrue e X.env whole = (do let v ← whole; standAt e.pos; holding [v] (truthy v))) (h : DE X e Γ m (TB QB)) : DT X e Γ m QB := fun σ H at_ => by
  refine WT.of (pt_val we_pe he) ?_
  refine (h σ H at_).mono fun v H' kf q => ?_
  exact pv_tb q kf
theorem dt_not (h : DT X a Γ m fun c m1 => QB (!c) m1) : DT X (.UnaryOp .Not a pos) Γ m QB := fun σ H at_ => WT.of (pt_not wt_pt) (h σ H at_)
theorem dt_w (h : DW X a Γ m QB) : DT X a Γ m QB := fun σ H at_ => WT.of (PW.pt ww_pw) (h σ H at_)
theorem dw_and1 (h : DT X a Γ m QB) : DW X (.BoolOp .And [a] pos) Γ m QB := fun σ H at_ => WW.of (pw_and1 wt_pt) (h σ H at_)
theorem dw_or1 (h : DT X a Γ m QB) : DW X (.BoolOp .Or [a] pos) Γ m QB := fun σ H at_ => WW.of (pw_or1 wt_pt) (h σ H at_)
theorem dw_and {rest : List Expr} (h : DT X a Γ m fun c m1 => (c = true → DW X (.BoolOp .And (b :: rest) pos) Γ m1 QB) ∧ (c = false → QB false m1)) : DW X (.BoolOp .And (a :: b :: rest) pos) Γ m QB := fun σ H at_ => by
  refine WW.of (pw_and wt_pt ww_pw) ?_
  refine h.thn at_ fun c H' m' at' k q => ?_
  cases c with
  | true => exact (q.1 rfl).run at' k
  | false => exact PB.mk k at'.am (q.2 rfl)
theorem dw_or {rest : List Expr} (h : DT X a Γ m fun c m1 => (c = true → QB true m1) ∧ (c = false → DW X (.BoolOp .Or (b :: rest) pos) Γ m1 QB)) : DW X (.BoolOp .Or (a :: b :: rest) pos) Γ m QB := fun σ H at_ => by
  refine WW.of (pw_or wt_pt ww_pw) ?_
  refine h.thn at_ fun c H' m' at' k q => ?_
  cases c with
  | false => exact (q.2 rfl).run at' k
  | true => exact PB.mk k at'.am (q.1 rfl)
/-- as values -/
theorem de_one {op : BoolOp} (h : DE X a Γ m Q) : DE X (.BoolOp op [a] pos) Γ m Q := fun σ H at_ => WE.of (pe_one we_pe) (h σ H at_)
theorem de_and {rest : List Expr} (h : DE X a Γ m fun d m1 => ∃ c, d = .bl c ∧ (c = true → DE X (.BoolOp .And (b :: rest) pos) Γ m1 Q) ∧ (c = false → Q (.bl false) m1)) : DE X (.BoolOp .And (a :: b :: rest) pos) Γ m Q := fun σ H at_ => by
  refine WE.of (pe_and we_pe we_pe) ?_
  refine h.thn at_ fun v H' d m' at' k f q => ?_
  obtain ⟨c, rfl, q1, q2⟩ := q
  cases f
  refine ⟨c, rfl, ?_⟩
  cases c with
  | true => exact (q1 rfl).run at' k
  | false => exact PV.mk k (.bl false) at'.am (q2 rfl)
theorem de_or {rest : List Expr} (h : DE X a Γ m fun d m1 => ∃ c, d = .bl c ∧ (c = true → Q (.bl true) m1) ∧ (c = false → DE X (.BoolOp .Or (b :: rest) pos) Γ m1 Q)) : DE X (.BoolOp .Or (a :: b :: rest) pos) Γ m Q := fun σ H at_ => by
  refine WE.of (pe_or we_pe we_pe) ?_
  refine h.thn at_ fun v H' d m' at' k f q => ?_
  obtain ⟨c, rfl, q1, q2⟩ := q
  cases f
  refine ⟨c, rfl, ?_⟩
  cases c with
  | false => exact (q2 rfl).run at' k
  | true => exact PV.mk k (.bl true) at'.am (q1 rfl)
theorem de_not (h : DE X a Γ m fun d m1 => ∃ c, d = .bl c ∧ Q (.bl (!c)) m1) : DE X (.UnaryOp .Not a pos) Γ m Q := fun σ H at_ => by
  refine WE.of (pe_not we_pe) ?_
  refine h.thn at_ fun v H' d m' at' k f q => ?_
  obtain ⟨c, rfl, q1⟩ := q
  cases f
  exact ⟨c, rfl, PV.mk k (.bl _) at'.am q1⟩
theorem de_neg (h : DE X a Γ m fun d m1 => ∃ n, d = .int n ∧ Q (.int (-n)) m1) : DE X (.UnaryOp .USub a pos) Γ m Q := fun σ H at_ => by
  refine WE.of (pe_un un_neg we_pe) ?_
  refine h.thn at_ fun v H' d m' at' k f q => ?_
  obtain ⟨n, rfl, q1⟩ := q
  cases f
  exact ⟨n, rfl, PV.mk k (.int _) at'.am q1⟩

/-! ### operators on data -/
section
variable {n k : Int} {x y : Str} {p p' : Addr} {ds es' : List D} {c c' : Bool}
theorem o2_add (q : Q (.int (n + k)) m) : O2 X (binaryOp .Add) (.int n) (.int k) m Q := O2.of op_add fun v w H H0 tk kf f1 f2 am => by
  cases f1; cases f2
  exact ⟨n, k, rfl, rfl, PV.mk tk (.int _) am q⟩
theorem o2_sub (q : Q (.int (n - k)) m) : O2 X (binaryOp .Sub) (.int n) (.int k) m Q := O2.of op_sub fun v w H H0 tk kf f1 f2 am => by
  cases f1; cases f2
  exact ⟨n, k, rfl, rfl, PV.mk tk (.int _) am q⟩
theorem o2_mul (hc : CMul n k) (q : Q (.int (n * k)) m) : O2 X (binaryOp .Mult) (.int n) (.int k) m Q := O2.of op_mul fun v w H H0 tk kf f1 f2 am => by
  cases f1; cases f2
  exact ⟨n, k, rfl, rfl, hc, PV.mk tk (.int _) am q⟩
theorem o2_fdiv (hc : CDiv n k) (q : Q (.int (n / k)) m) : O2 X (binaryOp .FloorDiv) (.int n) (.int k) m Q := O2.of op_fdiv fun v w H H0 tk kf f1 f2 am => by
  cases f1; cases f2
  exact ⟨n, k, rfl, rfl, hc, PV.mk tk (.int _) am q⟩
theorem o2_mod (hc : 0 < k) (q : Q (.int (n % k)) m) : O2 X (binaryOp .Mod) (.int n) (.int k) m Q := O2.of op_mod fun v w H H0 tk kf f1 f2 am => by
  cases f1; cases f2
  exact ⟨n, k, rfl, rfl, hc, PV.mk tk (.int _) am q⟩
theorem o2_pow (hc : CPow n k) (q : Q (.int (n ^ k.toNat)) m) : O2 X (binaryOp .Pow) (.int n) (.int k) m Q := O2.of op_pow fun v w H H0 tk kf f1 f2 am => by
  cases f1; cases f2
  exact ⟨n, k, rfl, rfl, hc, PV.mk tk (.int _) am q⟩
theorem o2_adds (hl : x.length + y.length ≤ sizeLine) (q : Q (.str (x ++ y)) m) : O2 X (binaryOp .Add) (.str x) (.str y) m Q := O2.of op_add_str fun v w H H0 tk kf f1 f2 am => by
  cases f1; cases f2
  exact ⟨x, y, rfl, rfl, hl, PV.mk tk (.str _) am q⟩
/-- a new tuple: nothing is seen of it -/
theorem pv_tup {K : PySem.W.Frag} {H0 H : Hp} {q : Addr} {xs : List V} (tk : TK H0 H) (hq : H q = none) (f : FzAll H xs ds) (am : AbsM K H m) (qq : Q (.tup ds) m) : PV K H0 Q (.ref q) (upd H q (.tup xs)) := fun kf => by
  have k2 : TK H (upd H q (.tup xs)) := TK.new hq
  exact ⟨tk.trans k2, _, m, .tup upd_same (f.mono k2), am.new (am.free hq (kf q _ upd_same)) k2, qq⟩
/-- a new list -/
theorem pv_lst {K : PySem.W.Frag} {H0 H : Hp} {q : Addr} {xs : List V} (tk : TK H0 H) (hq : H q = none) (f : FzAll H xs ds) (am : AbsM K H m) (qq : ∀ p, m p = none → Q (.ref p) (mup m p (.lst ds))) : PV K H0 Q (.ref q) (upd H q (.lst xs)) := fun kf => by
  have k2 : TK H (upd H q (.lst xs)) := TK.new hq
  exact ⟨tk.trans k2, _, _, .ref q, AbsM.put (o := .lst ds) am k2 ⟨xs, upd_same, f.mono k2⟩, qq q (am.free hq (kf q _ upd_same))⟩
theorem o2_addt (hl : ds.length + es'.length ≤ sizeLine) (q : Q (.tup (ds ++ es')) m) : O2 X (binaryOp .Add) (.tup ds) (.tup es') m Q := O2.of op_catA fun v w H H0 tk kf f1 f2 am => by
  cases f1 with
  | tup h1 g1 =>
    cases f2 with
    | tup h2 g2 =>
      refine ⟨_, _, _, _, rfl, rfl, SqT.of h1, SqT.of h2, by rw [g1.length, g2.length]; exact hl, fun e => ?_, fun _ e => ?_, fun _ _ z hz => ?_⟩
      · subst e
        have e2 := g1.nilV
        subst e2
        exact PV.mk tk (.tup h2 g2) am q
      · subst e
        have e2 := g2.nilV
        subst e2
        rw [List.append_nil] at q
        exact PV.mk tk (.tup h1 g1) am q
      · exact pv_tup tk hz (g1.append g2) am q
theorem o2_addl (h1 : m p = some (.lst ds)) (h2 : m p' = some (.lst es')) (hl : ds.length + es'.length ≤ sizeLine) (q : ∀ r, m r = none → Q (.ref r) (mup m r (.lst (ds ++ es')))) : O2 X (binaryOp .Add) (.ref p) (.ref p') m Q := O2.of op_cat fun v w H H0 tk kf f1 f2 am => by
  cases f1; cases f2
  obtain ⟨xs, e1, g1⟩ := am _ _ h1
  obtain ⟨ys, e2, g2⟩ := am _ _ h2
  exact ⟨_, _, xs, ys, rfl, rfl, e1, e2, by rw [g1.length, g2.length]; exact hl, fun z hz => pv_lst tk hz (g1.append g2) am q⟩

/-! ### comparisons -/
theorem cmpI {op : CmpOp} {g : Int → Int → Bool} (ho : OpR X (compareOp op) (rI0 fun i j => .bl (g i j))) (q : Q (.bl (g n k)) m) : O2 X (compareOp op) (.int n) (.int k) m Q := O2.of ho fun v w H H0 tk kf f1 f2 am => by
  cases f1; cases f2
  exact ⟨n, k, rfl, rfl, PV.mk tk (.bl _) am q⟩
theorem o2_lt (q : Q (.bl (decide (n < k))) m) : O2 X (compareOp .Lt) (.int n) (.int k) m Q := cmpI (g := fun i j => decide (i < j)) op_lt q
theorem o2_le (q : Q (.bl (decide (n ≤ k))) m) : O2 X (compareOp .LtE) (.int n) (.int k) m Q := cmpI (g := fun i j => decide (i ≤ j)) op_le q
theorem o2_gt (q : Q (.bl (decide (k < n))) m) : O2 X (compareOp .Gt) (.int n) (.int k) m Q := cmpI (g := fun i j => decide (j < i)) op_gt q
theorem o2_ge (q : Q (.bl (decide (k ≤ n))) m) : O2 X (compareOp .GtE) (.int n) (.int k) m Q := cmpI (g := fun i j => decide (j ≤ i)) op_ge q
theorem o2_eqi (q : Q (.bl (decide (n = k))) m) : O2 X (compareOp .Eq) (.int n) (.int k) m Q := O2.of op_eq fun v w H H0 tk kf f1 f2 am => by
  cases f1; cases f2
  refine ⟨rfl, ?_⟩
  rw [show decide (V.int n = V.int k) = decide (n = k) by simp]
  exact PV.mk tk (.bl _) am q
theorem o2_nei (q : Q (.bl (!decide (n = k))) m) : O2 X (compareOp .NotEq) (.int n) (.int k) m Q := O2.of op_ne fun v w H H0 tk kf f1 f2 am => by
  cases f1; cases f2
  refine ⟨rfl, ?_⟩
  rw [show decide (V.int n = V.int k) = decide (n = k) by simp]
  exact PV.mk tk (.bl _) am q
theorem o2_eqs (q : Q (.bl (decide (x = y))) m) : O2 X (compareOp .Eq) (.str x) (.str y) m Q := O2.of op_eq fun v w H H0 tk kf f1 f2 am => by
  cases f1; cases f2
  refine ⟨rfl, ?_⟩
  rw [show decide (V.str x = V.str y) = decide (x = y) by simp]
  exact PV.mk tk (.bl _) am q
theorem o2_nes (q : Q (.bl (!decide (x = y))) m) : O2 X (compareOp .NotEq) (.str x) (.str y) m Q := O2.of op_ne fun v w H H0 tk kf f1 f2 am => by
  cases f1; cases f2
  refine ⟨rfl, ?_⟩
  rw [show decide (V.str x = V.str y) = decide (x = y) by simp]
  exact PV.mk tk (.bl _) am q
theorem o2_eqsi (q : Q (.bl false) m) : O2 X (compareOp .Eq) (.str x) (.int n) m Q := O2.of op_eq fun v w H H0 tk kf f1 f2 am => by
  cases f1; cases f2
  refine ⟨rfl, ?_⟩
  rw [show decide (V.str x = V.int n) = false by simp]
  exact PV.mk tk (.bl _) am q
theorem o2_nebl (q : Q (.bl (!decide (c = c'))) m) : O2 X (compareOp .NotEq) (.bl c) (.bl c') m Q := O2.of op_ne fun v w H H0 tk kf f1 f2 am => by
  cases f1; cases f2
  refine ⟨rfl, ?_⟩
  rw [show decide (V.bl c = V.bl c') = decide (c = c') by simp]
  exact PV.mk tk (.bl _) am q
theorem o2_isbl (q : Q (.bl (decide (c = c'))) m) : O2 X (compareOp .Is) (.bl c) (.bl c') m Q := O2.of op_is_bl fun v w H H0 tk kf f1 f2 am => by
  cases f1; cases f2
  exact ⟨c, c', rfl, rfl, PV.mk tk (.bl _) am q⟩
theorem o2_isntbl (q : Q (.bl (!decide (c = c'))) m) : O2 X (compareOp .IsNot) (.bl c) (.bl c') m Q := O2.of op_isnot_bl fun v w H H0 tk kf f1 f2 am => by
  cases f1; cases f2
  exact ⟨c, c', rfl, rfl, PV.mk tk (.bl _) am q⟩
/-- is this None -/
def isNon : D → Bool
  | .non => true
  | _ => false
theorem fz_non {H : Hp} {v : V} {d : D} (f : Fz H v d) : decide (v = .non) = isNon d := by cases f <;> rfl
theorem o2_isN {d : D} (q : Q (.bl (isNon d)) m) : O2 X (compareOp .Is) d .non m Q := O2.of op_isN fun v w H H0 tk kf f1 f2 am => by
  cases f2
  refine ⟨rfl, ?_⟩
  rw [fz_non f1]
  exact PV.mk tk (.bl _) am q
theorem o2_isnN {d : D} (q : Q (.bl (!isNon d)) m) : O2 X (compareOp .IsNot) d .non m Q := O2.of op_notN fun v w H H0 tk kf f1 f2 am => by
  cases f2
  refine ⟨rfl, ?_⟩
  rw [fz_non f1]
  exact PV.mk tk (.bl _) am q
end

/-! ### displays -/
theorem da_nil {QL : List D → M → Prop} (q : QL [] m) : DA X [] Γ m QL := fun σ H at_ => WA.of pa_nil (fun _ => ⟨TK.refl _, [], m, .nil, at_.am, q⟩)
theorem da_cons {QL : List D → M → Prop} (h : DE X e Γ m fun d m1 => DA X es Γ m1 fun ds m2 => QL (d :: ds) m2) (hs : starEach (e :: es) X.env = (false, eval e X.env) :: starEach es X.env := by rfl) : DA X (e :: es) Γ m QL := fun σ H at_ => by
  refine WA.of (pa_cons we_pe wa_pa hs) ?_
  refine h.thn at_ fun v H' d m' at' k f q => ?_
  refine q.thn at' fun vs H2 ds m2 at2 k2 fs q2 => ?_
  exact fun _ => ⟨k.trans k2, d :: ds, m2, .cons (f.mono k2) fs, at2.am, q2⟩
/-- what is wanted of the items of a written tuple, of a written list -/
def TupQ (Q : D → M → Prop) (ds : List D) (m : M) : Prop := ds.length ≤ sizeLine ∧ Q (.tup ds) m
def LstQ (Q : D → M → Prop) (ds : List D) (m : M) : Prop := ds.length ≤ sizeLine ∧ ∀ p, m p = none → Q (.ref p) (mup m p (.lst ds))
theorem de_tup {k : Nat} (h : DA X es Γ m (TupQ Q)) : DE X (.Tuple es k pos) Γ m Q := fun σ H at_ => by
  refine WE.of (pe_tup wa_pa) ?_
  refine h.thn at_ fun vs H' ds m' at' k f q => ?_
  exact ⟨by rw [f.length]; exact q.1, fun p hp => pv_tup k hp f at'.am q.2⟩
theorem de_lst (h : DA X es Γ m (LstQ Q)) : DE X (.List es pos) Γ m Q := fun σ H at_ => by
  refine WE.of (pe_lst wa_pa) ?_
  refine h.thn at_ fun vs H' ds m' at' k f q => ?_
  exact ⟨by rw [f.length]; exact q.1, fun p hp => pv_lst k hp f at'.am q.2⟩

/-! ### subscripts -/
def WX (X : Cx) : R2 := fun x y H Q => ∀ (value slice : Expr) (pins : List (Addr × Obj)) (s : Shared) (σ : St) (v u : Value), Inv X pins σ H s → RelV x v → RelV y u → subscripted slice false v u = operate [v, u] (getItem v u) →
    wpAny (model X.prog X.w) X.A (subscriptTail value slice v u) (EP X pins σ Q) X.xe s
theorem wx_ix : IxR X (WX X) := fun value slice pins s σ H x y v u Q I rx ry h hs => h value slice pins s σ v u I rx ry hs
theorem WX.of {r : R2} {v w : V} {H : Hp} {R : VK} (ho : IxR X r) (h : r v w H R) : WX X v w H R := fun value slice pins s σ u1 u2 I r1 r2 hs => ho value slice pins s σ H v w u1 u2 R I r1 r2 h hs
def OX (X : Cx) (d e : D) (m : M) (Q : D → M → Prop) : Prop := D2 X (WX X) d e m Q
theorem OX.of {r : R2} {d e : D} (ho : IxR X r) (h : D2 X r d e m Q) : OX X d e m Q := fun v w H H0 k kf f1 f2 am => WX.of ho (h v w H H0 k kf f1 f2 am)
theorem de_ix (h : DE X a Γ m fun d m1 => DE X b Γ m1 fun e m2 => OX X d e m2 Q) (hs : PlainIx b := by exact fun _ _ => rfl) : DE X (.Subscript a b pos) Γ m Q := fun σ H at_ =>
  WE.of (pe_ix wx_ix we_pe we_pe hs) (two h at_ fun v w d e H2 m2 at2 k f1 f2 q => q v w H2 H k at2.kf f1 f2 at2.am)
theorem ixN_len {α β : Type} {xs : List α} {ys : List β} (h : xs.length = ys.length) (i : Int) {d : β} (e : atI ys i = some d) : ∃ j : Nat, ys[j]? = some d ∧ ∀ v : α, xs[j]? = some v → atI xs i = some v := by
  unfold atI at e ⊢
  rw [h]
  cases q : ixN ys.length i with
  | none => rw [q] at e; cases e
  | some j => rw [q] at e; exact ⟨j, e, fun v hv => hv⟩
theorem FzAll.at {H : Hp} {vs : List V} {ds : List D} {i : Int} {d : D} (f : FzAll H vs ds) (e : atI ds i = some d) : ∃ v, atI vs i = some v ∧ Fz H v d := by
  obtain ⟨j, h1, h2⟩ := ixN_len f.length i e
  obtain ⟨v, h3, h4⟩ := f.get h1
  exact ⟨v, h2 v h3, h4⟩
theorem ox_t {ds : List D} {n : Int} {d : D} (e : atI ds n = some d) (q : Q d m) : OX X (.tup ds) (.int n) m Q := OX.of ix_tup fun v w H H0 tk kf f1 f2 am => by
  cases f2
  cases f1 with
  | tup h1 g1 =>
    obtain ⟨z, hz, fz⟩ := g1.at e
    exact ⟨_, _, n, z, rfl, rfl, SqT.of h1, hz, PV.mk tk fz am q⟩
/-- the items of a list that is read -/
def IsL (m : M) (p : Addr) (ds : List D) : Prop := m p = some (.lst ds) ∨ m p = some (.rd ds)
theorem IsL.sq {K : PySem.W.Frag} {H : Hp} {p : Addr} {ds : List D} (am : AbsM K H m) (h : IsL m p ds) : ∃ xs, SqL K H p xs ∧ FzAll H xs ds := by
  rcases h with h | h
  · obtain ⟨xs, h1, h2⟩ := am _ _ h; exact ⟨xs, SqL.of h1, h2⟩
  · exact am _ _ h
theorem ox_l {p : Addr} {ds : List D} {n : Int} {d : D} (h : IsL m p ds) (e : atI ds n = some d) (q : Q d m) : OX X (.ref p) (.int n) m Q := OX.of ix_list fun v w H H0 tk kf f1 f2 am => by
  cases f2
  cases f1
  obtain ⟨xs, h1, g1⟩ := h.sq am
  obtain ⟨z, hz, fz⟩ := g1.at e
  exact ⟨_, _, n, z, rfl, rfl, h1, hz, PV.mk tk fz am q⟩
theorem ox_s {x : Str} {n : Int} {c : Nat} (hl : x.length ≤ sizeLine) (e : atI x.cps.toList n = some c) (q : Q (.str ⟨#[c]⟩) m) : OX X (.str x) (.int n) m Q := OX.of ix_str fun v w H H0 tk kf f1 f2 am => by
  cases f2
  cases f1
  exact ⟨x, n, c, rfl, rfl, hl, e, PV.mk tk (.str _) am q⟩
/-! ### slices -/
def DO' (X : Cx) (e : Option Expr) (Γ : G) (m : M) (Q : Option Int → M → Prop) : Prop := match e with
  | none => Q none m
  | some e => DE X e Γ m fun d m1 => ∃ i, d = .int i ∧ Q (some i) m1
def WO (X : Cx) (e : Option Expr) : TO := fun σ H Q => ∀ (pins : List (Addr × Obj)) (s : Shared), Inv X pins σ H s →
    wpAny (model X.prog X.w) X.A (evalPart e X.env) (fun u s' => ∃ o H', Inv X pins σ H' s' ∧ IsPart u o ∧ Q o H') X.xe s
theorem wo_po {e : Option Expr} : PO X e (WO X e) := ⟨fun pins s σ H Q I h => h pins s I⟩
theorem DO'.thn {e : Option Expr} {Q : Option Int → M → Prop} {σ : St} {H : Hp} {R : Option Int → Hp → Prop} (h : DO' X e Γ m Q) (at_ : At X σ H Γ m)
    (k : ∀ o H' m', At X σ H' Γ m' → TK H H' → Q o m' → R o H') : WO X e σ H R := by
  cases e with
  | none => exact fun pins s I => po_none.run pins s σ H R I (k none H m at_ (TK.refl _) h)
  | some e =>
    refine fun pins s I => (po_some we_pe).run pins s σ H R I ?_
    refine DE.thn h at_ fun v H' d m' at' tk f q => ?_
    obtain ⟨i, rfl, q⟩ := q
    cases f
    exact ⟨i, rfl, k _ _ _ at' tk q⟩
def cutD {α : Type} (xs : List α) (lo hi : Option Int) : List α := (xs.drop (HT.sIx xs.length 0 lo)).take (HT.sIx xs.length xs.length hi - HT.sIx xs.length 0 lo)
theorem FzAll.cut {H : Hp} {vs : List V} {ds : List D} (f : FzAll H vs ds) (lo hi : Option Int) : FzAll H (cutV vs lo hi) (cutD ds lo hi) := by
  unfold cutV cutD
  rw [f.length]
  exact (f.drop _).take _
theorem de_slice {r : V → Option Int → Option Int → Hp → VK → Prop} {lo hi : Option Expr} {p2 : Pos} (hr : SlR X r)
    (h : DE X e Γ m fun d m1 => DO' X lo Γ m1 fun l m2 => DO' X hi Γ m2 fun u m3 => ∀ v H H0, TK H0 H → Kf X.K H → Fz H v d → AbsM X.K H m3 → r v l u H (PV X.K H0 Q)) : DE X (.Subscript e (.Slice lo hi none p2) pos) Γ m Q := fun σ H at_ => by
  refine WE.of (pe_slice hr we_pe wo_po wo_po) ?_
  refine h.thn at_ fun v H1 d m1 at1 k1 f1 h1 => ?_
  refine h1.thn at1 fun l H2 m2 at2 k2 h2 => ?_
  refine h2.thn at2 fun u H3 m3 at3 k3 h3 => ?_
  exact h3 v H3 H (k1.trans (k2.trans k3)) at3.kf (f1.mono (k2.trans k3)) at3.am
theorem de_slt {lo hi : Option Expr} {p2 : Pos} (h : DE X e Γ m fun d m1 => DO' X lo Γ m1 fun l m2 => DO' X hi Γ m2 fun u m3 => ∃ ds, d = .tup ds ∧ Q (.tup (cutD ds l u)) m3) : DE X (.Subscript e (.Slice lo hi none p2) pos) Γ m Q := by
  refine de_slice sl_tupA (h.imp fun d m1 h1 => ?_)
  have step : ∀ {l u m3}, (∃ ds, d = .tup ds ∧ Q (.tup (cutD ds l u)) m3) → ∀ v H H0, TK H0 H → Kf X.K H → Fz H v d → AbsM X.K H m3 → rSlA X.K v l u H (PV X.K H0 Q) := by
    rintro l u m3 ⟨ds, rfl, q⟩ v H H0 tk kf f am
    cases f with
    | tup h1 g1 =>
      refine ⟨_, _, rfl, SqT.of h1, fun e => ?_, fun _ p hp => pv_tup tk hp (g1.cut l u) am q⟩
      have e2 : cutD ds l u = ds := by
        unfold cutD
        rw [← g1.length, e.1, e.2, List.drop_zero, Nat.sub_zero]
        exact List.take_of_length_le (by rw [← g1.length]; exact Nat.le_refl _)
      rw [e2] at q
      exact PV.mk tk (.tup h1 g1) am q
  cases lo with
  | none =>
    cases hi with
    | none => exact step h1
    | some b => exact DE.imp h1 fun d2 m3 ⟨i, e, q⟩ => ⟨i, e, step q⟩
  | some a =>
    refine DE.imp h1 fun d2 m2 ⟨i, e, q⟩ => ⟨i, e, ?_⟩
    cases hi with
    | none => exact step q
    | some b => exact DE.imp q fun d2 m3 ⟨i, e, q⟩ => ⟨i, e, step q⟩
theorem de_sll {lo hi : Option Expr} {p2 : Pos} (h : DE X e Γ m fun d m1 => DO' X lo Γ m1 fun l m2 => DO' X hi Γ m2 fun u m3 => ∃ p ds, d = .ref p ∧ IsL m3 p ds ∧ ∀ z, m3 z = none → Q (.ref z) (mup m3 z (.lst (cutD ds l u)))) : DE X (.Subscript e (.Slice lo hi none p2) pos) Γ m Q := by
  refine de_slice sl_list (h.imp fun d m1 h1 => ?_)
  have step : ∀ {l u m3}, (∃ p ds, d = .ref p ∧ IsL m3 p ds ∧ ∀ z, m3 z = none → Q (.ref z) (mup m3 z (.lst (cutD ds l u)))) → ∀ v H H0, TK H0 H → Kf X.K H → Fz H v d → AbsM X.K H m3 → rSlL X.K v l u H (PV X.K H0 Q) := by
    rintro l u m3 ⟨p, ds, rfl, hl, q⟩ v H H0 tk kf f am
    cases f
    obtain ⟨xs, h1, g1⟩ := hl.sq am
    exact ⟨_, xs, rfl, h1, fun z hz => pv_lst tk hz (g1.cut l u) am q⟩
  cases lo with
  | none =>
    cases hi with
    | none => exact step h1
    | some b => exact DE.imp h1 fun d2 m3 ⟨i, e, q⟩ => ⟨i, e, step q⟩
  | some a =>
    refine DE.imp h1 fun d2 m2 ⟨i, e, q⟩ => ⟨i, e, ?_⟩
    cases hi with
    | none => exact step q
    | some b => exact DE.imp q fun d2 m3 ⟨i, e, q⟩ => ⟨i, e, step q⟩
theorem de_sls {lo hi : Option Expr} {p2 : Pos} (h : DE X e Γ m fun d m1 => DO' X lo Γ m1 fun l m2 => DO' X hi Γ m2 fun u m3 => ∃ x, d = .str x ∧ x.length ≤ sizeLine ∧ Q (.str (cutS x l u)) m3) : DE X (.Subscript e (.Slice lo hi none p2) pos) Γ m Q := by
  refine de_slice sl_str (h.imp fun d m1 h1 => ?_)
  have step : ∀ {l u m3}, (∃ x, d = .str x ∧ x.length ≤ sizeLine ∧ Q (.str (cutS x l u)) m3) → ∀ v H H0, TK H0 H → Kf X.K H → Fz H v d → AbsM X.K H m3 → rSlS v l u H (PV X.K H0 Q) := by
    rintro l u m3 ⟨x, rfl, hl, q⟩ v H H0 tk kf f am
    cases f
    exact ⟨x, rfl, hl, PV.mk tk (.str _) am q⟩
  cases lo with
  | none =>
    cases hi with
    | none => exact step h1
    | some b => exact DE.imp h1 fun d2 m3 ⟨i, e, q⟩ => ⟨i, e, step q⟩
  | some a =>
    refine DE.imp h1 fun d2 m2 ⟨i, e, q⟩ => ⟨i, e, ?_⟩
    cases hi with
    | none => exact step q
    | some b => exact DE.imp q fun d2 m3 ⟨i, e, q⟩ => ⟨i, e, step q⟩
end
end DL

set_option maxHeartbeats 2000000
/-! DS: the rules of the data level: calls, dicts, attributes, statements. -/
namespace DL
open PySem L2
open PyProof.Rows (subscriptTail)

section
variable {X : Cx} {a b e o i : Expr} {es : List Expr} {Γ : G} {m : M} {pos p : Pos} {Q : D → M → Prop} {QB : Bool → M → Prop}

/-! ### calls of built-ins -/
def WC (X : Cx) (f : Value) : List V → Hp → VK → Prop := fun vs H Q => ∀ (pins : List (Addr × Obj)) (s : Shared) (σ : St) (us : List Value), Inv X pins σ H s → Vals vs us → wpAny (model X.prog X.w) X.A (call f us) (EP X pins σ Q) X.xe s
theorem wc_call {f : Value} : CallR X f (WC X f) := fun pins s σ H xs us Q I r h => h pins s σ us I r
theorem WC.of {f : Value} {r : List V → Hp → VK → Prop} {vs : List V} {H : Hp} {R : VK} (ho : CallR X f r) (h : r vs H R) : WC X f vs H R := fun pins s σ us I r1 => ho pins s σ H vs us R I r1 h
def OC (X : Cx) (f : Value) (ds : List D) (m : M) (Q : D → M → Prop) : Prop := DC X (WC X f) ds m Q
theorem OC.of {f : Value} {r : List V → Hp → VK → Prop} {ds : List D} (ho : CallR X f r) (h : DC X r ds m Q) : OC X f ds m Q := fun vs H H0 k kf f1 am => WC.of ho (h vs H H0 k kf f1 am)
theorem de_callB {x : Str} {id : String} (hg : Gl X x) (hm : X.mg x = none) (hv : bootBuiltins x = some (.builtin id)) (hn : x ≠ "__name__") (hdb : (x == ("__debug__" : Str)) = false)
    (h : DA X (e :: es) Γ m fun ds m1 => OC X (.builtin id) ds m1 Q) (he : starEach (e :: es) X.env = (false, eval e X.env) :: starEach es X.env := by rfl) (hpl : (backTo pos (starEach es X.env)).any (·.1) = false := by rfl) :
    DE X (.Call (.Name x p) (e :: es) [] pos) Γ m Q := fun σ H at_ => by
  refine WE.of (pe_callB wc_call hg hm hv wa_pa hn hdb he hpl) ?_
  exact h.thn at_ fun vs H' ds m' at' k f q => q vs H' H k at'.kf f at'.am
theorem de_callT {x : Str} {T : String} (hg : Gl X x) (hm : X.mg x = none) (hv : bootBuiltins x = some (.type T)) (hn : x ≠ "__name__") (hdb : (x == ("__debug__" : Str)) = false)
    (h : DA X (e :: es) Γ m fun ds m1 => OC X (.type T) ds m1 Q) (he : starEach (e :: es) X.env = (false, eval e X.env) :: starEach es X.env := by rfl) (hpl : (backTo pos (starEach es X.env)).any (·.1) = false := by rfl) :
    DE X (.Call (.Name x p) (e :: es) [] pos) Γ m Q := fun σ H at_ => by
  refine WE.of (pe_callTy wc_call hg hm hv wa_pa hn hdb he hpl) ?_
  exact h.thn at_ fun vs H' ds m' at' k f q => q vs H' H k at'.kf f at'.am
theorem fz1 {H : Hp} {vs : List V} {d : D} (f : FzAll H vs [d]) : ∃ v, vs = [v] ∧ Fz H v d := by
  cases f with
  | cons h t => cases t; exact ⟨_, rfl, h⟩
theorem fz2 {H : Hp} {vs : List V} {d d' : D} (f : FzAll H vs [d, d']) : ∃ v v', vs = [v, v'] ∧ Fz H v d ∧ Fz H v' d' := by
  cases f with
  | cons h t =>
    obtain ⟨v', rfl, h'⟩ := fz1 t
    exact ⟨_, v', rfl, h, h'⟩
theorem oc_lenl {q : Addr} {ds : List D} (h : IsL m q ds) (k : Q (.int ds.length) m) : OC X (.builtin "len") [.ref q] m Q := OC.of call_len_seq fun vs H H0 tk kf f am => by
  obtain ⟨v, rfl, gg⟩ := fz1 f
  cases gg
  obtain ⟨xs, h1, g1⟩ := h.sq am
  refine ⟨_, xs, rfl, .inl h1, ?_⟩
  rw [g1.length]
  exact PV.mk tk (.int _) am k
theorem oc_lent {ds : List D} (k : Q (.int ds.length) m) : OC X (.builtin "len") [.tup ds] m Q := OC.of call_len_seq fun vs H H0 tk kf f am => by
  obtain ⟨v, rfl, gg⟩ := fz1 f
  cases gg with
  | tup h1 g1 =>
    refine ⟨_, _, rfl, .inr (SqT.of h1), ?_⟩
    rw [g1.length]
    exact PV.mk tk (.int _) am k
theorem oc_list_t {ds : List D} (k : ∀ r, m r = none → Q (.ref r) (mup m r (.lst ds))) : OC X (.type "list") [.tup ds] m Q := OC.of call_list_of fun vs H H0 tk kf f am => by
  obtain ⟨v, rfl, gg⟩ := fz1 f
  cases gg with
  | tup h1 g1 => exact ⟨_, _, rfl, .inr (SqT.of h1), fun z hz => pv_lst tk hz g1 am k⟩
theorem oc_tuple_l {q : Addr} {ds : List D} (h : IsL m q ds) (k : Q (.tup ds) m) : OC X (.type "tuple") [.ref q] m Q := OC.of call_tuple_of fun vs H H0 tk kf f am => by
  obtain ⟨v, rfl, gg⟩ := fz1 f
  cases gg
  obtain ⟨xs, h1, g1⟩ := h.sq am
  exact ⟨_, xs, rfl, .inl ⟨h1, fun z hz => pv_tup tk hz g1 am k⟩⟩
theorem oc_int_b {c : Bool} (k : Q (.int (if c then 1 else 0)) m) : OC X (.type "int") [.bl c] m Q := OC.of call_int1 fun vs H H0 tk kf f am => by
  obtain ⟨v, rfl, gg⟩ := fz1 f
  cases gg
  exact .inr ⟨c, rfl, PV.mk tk (.int _) am k⟩
theorem oc_sum {q : Addr} {ns : List Int} (hc : X.calm = true) (h : m q = some (.lst (ns.map D.int))) (k : Q (.int ns.sum) m) : OC X (.builtin "sum") [.ref q] m Q := OC.of (cr_sum hc) fun vs H H0 tk kf f am => by
  obtain ⟨v, rfl, gg⟩ := fz1 f
  cases gg
  obtain ⟨xs, h1, g1⟩ := am _ _ h
  have e := g1.ints
  subst e
  exact ⟨_, ns, rfl, SqL.of h1, PV.mk tk (.int _) am k⟩
theorem oc_max {n k : Int} (hc : X.calm = true) (q : Q (.int (if k > n then k else n)) m) : OC X (.builtin "max") [.int n, .int k] m Q := OC.of (call_max2 hc) fun vs H H0 tk kf f am => by
  obtain ⟨v, w, rfl, f1, f2⟩ := fz2 f
  cases f1; cases f2
  exact ⟨n, k, rfl, PV.mk tk (.int _) am q⟩
theorem oc_min {n k : Int} (hc : X.calm = true) (q : Q (.int (if k < n then k else n)) m) : OC X (.builtin "min") [.int n, .int k] m Q := OC.of (call_min2 hc) fun vs H H0 tk kf f am => by
  obtain ⟨v, w, rfl, f1, f2⟩ := fz2 f
  cases f1; cases f2
  exact ⟨n, k, rfl, PV.mk tk (.int _) am q⟩

/-! ### isinstance(x, T) -/
/-- the built-in type of a value -/
inductive TyD (m : M) : D → String → Prop where
  | non : TyD m .non "NoneType"
  | bl (c : Bool) : TyD m (.bl c) "bool"
  | int (n : Int) : TyD m (.int n) "int"
  | str (x : Str) : TyD m (.str x) "str"
  | tup (ds : List D) : TyD m (.tup ds) "tuple"
  | lst {q : Addr} {ds : List D} (h : m q = some (.lst ds)) : TyD m (.ref q) "list"
theorem de_isin {x : Str} {tn : String} {p2 : Pos} (hgi : Gl X "isinstance") (hmi : X.mg "isinstance" = none) (hgT : Gl X x) (hmT : X.mg x = none) (hvT : bootBuiltins x = some (.type tn))
    (hn : x ≠ "__name__") (hd : (x == ("__debug__" : Str)) = false)
    (h : DE X e Γ m fun d m1 => ∃ sn c, TyD m1 d sn ∧ kitB sn tn = some c ∧ Q (.bl c) m1)
    (hs : starEach [e, .Name x p2] X.env = (false, eval e X.env) :: starEach [.Name x p2] X.env := by rfl) : DE X (.Call (.Name "isinstance" p) [e, .Name x p2] [] pos) Γ m Q := fun σ H at_ => by
  refine WE.of (pe_callB call_isi hgi hmi (by decide +kernel) (pa_cons we_pe (pa_cons (pe_bltn hgT hmT hvT (v := .ty tn) rfl hn hd) pa_nil) hs) (by decide) (by decide) hs) ?_
  refine h.thn at_ fun v H' d m' at' k f q => ?_
  obtain ⟨sn, c, ty, kt, q⟩ := q
  have fin : PV X.K H Q (.bl c) H' := PV.mk k (.bl c) at'.am q
  refine ⟨v, .ty tn, .type sn, .type tn, c, rfl, .ty tn, ?_, kit_ty kt, fin⟩
  cases ty with
  | non => cases f; exact .base .non
  | bl b => cases f; exact .base (.bl _)
  | int n => cases f; exact .base (.int _)
  | str x => cases f; exact .base (.str _)
  | tup ds => cases f with | tup h1 _ => exact .base (.tup h1)
  | lst hq =>
    cases f
    obtain ⟨xs, h1, _⟩ := at'.am _ _ hq
    exact .base (.lst h1)

/-! ### dicts -/
def valD {κ : Type} [DecidableEq κ] (kvs : List (κ × D)) (k : κ) : Option D := (kvs.find? fun kv => decide (kv.1 = k)).map (·.2)
def putD {κ : Type} [DecidableEq κ] (kvs : List (κ × D)) (k : κ) (v : D) : List (κ × D) :=
  if (kvs.any fun kv => decide (kv.1 = k)) = true then kvs.map (fun kv => if kv.1 = k then (kv.1, v) else kv) else kvs ++ [(k, v)]
theorem valV_rel {κ : Type} [DecidableEq κ] {H : Hp} (k : κ) : ∀ {ks : List (κ × V)} {kvs : List (κ × D)}, Paired (KR H) ks kvs → (valV ks k = none ∧ valD kvs k = none) ∨ ∃ v d, valV ks k = some v ∧ valD kvs k = some d ∧ Fz H v d
  | _, _, .nil => .inl ⟨rfl, rfl⟩
  | _, _, .cons (a := p) (b := q) r t => by
    have e : p.1 = q.1 := r.1
    by_cases h : p.1 = k
    · exact .inr ⟨p.2, q.2, valV_pos h, by simp [valD, List.find?_cons, ← e, h], r.2⟩
    · rcases valV_rel k t with ⟨h1, h2⟩ | ⟨v, d, h1, h2, h3⟩
      · exact .inl ⟨(valV_neg h).trans h1, by rw [← h2]; simp [valD, List.find?_cons, ← e, h]⟩
      · exact .inr ⟨v, d, (valV_neg h).trans h1, by rw [← h2]; simp [valD, List.find?_cons, ← e, h], h3⟩
theorem any_rel {κ : Type} [DecidableEq κ] {H : Hp} (k : κ) : ∀ {ks : List (κ × V)} {kvs : List (κ × D)}, Paired (KR H) ks kvs → (ks.any fun kv => decide (kv.1 = k)) = kvs.any fun kv => decide (kv.1 = k)
  | _, _, .nil => rfl
  | _, _, .cons r t => by rw [List.any_cons, List.any_cons, any_rel k t, r.1]
theorem map_rel {κ : Type} [DecidableEq κ] {H : Hp} (k : κ) {v : V} {d : D} (f : Fz H v d) : ∀ {ks : List (κ × V)} {kvs : List (κ × D)}, Paired (KR H) ks kvs →
    Paired (KR H) (ks.map (fun kv => if kv.1 = k then (kv.1, v) else kv)) (kvs.map (fun kv => if kv.1 = k then (kv.1, d) else kv))
  | _, _, .nil => .nil
  | _, _, .cons (a := p) (b := q) r t => by
    refine .cons ?_ (map_rel k f t)
    have e : p.1 = q.1 := r.1
    show KR H (if p.1 = k then (p.1, v) else p) (if q.1 = k then (q.1, d) else q)
    by_cases h : p.1 = k
    · rw [if_pos h, if_pos (e ▸ h)]; exact ⟨e, f⟩
    · rw [if_neg h, if_neg (e ▸ h)]; exact r
theorem app_rel {α β : Type} {R : α → β → Prop} : ∀ {xs ys : List α} {us ws : List β}, Paired R xs us → Paired R ys ws → Paired R (xs ++ ys) (us ++ ws)
  | _, _, _, _, .nil, s => s
  | _, _, _, _, .cons r t, s => .cons r (app_rel t s)
theorem put_rel {κ : Type} [DecidableEq κ] {H : Hp} (k : κ) {v : V} {d : D} (f : Fz H v d) {ks : List (κ × V)} {kvs : List (κ × D)} (h : Paired (KR H) ks kvs) : Paired (KR H) (putK ks k v) (putD kvs k d) := by
  unfold putK putD
  rw [any_rel k h]
  by_cases c : (kvs.any fun kv => decide (kv.1 = k)) = true
  · rw [if_pos c, if_pos c]; exact map_rel k f h
  · rw [if_neg c, if_neg c]; exact app_rel h (.cons ⟨rfl, f⟩ .nil)
theorem paired_len {α β : Type} {R : α → β → Prop} : ∀ {xs : List α} {us : List β}, Paired R xs us → xs.length = us.length
  | _, _, .nil => rfl
  | _, _, .cons _ t => by rw [List.length_cons, List.length_cons, paired_len t]

/-- what a dict of the store holds at a key -/
inductive DG1 (m : M) (q : Addr) : D → Option D → Prop where
  | s {kvs : List (Key × D)} {x : Str} (h : m q = some (.dK kvs)) : DG1 m q (.str x) (valD kvs (.inr x))
  | t {kvs : List (List Key × D)} {ks : List Key} (h : m q = some (.dT kvs)) : DG1 m q (.tup (ks.map kD)) (valD kvs ks)
theorem DG1.get {K : PySem.W.Frag} {H : Hp} {q : Addr} {d : D} {r : Option D} {v : V} (am : AbsM K H m) (g : DG1 m q d r) (f : Fz H v d) : (r = none ∧ DGet H q v none) ∨ ∃ e w, r = some e ∧ DGet H q v (some w) ∧ Fz H w e := by
  cases g with
  | @s kvs x h =>
    cases f
    obtain ⟨ks, h1, g1⟩ := am _ _ h
    rcases valV_rel (.inr x : Key) g1 with ⟨e1, e2⟩ | ⟨w, e, e1, e2, e3⟩
    · exact .inl ⟨e2, by rw [← e1]; exact DGet.k (k := Sum.inr x) h1⟩
    · exact .inr ⟨e, w, e2, by rw [← e1]; exact DGet.k (k := Sum.inr x) h1, e3⟩
  | @t kvs ks h =>
    cases f with
    | tup h2 g2 =>
      have e0 := fz_keys g2
      subst e0
      obtain ⟨ks', h1, g1⟩ := am _ _ h
      rcases valV_rel ks g1 with ⟨e1, e2⟩ | ⟨w, e, e1, e2, e3⟩
      · exact .inl ⟨e2, by rw [← e1]; exact DGet.t h1 h2⟩
      · exact .inr ⟨e, w, e2, by rw [← e1]; exact DGet.t h1 h2, e3⟩
theorem DG1.isD {K : PySem.W.Frag} {H : Hp} {q : Addr} {d : D} {r : Option D} (am : AbsM K H m) (g : DG1 m q d r) : IsD H q := by
  cases g with
  | s h => obtain ⟨ks, h1, _⟩ := am _ _ h; exact .inl ⟨ks, .inl h1⟩
  | t h => obtain ⟨ks, h1, _⟩ := am _ _ h; exact .inr ⟨ks, .inl h1⟩
theorem o2_in {q : Addr} {d : D} {r : Option D} (hu : X.A.units + 1 < cLine) (g : DG1 m q d r) (k : Q (.bl r.isSome) m) : O2 X (compareOp .In) d (.ref q) m Q := fun v w H H0 tk kf f1 f2 am => by
  intro pins s σ u1 u2 I r1 r2
  cases f2
  obtain rfl : u2 = Value.ref q := r2
  rcases g.get am f1 with ⟨rfl, h⟩ | ⟨e, w, rfl, h, f⟩
  · exact d_in hu I h r1 fun s' I' => ⟨.bl false, H, I', rfl, PV.mk tk (.bl _) am k⟩
  · exact d_in hu I h r1 fun s' I' => ⟨.bl true, H, I', rfl, PV.mk tk (.bl _) am k⟩
theorem o2_notin {q : Addr} {d : D} {r : Option D} (hu : X.A.units + 1 < cLine) (g : DG1 m q d r) (k : Q (.bl (!r.isSome)) m) : O2 X (compareOp .NotIn) d (.ref q) m Q := fun v w H H0 tk kf f1 f2 am => by
  intro pins s σ u1 u2 I r1 r2
  cases f2
  obtain rfl : u2 = Value.ref q := r2
  rcases g.get am f1 with ⟨rfl, h⟩ | ⟨e, w, rfl, h, f⟩
  · exact d_notIn hu I h r1 fun s' I' => ⟨.bl true, H, I', rfl, PV.mk tk (.bl _) am k⟩
  · exact d_notIn hu I h r1 fun s' I' => ⟨.bl false, H, I', rfl, PV.mk tk (.bl _) am k⟩
theorem de_dget (hu : X.A.units + 1 < cLine) (h : DE X o Γ m fun d m1 => DE X i Γ m1 fun e m2 => ∃ q r, d = .ref q ∧ DG1 m2 q e (some r) ∧ Q r m2) (hs : NoSl i := by exact fun _ _ => rfl) : DE X (.Subscript o i pos) Γ m Q := fun σ H at_ => by
  refine WE.of (pe_dget hu we_pe we_pe hs) ?_
  refine two h at_ fun v w d e H2 m2 at2 k f1 f2 q => ?_
  obtain ⟨a, r, rfl, g, q⟩ := q
  cases f1
  rcases g.get at2.am f2 with ⟨h1, _⟩ | ⟨e', w', h1, h2, f⟩
  · cases h1
  · cases h1
    exact ⟨_, w', rfl, h2, PV.mk k f at2.am q⟩
/-- d.get(k, x) -/
theorem de_get2 {x : Expr} {apos cpos : Pos} (hu : X.A.units + 1 < cLine) (hm : M2 X o "get" apos i x cpos)
    (h : DE X o Γ m fun d m1 => ∃ q, d = .ref q ∧ (∃ o, m1 q = some o ∧ ((∃ kvs, o = .dK kvs) ∨ ∃ kvs, o = .dT kvs)) ∧ DE X i Γ m1 fun e m2 => DE X x Γ m2 fun z m3 => ∃ r, DG1 m3 q e r ∧ Q (r.getD z) m3) :
    DE X (.Call (.Attribute o "get" apos) [i, x] [] cpos) Γ m Q := fun σ H at_ => by
  refine WE.of (pe_dget2 hu we_pe we_pe we_pe hm) ?_
  refine h.thn at_ fun v H1 d m1 at1 k1 f1 h1 => ?_
  obtain ⟨q, rfl, ⟨ob, ho, hk⟩, h1⟩ := h1
  cases f1
  have isd : IsD H1 q := by
    have := at1.am _ _ ho
    rcases hk with ⟨kvs, rfl⟩ | ⟨kvs, rfl⟩
    · obtain ⟨ks, hh, _⟩ := this; exact .inl ⟨ks, .inl hh⟩
    · obtain ⟨ks, hh, _⟩ := this; exact .inr ⟨ks, .inl hh⟩
  refine ⟨q, rfl, isd, ?_⟩
  refine h1.thn at1 fun v2 H2 e m2 at2 k2 f2 h2 => ?_
  refine h2.thn at2 fun v3 H3 z m3 at3 k3 f3 h3 => ?_
  obtain ⟨r, g, q3⟩ := h3
  have tk := k1.trans (k2.trans k3)
  rcases g.get at3.am (f2.mono k3) with ⟨rfl, hg⟩ | ⟨e', w, rfl, hg, f⟩
  · exact ⟨none, hg, PV.mk tk f3 at3.am q3⟩
  · exact ⟨some w, hg, PV.mk tk f at3.am q3⟩
/-- {} -/
theorem de_dnew (q : ∀ r, m r = none → Q (.ref r) (mup m r (.dK []))) : DE X (.Dict [] [] pos) Γ m Q := fun σ H at_ => by
  refine WE.of pe_dnewK ?_
  intro z hz kf
  have k2 : TK H (upd H z (.dK [])) := TK.new hz
  exact ⟨k2, _, _, .ref z, AbsM.put (o := .dK []) at_.am k2 ⟨[], upd_same, .nil⟩, q z (at_.am.free hz (kf z _ upd_same))⟩
theorem de_dnewT (q : ∀ r, m r = none → Q (.ref r) (mup m r (.dT []))) : DE X (.Dict [] [] pos) Γ m Q := fun σ H at_ => by
  refine WE.of pe_dnewT ?_
  intro z hz kf
  have k2 : TK H (upd H z (.dT [])) := TK.new hz
  exact ⟨k2, _, _, .ref z, AbsM.put (o := .dT []) at_.am k2 ⟨[], upd_same, .nil⟩, q z (at_.am.free hz (kf z _ upd_same))⟩

/-! ### methods of lists -/
theorem ty_lst {K : PySem.W.Frag} {H : Hp} {q : Addr} {xs : List V} (h : H q = some (.lst xs)) : tyV K "list" (.ref q) H := Or.inl ⟨rfl, _, SqL.of h⟩
theorem de_append {apos cpos : Pos} (h : DE X o Γ m fun d m1 => ∃ q, d = .ref q ∧ (∃ ds, m1 q = some (.lst ds)) ∧ DE X e Γ m1 fun x m2 => ∃ ds, m2 q = some (.lst ds) ∧ ds.length < sizeLine ∧ Q .non (mup m2 q (.lst (ds ++ [x]))))
    (hbase : attributeBase o "append" X.env (eval o X.env) = eval o X.env := by rfl)
    (hfew : ((backTo cpos (starEach [e] X.env)).all (fun x => !x.1) && (backToKw cpos (keywordEach [] X.env)).all (fun x => x.1.isSome)
      && decide (([e] : List Expr).length + ([] : List Keyword).length + (if ([] : List Keyword).isEmpty then 0 else 1) < 30)) = true := by rfl)
    (hline : (apos.endLine == cpos.line) = true := by rfl) (hs : starEach [e] X.env = (false, eval e X.env) :: starEach [] X.env := by rfl) : DE X (.Call (.Attribute o "append" apos) [e] [] cpos) Γ m Q := fun σ H at_ => by
  refine WE.of (pe_bm PySem.F.plainAttrs_list PySem.F.slot_list_append PySem.F.type_list_append mt_append we_pe (pa_cons we_pe pa_nil hs) hbase hfew hline hs) ?_
  refine h.thn at_ fun v H1 d m1 at1 k1 f1 h1 => ?_
  obtain ⟨q, rfl, ⟨ds, hq⟩, h1⟩ := h1
  cases f1
  obtain ⟨xs, hx, _⟩ := at1.am _ _ hq
  refine ⟨ty_lst hx, ?_⟩
  refine h1.thn at1 fun v2 H2 x m2 at2 k2 f2 h2 => ?_
  obtain ⟨ds, hq, hl, q2⟩ := h2
  obtain ⟨xs, hx, g⟩ := at2.am _ _ hq
  refine ⟨q, xs, v2, rfl, rfl, hx, by rw [g.length]; exact hl, fun kf => ?_⟩
  have k3 : TK H2 (upd H2 q (.lst (xs ++ [v2]))) := TK.put hx (fun _ z => nomatch z)
  exact ⟨k1.trans (k2.trans k3), _, _, .non, AbsM.put (o := .lst (ds ++ [x])) at2.am k3 ⟨_, upd_same, (g.mono k3).append (.cons (f2.mono k3) .nil)⟩, q2⟩
theorem de_extend {apos cpos : Pos} (h : DE X o Γ m fun d m1 => ∃ q, d = .ref q ∧ (∃ ds, m1 q = some (.lst ds)) ∧ DE X e Γ m1 fun x m2 => ∃ r ds es, x = .ref r ∧ m2 q = some (.lst ds) ∧ m2 r = some (.lst es) ∧ ds.length + es.length ≤ sizeLine ∧ Q .non (mup m2 q (.lst (ds ++ es))))
    (hbase : attributeBase o "extend" X.env (eval o X.env) = eval o X.env := by rfl)
    (hfew : ((backTo cpos (starEach [e] X.env)).all (fun x => !x.1) && (backToKw cpos (keywordEach [] X.env)).all (fun x => x.1.isSome)
      && decide (([e] : List Expr).length + ([] : List Keyword).length + (if ([] : List Keyword).isEmpty then 0 else 1) < 30)) = true := by rfl)
    (hline : (apos.endLine == cpos.line) = true := by rfl) (hs : starEach [e] X.env = (false, eval e X.env) :: starEach [] X.env := by rfl) : DE X (.Call (.Attribute o "extend" apos) [e] [] cpos) Γ m Q := fun σ H at_ => by
  refine WE.of (pe_bm PySem.F.plainAttrs_list PySem.F.slot_list_extend PySem.F.type_list_extend mt_extend we_pe (pa_cons we_pe pa_nil hs) hbase hfew hline hs) ?_
  refine h.thn at_ fun v H1 d m1 at1 k1 f1 h1 => ?_
  obtain ⟨q, rfl, ⟨ds, hq⟩, h1⟩ := h1
  cases f1
  obtain ⟨xs, hx, _⟩ := at1.am _ _ hq
  refine ⟨ty_lst hx, ?_⟩
  refine h1.thn at1 fun v2 H2 x m2 at2 k2 f2 h2 => ?_
  obtain ⟨r, ds, es, rfl, hq, hr, hl, q2⟩ := h2
  cases f2
  obtain ⟨xs, hx, g⟩ := at2.am _ _ hq
  obtain ⟨ys, hy, g2⟩ := at2.am _ _ hr
  refine ⟨q, r, xs, ys, rfl, rfl, hx, hy, by rw [g.length, g2.length]; exact hl, fun kf => ?_⟩
  have k3 : TK H2 (upd H2 q (.lst (xs ++ ys))) := TK.put hx (fun _ z => nomatch z)
  exact ⟨k1.trans (k2.trans k3), _, _, .non, AbsM.put (o := .lst (ds ++ es)) at2.am k3 ⟨_, upd_same, (g.mono k3).append (g2.mono k3)⟩, q2⟩
theorem de_pop {apos cpos : Pos} (h : DE X o Γ m fun d m1 => ∃ q ds x, d = .ref q ∧ m1 q = some (.lst (ds ++ [x])) ∧ Q x (mup m1 q (.lst ds)))
    (hbase : attributeBase o "pop" X.env (eval o X.env) = eval o X.env := by rfl)
    (hline : (apos.endLine == cpos.line) = true := by rfl) : DE X (.Call (.Attribute o "pop" apos) [] [] cpos) Γ m Q := fun σ H at_ => by
  refine WE.of (pe_bm0 PySem.F.plainAttrs_list PySem.F.slot_list_pop PySem.F.type_list_pop mt_pop we_pe hbase hline) ?_
  refine h.thn at_ fun v H1 d m1 at1 k1 f1 h1 => ?_
  obtain ⟨q, ds, x, rfl, hq, q2⟩ := h1
  cases f1
  obtain ⟨xs, hx, g⟩ := at1.am _ _ hq
  obtain ⟨y, hy, fy⟩ := g.get (i := ds.length) (d := x) (by simp)
  have hl : xs.length - 1 = ds.length := by rw [g.length]; simp
  refine ⟨ty_lst hx, q, xs, y, rfl, rfl, hx, by rw [hl]; exact hy, fun kf => ?_⟩
  have k3 : TK H1 (upd H1 q (.lst xs.dropLast)) := TK.put hx (fun _ z => nomatch z)
  have g3 := (g.mono k3).dropLast
  rw [List.dropLast_concat] at g3
  exact ⟨k1.trans k3, _, _, fy.mono k3, AbsM.put (o := .lst ds) at1.am k3 ⟨_, upd_same, g3⟩, q2⟩

/-! ### attributes -/
theorem look_rel {H : Hp} {f : Str} : ∀ {gs : List (Str × V)} {fs : List (Str × D)}, Paired (KR H) gs fs → (gs.lookup f = none ∧ fs.lookup f = none) ∨ ∃ v d, gs.lookup f = some v ∧ fs.lookup f = some d ∧ Fz H v d
  | _, _, .nil => .inl ⟨rfl, rfl⟩
  | _, _, .cons (a := p) (b := q) r t => by
    obtain ⟨k, v⟩ := p
    obtain ⟨k', d⟩ := q
    have e : k = k' := r.1
    subst e
    by_cases h : (f == k) = true
    · exact .inr ⟨v, d, by simp only [List.lookup, h], by simp only [List.lookup, h], r.2⟩
    · have h' : (f == k) = false := by simpa using h
      simp only [List.lookup, h']
      exact look_rel t
def putFD (f : Str) (v : D) : List (Str × D) → List (Str × D)
  | [] => [(f, v)]
  | (g, x) :: r => if g = f then (g, v) :: r else (g, x) :: putFD f v r
theorem putF_rel {H : Hp} {f : Str} {v : V} {d : D} (fz : Fz H v d) : ∀ {gs : List (Str × V)} {fs : List (Str × D)}, Paired (KR H) gs fs → Paired (KR H) (putF f v gs) (putFD f d fs)
  | _, _, .nil => .cons ⟨rfl, fz⟩ .nil
  | _, _, .cons (a := p) (b := q) r t => by
    obtain ⟨k, v'⟩ := p
    obtain ⟨k', d'⟩ := q
    have e : k = k' := r.1
    subst e
    show Paired (KR H) (if k = f then _ else _) (if k = f then _ else _)
    by_cases h : k = f
    · rw [if_pos h, if_pos h]
      exact .cons ⟨rfl, fz⟩ t
    · rw [if_neg h, if_neg h]
      exact .cons r (putF_rel fz t)
theorem de_fld {f : Str} (hb : attributeBase e f X.env (eval e X.env) = eval e X.env)
    (h : DE X e Γ m fun d m1 => ∃ q C fs v, d = .ref q ∧ m1 q = some (.ins C fs) ∧ Cls X.K C ∧ NoAttr X.K C f ∧ fs.lookup f = some v ∧ Q v m1) : DE X (.Attribute e f pos) Γ m Q := fun σ H at_ => by
  refine WE.of (pe_fld we_pe hb) ?_
  refine h.thn at_ fun v H1 d m1 at1 k1 f1 h1 => ?_
  obtain ⟨q, C, fs, v', rfl, hq, cl, na, lk, q2⟩ := h1
  cases f1
  obtain ⟨dx, gs, hx, g⟩ := at1.am _ _ hq
  rcases look_rel (f := f) g with ⟨_, e2⟩ | ⟨w, d, e1, e2, fz⟩
  · rw [lk] at e2; cases e2
  · rw [lk] at e2; cases e2
    exact ⟨q, C, dx, gs, w, rfl, hx, cl, na, e1, PV.mk k1 fz at1.am q2⟩
end
end DL

set_option maxHeartbeats 2000000
/-! DT: statements, loops, comprehensions of the data level. -/
namespace DL
open PySem L2

section
variable {X : Cx} {a b e o i c tg iter : Expr} {es body : List Expr} {st : Stmt} {sts bs cs : List Stmt} {Γ : G} {m : M} {pos p : Pos} {E : DEnds}

theorem EN.le {K : PySem.W.Frag} {H H0 : Hp} {E : DEnds} {D' : Ends} (k : TK H0 H) (nx : ∀ σ H', Kf K H' → PN K H0 E.nx σ H' → D'.nx σ H') (rt : ∀ v H', Kf K H' → PV K H0 E.rt v H' → D'.rt v H')
    (bk : ∀ σ H', Kf K H' → PN K H0 E.bk σ H' → D'.bk σ H') (ct : ∀ σ H', Kf K H' → PN K H0 E.ct σ H' → D'.ct σ H') : EndsLe K (EN K H E) D' :=
  ⟨fun σ H' kf q => nx σ H' kf (PN.back k q), fun v H' kf q => rt v H' kf (PV.back k q), fun σ H' kf q => bk σ H' kf (PN.back k q), fun σ H' kf q => ct σ H' kf (PN.back k q)⟩

/-! ### blocks -/
theorem db_nil (q : E.nx Γ m) : DB X [] Γ m E := fun σ H at_ => WB.of pss_nil (PN.mk (TK.refl _) at_.g at_.am q)
theorem db_cons (h : DS X st Γ m { E with nx := fun Γ' m' => DB X sts Γ' m' E }) : DB X (st :: sts) Γ m E := fun σ H at_ => by
  refine WB.of (pss_cons ws_ps wb_pss) ?_
  refine (h σ H at_).mono (EN.le (TK.refl H) (fun σ' H' kf q => ?_) (fun _ _ _ q => q) (fun _ _ _ q => q) (fun _ _ _ q => q))
  obtain ⟨tk, Γ', m', g, am, q⟩ := q kf
  exact q.run ⟨kf, g, am⟩ tk
theorem DS.imp {E' : DEnds} (h : DS X st Γ m E) (nx : ∀ Γ' m', E.nx Γ' m' → E'.nx Γ' m') (rt : ∀ d m', E.rt d m' → E'.rt d m') (bk : ∀ Γ' m', E.bk Γ' m' → E'.bk Γ' m') (ct : ∀ Γ' m', E.ct Γ' m' → E'.ct Γ' m') : DS X st Γ m E' := fun σ H at_ =>
  (h σ H at_).mono ⟨fun _ _ _ q kf => let ⟨a, Γ', m', g, am, q⟩ := q kf; ⟨a, Γ', m', g, am, nx _ _ q⟩, fun _ _ _ q kf => let ⟨a, d, m', g, am, q⟩ := q kf; ⟨a, d, m', g, am, rt _ _ q⟩,
    fun _ _ _ q kf => let ⟨a, Γ', m', g, am, q⟩ := q kf; ⟨a, Γ', m', g, am, bk _ _ q⟩, fun _ _ _ q kf => let ⟨a, Γ', m', g, am, q⟩ := q kf; ⟨a, Γ', m', g, am, ct _ _ q⟩⟩
theorem db_one (h : DS X st Γ m E) : DB X [st] Γ m E := db_cons (h.imp (fun _ _ q => db_nil q) (fun _ _ q => q) (fun _ _ q => q) (fun _ _ q => q))

/-! ### small statements -/
theorem ds_continue (q : E.ct Γ m) : DS X (.Continue pos) Γ m E := fun σ H at_ => WS.of ps_continue (PN.mk (TK.refl _) at_.g at_.am q)
theorem ds_expr (h : DE X e Γ m fun _ m1 => E.nx Γ m1) (hs : swapsWith e none pos.line X.env = pure false := by rfl) : DS X (.Expr e pos) Γ m E := fun σ H at_ => by
  refine WS.of (ps_expr we_pe hs) ?_
  exact h.thn at_ fun v H' d m' at' k f q => PN.mk k at'.g at'.am q
theorem ds_ret (h : DE X e Γ m E.rt) : DS X (.Return (some e) pos) Γ m E := fun σ H at_ => WS.of (ps_ret we_pe) (h σ H at_)
theorem ds_retN (q : E.rt .non m) : DS X (.Return none pos) Γ m E := fun σ H at_ => WS.of ps_retN (PV.mk (TK.refl _) .non at_.am q)
theorem ds_if (h : DT X c Γ m fun t m1 => (t = true → DB X bs Γ m1 E) ∧ (t = false → DB X cs Γ m1 E)) : DS X (.If c bs cs pos) Γ m E := fun σ H at_ => by
  refine WS.of (ps_if wt_pt wb_pss wb_pss) ?_
  refine h.thn at_ fun t H' m' at' k q => ?_
  cases t with
  | true => exact (q.1 rfl).run at' k
  | false => exact (q.2 rfl).run at' k

/-! ### targets -/
theorem dg_name (n : Nat) {x : Str} {d : D} {Q : G → M → Prop} (nd : X.N.Nodup) (hN : X.N[n]? = some x) (hx : Loc X.env.scope x) (hf : X.fn x = true ∨ X.env.scope.names.lookup x = some .local) (q : Q (Γ.set n (some d)) m) : DG X (.Name x pos) d Γ m Q := fun σ H v at_ f =>
  WG.of (pg_name nd hN hx hf) (PN.mk (TK.refl _) (at_.g.set n f) at_.am q)
theorem dgs_nil {Q : G → M → Prop} (q : Q Γ m) : DGs X [] [] Γ m Q := fun σ H vs at_ f => by
  cases f
  exact WGs.of pgs_nil ⟨rfl, PN.mk (TK.refl _) at_.g at_.am q⟩
theorem dgs_cons {d : D} {ds : List D} {Q : G → M → Prop} (h : DG X e d Γ m fun Γ' m' => DGs X es ds Γ' m' Q)
    (hs : (assignEach (e :: es) X.env).map (·.2) = assign e X.env :: (assignEach es X.env).map (·.2) := by rfl) : DGs X (e :: es) (d :: ds) Γ m Q := fun σ H vs at_ f => by
  cases f with
  | cons f fs =>
    refine WGs.of (pgs_cons wg_pg wgs_pgs hs) ⟨_, _, rfl, ?_⟩
    refine h.thn at_ f fun σ' H' Γ' m' at' k q => ?_
    exact q.run at' (fs.mono k) k
theorem dg_tup {k : Nat} {ds : List D} {Q : G → M → Prop} (hc : X.calm = true) (h : DGs X es ds Γ m Q) {n : Nat} (hn : (assignEach es X.env).length = n) (hl : ds.length = n)
    (hst : (assignEach es X.env).findIdx? (·.1) = none) : DG X (.Tuple es k pos) (.tup ds) Γ m Q := fun σ H v at_ f => by
  cases f with
  | tup h1 g1 =>
    refine WG.of (pg_tup hc wgs_pgs hn hst) ⟨_, _, rfl, SqT.of h1, g1.length.trans hl, ?_⟩
    exact h σ H _ at_ g1

theorem ds_asg {e : Expr} (h : DE X e Γ m fun d m1 => DG X tg d Γ m1 E.nx) (hs : swapsWithSole [tg] e pos.line X.env = pure false := by rfl) (hw : swappedStores [tg] e X.env = pure none := by rfl)
    (h1 : (assignEach [tg] X.env).map (·.2) = [assign tg X.env] := by rfl) : DS X (.Assign [tg] e pos) Γ m E := fun σ H at_ => by
  refine WS.of (ps_asg we_pe wg_pg hs hw h1) ?_
  refine h.thn at_ fun v H' d m' at' k f q => ?_
  exact q.run at' f k
theorem ds_set (n : Nat) {x : Str} {pos' : Pos} (nd : X.N.Nodup) (hN : X.N[n]? = some x) (hx : Loc X.env.scope x) (hf : X.fn x = true ∨ X.env.scope.names.lookup x = some .local)
    (h : DE X e Γ m fun d m1 => E.nx (Γ.set n (some d)) m1) (hs : swapsWith e (some (.Name x pos')) pos.line X.env = pure false := by rfl) : DS X (.Assign [.Name x pos'] e pos) Γ m E := fun σ H at_ => by
  refine WS.of (ps_set nd hN hx we_pe hs hf) ?_
  exact h.thn at_ fun v H' d m' at' k f q => PN.mk k (at'.g.set n f) at'.am q
/-- o[i] = e, a list -/
theorem ds_lput {pos' : Pos} (h : DE X e Γ m fun d m1 => DE X o Γ m1 fun d2 m2 => DE X i Γ m2 fun d3 m3 => ∃ q n j ds, d2 = .ref q ∧ d3 = .int n ∧ m3 q = some (.lst ds) ∧ ixN ds.length n = some j ∧ E.nx Γ (mup m3 q (.lst (ds.set j d))))
    (hs : swapsWithSole [.Subscript o i pos'] e pos.line X.env = pure false := by rfl) (hw : swappedStores [.Subscript o i pos'] e X.env = pure none := by rfl)
    (h1 : (assignEach [.Subscript o i pos'] X.env).map (·.2) = [assign (.Subscript o i pos') X.env] := by rfl)
    (ha : ∀ v, assign (.Subscript o i pos') X.env v = (do
      let ov ← holding [v] (eval o X.env)
      let iv ← holding [v, ov] (eval i X.env)
      standAt pos'
      holding [v, ov, iv] (setItem ov iv v)
      release [v, ov, iv] []) := by intro _; rfl) : DS X (.Assign [.Subscript o i pos'] e pos) Γ m E := fun σ H at_ => by
  refine WS.of (ps_asg we_pe (pg_sub we_pe we_pe set_list ha) hs hw h1) ?_
  refine h.thn at_ fun v H1 d m1 at1 k1 f1 h1 => ?_
  refine two h1 at1 fun v2 v3 d2 d3 H3 m3 at3 k3 f2 f3 h3 => ?_
  obtain ⟨q, n, j, ds, rfl, rfl, hq, hj, q3⟩ := h3
  cases f2; cases f3
  obtain ⟨xs, hx, g⟩ := at3.am _ _ hq
  refine ⟨q, xs, n, j, rfl, rfl, hx, by rw [g.length]; exact hj, fun kf => ?_⟩
  have k4 : TK H3 (upd H3 q (.lst (xs.set j v))) := TK.put hx (fun _ z => nomatch z)
  exact ⟨k1.trans (k3.trans k4), _, _, at3.g.mono k4, AbsM.put (o := .lst (ds.set j d)) at3.am k4 ⟨_, upd_same, FzAll.set (f1.mono (k3.trans k4)) j (g.mono k4)⟩, q3⟩
/-- o[i] = e, a dict whose keys are texts -/
theorem ds_dput {pos' : Pos} (hu : X.A.units + 1 < cLine) (hs : swapsWith e (some (.Subscript o i pos')) pos.line X.env = pure false)
    (h : DE X e Γ m fun d m1 => DE X o Γ m1 fun d2 m2 => DE X i Γ m2 fun d3 m3 => ∃ q kvs x, d2 = .ref q ∧ d3 = .str x ∧ m3 q = some (.dK kvs) ∧ kvs.length < sizeLine ∧ E.nx Γ (mup m3 q (.dK (putD kvs (.inr x) d)))) : DS X (.Assign [.Subscript o i pos'] e pos) Γ m E := fun σ H at_ => by
  refine WS.of (ps_dput hu we_pe we_pe we_pe hs) ?_
  refine h.thn at_ fun v H1 d m1 at1 k1 f1 h1 => ?_
  refine two h1 at1 fun v2 v3 d2 d3 H3 m3 at3 k3 f2 f3 h3 => ?_
  obtain ⟨q, kvs, x, rfl, rfl, hq, hl, q3⟩ := h3
  cases f2; cases f3
  obtain ⟨ks, hx, g⟩ := at3.am _ _ hq
  refine ⟨q, _, rfl, DPut.k (k := Sum.inr x) hx (by rw [paired_len g]; exact hl), fun kf => ?_⟩
  have k4 : TK H3 (upd H3 q (.dK (putK ks (.inr x) v))) := TK.put hx (fun _ z => nomatch z)
  exact ⟨k1.trans (k3.trans k4), _, _, at3.g.mono k4, AbsM.put (o := .dK (putD kvs (.inr x) d)) at3.am k4 ⟨_, upd_same, put_rel _ (f1.mono (k3.trans k4)) (KRs.mono k4 g)⟩, q3⟩
/-- o[i] = e, a dict whose keys are tuples -/
theorem ds_tput {pos' : Pos} (hu : X.A.units + 1 < cLine) (hs : swapsWith e (some (.Subscript o i pos')) pos.line X.env = pure false)
    (h : DE X e Γ m fun d m1 => DE X o Γ m1 fun d2 m2 => DE X i Γ m2 fun d3 m3 => ∃ q kvs ks, d2 = .ref q ∧ d3 = .tup (List.map kD ks) ∧ m3 q = some (.dT kvs) ∧ kvs.length < sizeLine ∧ E.nx Γ (mup m3 q (.dT (putD kvs ks d)))) : DS X (.Assign [.Subscript o i pos'] e pos) Γ m E := fun σ H at_ => by
  refine WS.of (ps_dput hu we_pe we_pe we_pe hs) ?_
  refine h.thn at_ fun v H1 d m1 at1 k1 f1 h1 => ?_
  refine two h1 at1 fun v2 v3 d2 d3 H3 m3 at3 k3 f2 f3 h3 => ?_
  obtain ⟨q, kvs, ks, rfl, rfl, hq, hl, q3⟩ := h3
  cases f2
  cases f3 with
  | tup h2 g2 =>
    have e0 := fz_keys g2
    subst e0
    obtain ⟨ks', hx, g⟩ := at3.am _ _ hq
    refine ⟨q, _, rfl, DPut.t hx h2 (by rw [paired_len g]; exact hl), fun kf => ?_⟩
    have k4 : TK H3 (upd H3 q (.dT (putK ks' ks v))) := TK.put hx (fun _ z => nomatch z)
    exact ⟨k1.trans (k3.trans k4), _, _, at3.g.mono k4, AbsM.put (o := .dT (putD kvs ks d)) at3.am k4 ⟨_, upd_same, put_rel _ (f1.mono (k3.trans k4)) (KRs.mono k4 g)⟩, q3⟩
/-- o.f = e -/
theorem ds_fld {f : Str} {pos' : Pos} (hs : swapsWith e (some (.Attribute o f pos')) pos.line X.env = pure false)
    (h : DE X e Γ m fun d m1 => DE X o Γ m1 fun d2 m2 => ∃ q C fs, d2 = .ref q ∧ m2 q = some (.ins C fs) ∧ Cls X.K C ∧ NoAttr X.K C f ∧ fs.length < 1000 ∧ E.nx Γ (mup m2 q (.ins C (putFD f d fs)))) : DS X (.Assign [.Attribute o f pos'] e pos) Γ m E := fun σ H at_ => by
  refine WS.of (ps_fld we_pe we_pe hs) ?_
  refine two h at_ fun v v2 d d2 H2 m2 at2 k2 f1 f2 h2 => ?_
  obtain ⟨q, C, fs, rfl, hq, cl, na, hl, q2⟩ := h2
  cases f2
  obtain ⟨dx, gs, hx, g⟩ := at2.am _ _ hq
  refine ⟨q, C, dx, gs, rfl, hx, cl, na, by rw [paired_len g]; exact hl, fun kf => ?_⟩
  have k4 : TK H2 (upd H2 q (.ins C dx (putF f v gs))) := TK.put hx (fun _ z => nomatch z)
  exact ⟨k2.trans k4, _, _, at2.g.mono k4, AbsM.put (o := .ins C (putFD f d fs)) at2.am k4 ⟨dx, _, upd_same, putF_rel (f1.mono k4) (KRs.mono k4 g)⟩, q2⟩

/-! ### what is walked -/
/-- J walks the items ds while T holds -/
structure Wk (K : PySem.W.Frag) (J : It) (ds : List D) (T : Hp → Prop) : Prop where
  go : ∀ i H, T H → i < ds.length → J.go i H
  stop : ∀ i H, T H → ds.length ≤ i → J.stop i H
  yld : ∀ (i : Nat) H x H' (m : M), T H → AbsM K H m → J.yld i H x H' → i < ds.length → Kf K H' → TK H H' ∧ AbsM K H' m ∧ ∃ d, ds[i]? = some d ∧ Fz H' x d
/-- the iterator of iter: it walks ds while S holds of the store -/
def DI (X : Cx) (tg iter : Expr) (Γ : G) (m : M) (R : List D → (M → Prop) → M → Prop) : Prop := ∀ σ H, At X σ H Γ m → ∃ wi, PI X tg iter wi ∧ ∀ P : It → Hp → Prop,
  (∀ J H1 ds S m1 T, Kf X.K H1 → TK H H1 → AbsM X.K H1 m1 → Wk X.K J ds T → S m1 → T H1 → (∀ H2 m2, TK H1 H2 → AbsM X.K H2 m2 → S m2 → T H2) → (∀ H2 p o, T H2 → H2 p = none → T (upd H2 p o)) → R ds S m1 → P J H1) → wi σ H P
theorem Kf.put {K : PySem.W.Frag} {H : Hp} {p : Addr} {u o : HO} (h : Kf K H) (hp : H p = some u) : Kf K (upd H p o) := fun a x e => by
  by_cases ha : a = p
  · subst ha; exact h _ _ hp
  · rw [upd_ne ha] at e; exact h _ _ e
theorem WG.kf {v : V} {σ : St} {H : Hp} {Q : St → Hp → Prop} (h : Kf X.K H → WG X e v σ H Q) : WG X e v σ H Q := fun pins s u I r => h (inv_kf I) pins s u I r

/-- for: the invariant W by the turn -/
theorem ds_for (hp : PassesOwn (model X.prog X.w) X.A X.env X.xe) (hc : X.calm = true)
    (h : DI X tg iter Γ m fun ds S m1 => ∃ W : Nat → G → M → Prop, W 0 Γ m1 ∧ (∀ i Γ' m', i ≤ ds.length → W i Γ' m' → S m') ∧
      (∀ i d Γ' m', ds[i]? = some d → W i Γ' m' → DG X tg d Γ' m' fun Γ2 m2 => DB X bs Γ2 m2 { E with nx := W (i + 1), ct := W (i + 1), bk := E.nx }) ∧ ∀ Γ' m', W ds.length Γ' m' → E.nx Γ' m')
    (hs : ∀ x, foldedSetIterable iter X.env x = pure x := by intro _; rfl) : DS X (.For tg iter bs [] pos) Γ m E := fun σ H at_ => by
  obtain ⟨wi, hi, hw⟩ := h σ H at_
  refine WS.of (ps_for hp hc hi wg_pg wb_pss hs) ?_
  refine hw _ fun J H1 ds S m1 T kf1 k1 am1 wk s1 t1 sT tN ⟨W, w0, wS, ws, wd⟩ => ?_
  refine ⟨fun i mm σ' H' => mm = ds.length - i ∧ i ≤ ds.length ∧ TK H1 H' ∧ Kf X.K H' ∧ ∃ Γ' m', AbsG H' σ' Γ' ∧ AbsM X.K H' m' ∧ W i Γ' m', ⟨_, rfl, Nat.zero_le _, TK.refl _, kf1, Γ, m1, at_.g.mono k1, am1, w0⟩, ?_⟩
  rintro i mm σ2 H2 ⟨rfl, hi2, tk, kf, Γ2, m2, g2, am2, w2⟩
  have t2 : T H2 := sT H2 m2 tk am2 (wS i _ _ hi2 w2)
  by_cases hlt : i < ds.length
  · refine .inr ⟨wk.go i H2 t2 hlt, fun σ' H' => TK H1 H' ∧ Kf X.K H' ∧ ∃ Γ' m', AbsG H' σ' Γ' ∧ AbsM X.K H' m' ∧ W (i + 1) Γ' m', fun σ' H' ⟨a1, a2, a3⟩ => ⟨ds.length - (i + 1), by omega, rfl, hlt, a1, a2, a3⟩, fun x H' y => ?_⟩
    refine WG.kf fun kf' => ?_
    obtain ⟨tk', am', d, hd, fd⟩ := wk.yld i H2 x H' m2 t2 am2 y hlt kf'
    have k12 := tk.trans tk'
    refine (ws i d _ _ hd w2).thn ⟨kf', g2.mono tk', am'⟩ fd fun σ3 H3 Γ3 m3 at3 k3 q3 => ?_
    have nxt : ∀ σ' H', Kf X.K H' → PN X.K H1 (W (i + 1)) σ' H' → TK H1 H' ∧ Kf X.K H' ∧ ∃ Γ' m', AbsG H' σ' Γ' ∧ AbsM X.K H' m' ∧ W (i + 1) Γ' m' := fun σ' H' kq q => by
      obtain ⟨k, Γ', m', g, am, w⟩ := q kq
      exact ⟨k, kq, Γ', m', g, am, w⟩
    refine (q3 σ3 H3 at3).mono (EN.le (k12.trans k3) nxt (fun v H' kq q => PV.back k1 q) (fun σ' H' kq q => PN.back k1 q) nxt)
  · have e : i = ds.length := by omega
    subst e
    exact .inl ⟨wk.stop _ H2 t2 (Nat.le_refl _), PN.mk (k1.trans tk) g2 am2 (wd _ _ w2)⟩
theorem ds_while (hp : PassesOwn (model X.prog X.w) X.A X.env X.xe) (W : Nat → G → M → Prop) (n0 : Nat) (w0 : W n0 Γ m)
    (h : ∀ n Γ' m', W n Γ' m' → DT X c Γ' m' fun t m1 => (t = true → DB X bs Γ' m1 { E with nx := fun Γ2 m2 => ∃ n', n' < n ∧ W n' Γ2 m2, ct := fun Γ2 m2 => ∃ n', n' < n ∧ W n' Γ2 m2, bk := E.nx }) ∧ (t = false → E.nx Γ' m1)) : DS X (.While c bs [] pos) Γ m E := fun σ H at_ => by
  refine WS.of (ps_while hp wt_pt wb_pss) ?_
  refine ⟨fun n σ' H' => TK H H' ∧ Kf X.K H' ∧ ∃ Γ' m', AbsG H' σ' Γ' ∧ AbsM X.K H' m' ∧ W n Γ' m', ⟨n0, TK.refl _, at_.kf, Γ, m, at_.g, at_.am, w0⟩, ?_⟩
  rintro n σ1 H1 ⟨k1, kf1, Γ1, m1, g1, am1, w1⟩
  refine (h n Γ1 m1 w1).thn ⟨kf1, g1, am1⟩ fun t H2 m2 at2 k2 q2 => ?_
  cases t with
  | true =>
    refine (iteT ?_)
    refine ⟨fun σ' H' => ∃ n', n' < n ∧ TK H H' ∧ Kf X.K H' ∧ ∃ Γ' m', AbsG H' σ' Γ' ∧ AbsM X.K H' m' ∧ W n' Γ' m', fun σ' H' ⟨n', hn, q⟩ => ⟨n', hn, q⟩, ?_⟩
    have k12 := k1.trans k2
    have nxt : ∀ σ' H', Kf X.K H' → PN X.K H (fun Γ2 m2 => ∃ n', n' < n ∧ W n' Γ2 m2) σ' H' → ∃ n', n' < n ∧ TK H H' ∧ Kf X.K H' ∧ ∃ Γ' m', AbsG H' σ' Γ' ∧ AbsM X.K H' m' ∧ W n' Γ' m' := fun σ' H' kq q => by
      obtain ⟨k, Γ', m', g, am, n', hn, w⟩ := q kq
      exact ⟨n', hn, k, kq, Γ', m', g, am, w⟩
    exact (q2.1 rfl σ1 H2 at2).mono (EN.le k12 nxt (fun v H' kq q => q) (fun σ' H' kq q => q) nxt)
  | false => exact iteF (PN.mk (k1.trans k2) at2.g at2.am (q2.2 rfl))

/-! ### iterators -/
theorem di_l {R : List D → (M → Prop) → M → Prop} (h : DE X iter Γ m fun d m1 => ∃ q ds, d = .ref q ∧ IsL m1 q ds ∧ R ds (fun m' => IsL m' q ds) m1) : DI X tg iter Γ m R := fun σ H at_ => by
  refine ⟨_, pi_list we_pe, fun P hP => ?_⟩
  refine h.thn at_ fun v H1 d m1 at1 k1 f1 h1 => ?_
  obtain ⟨q, ds, rfl, hq, r⟩ := h1
  cases f1
  obtain ⟨xs, hx, g⟩ := hq.sq at1.am
  refine ⟨q, rfl, ⟨xs, hx⟩, ?_⟩
  refine hP (Itl X.K q) H1 ds _ m1 (fun H' => ∃ ys, SqL X.K H' q ys ∧ FzAll H' ys ds) at1.kf k1 at1.am ⟨?_, ?_, ?_⟩ hq ⟨xs, hx, g⟩ (fun H2 m2 _ am s => IsL.sq am s) ?_ r
  · rintro i H' ⟨ys, hy, gy⟩ hi
    rw [← gy.length] at hi
    exact ⟨ys, ys[i], hy, by simp [hi]⟩
  · rintro i H' ⟨ys, hy, gy⟩ hi
    exact ⟨ys, hy, by rw [gy.length]; exact hi⟩
  · rintro i H' x H2 m2 ⟨ys, hy, gy⟩ am ⟨rfl, hx2⟩ hi kf
    obtain ⟨d, hd, fd⟩ := gy.getV (hx2 ys hy)
    exact ⟨TK.refl _, am, d, hd, fd⟩
  · rintro H2 p o ⟨ys, hy, gy⟩ hn
    have k : TK H2 (upd H2 p o) := TK.new hn
    refine ⟨ys, ?_, gy.mono k⟩
    rcases hy with (hy | ⟨ob, hy⟩) | hy
    · exact .inl (.inl (by rw [upd_ne (ne_of_none hy hn)]; exact hy))
    · exact .inl (.inr ⟨ob, by rw [upd_ne (ne_of_none hy hn)]; exact hy⟩)
    · exact .inr hy
theorem di_t {R : List D → (M → Prop) → M → Prop} (h : DE X iter Γ m fun d m1 => ∃ ds, d = .tup ds ∧ R ds (fun _ => True) m1) : DI X tg iter Γ m R := fun σ H at_ => by
  refine ⟨_, pi_tup we_pe, fun P hP => ?_⟩
  refine h.thn at_ fun v H1 d m1 at1 k1 f1 h1 => ?_
  obtain ⟨ds, rfl, r⟩ := h1
  cases f1 with
  | @tup q xs _ hx g =>
    refine ⟨q, rfl, ⟨xs, SqT.of hx⟩, ?_⟩
    refine hP (Itt X.K q) H1 ds _ m1 (fun H' => H' q = some (.tup xs) ∧ FzAll H' xs ds) at1.kf k1 at1.am ⟨?_, ?_, ?_⟩ True.intro ⟨hx, g⟩ (fun H2 m2 k _ _ => ⟨k _ _ hx, g.mono k⟩) ?_ r
    · rintro i H' ⟨hy, gy⟩ hi
      rw [← gy.length] at hi
      exact ⟨xs, xs[i], SqT.of hy, by simp [hi]⟩
    · rintro i H' ⟨hy, gy⟩ hi
      exact ⟨xs, SqT.of hy, by rw [gy.length]; exact hi⟩
    · rintro i H' x H2 m2 ⟨hy, gy⟩ am ⟨rfl, hx2⟩ hi kf
      obtain ⟨d, hd, fd⟩ := gy.getV (hx2 xs (SqT.of hy))
      exact ⟨TK.refl _, am, d, hd, fd⟩
    · rintro H2 p o ⟨hy, gy⟩ hn
      have k : TK H2 (upd H2 p o) := TK.new hn
      exact ⟨k _ _ hy, gy.mono k⟩
theorem di_rev {R : List D → (M → Prop) → M → Prop} {p2 : Pos} (hg : Gl X "reversed") (hm : X.mg "reversed" = none) (h : DE X e Γ m fun d m1 => ∃ ds, d = .tup ds ∧ R ds.reverse (fun _ => True) m1)
    (hs : starEach [e] X.env = (false, eval e X.env) :: starEach [] X.env := by rfl) : DI X tg (.Call (.Name "reversed" p) [e] [] p2) Γ m R := fun σ H at_ => by
  refine ⟨_, RT.pi_revA hg hm we_pe hs, fun P hP => ?_⟩
  refine h.thn at_ fun v H1 d m1 at1 k1 f1 h1 => ?_
  obtain ⟨ds, rfl, r⟩ := h1
  cases f1 with
  | @tup q xs _ hx g =>
    refine ⟨q, xs, rfl, .inr ⟨SqT.of hx, ?_⟩⟩
    refine hP (RT.ItvT X.K q xs.length) H1 ds.reverse _ m1 (fun H' => H' q = some (.tup xs) ∧ FzAll H' xs ds) at1.kf k1 at1.am ⟨?_, ?_, ?_⟩ True.intro ⟨hx, g⟩ (fun H2 m2 k _ _ => ⟨k _ _ hx, g.mono k⟩) ?_ r
    · rintro i H' ⟨hy, gy⟩ hi
      rw [List.length_reverse, ← gy.length] at hi
      exact ⟨hi, xs, xs[xs.length - 1 - i], SqT.of hy, by rw [List.getElem?_eq_getElem]⟩
    · rintro i H' ⟨hy, gy⟩ hi
      rw [List.length_reverse, ← gy.length] at hi
      exact hi
    · rintro i H' x H2 m2 ⟨hy, gy⟩ am ⟨rfl, hx2⟩ hi kf
      obtain ⟨d, hd, fd⟩ := gy.getV (hx2 xs (SqT.of hy))
      rw [List.length_reverse] at hi
      exact ⟨TK.refl _, am, d, by rw [List.getElem?_reverse hi, ← gy.length]; exact hd, fd⟩
    · rintro H2 p o ⟨hy, gy⟩ hn
      have k : TK H2 (upd H2 p o) := TK.new hn
      exact ⟨k _ _ hy, gy.mono k⟩
/-- lo, lo + c, .. -/
def rgD (lo c : Int) (n : Nat) : List D := (List.range n).map fun (i : Nat) => D.int (lo + (i : Int) * c)
theorem rgD_len {lo c : Int} {n : Nat} : (rgD lo c n).length = n := by simp [rgD]
theorem rgD_get {lo c : Int} {n i : Nat} (h : i < n) : (rgD lo c n)[i]? = some (.int (lo + (i : Int) * c)) := by simp [rgD, h]
theorem wk_rg {K : PySem.W.Frag} {lo c : Int} {n : Nat} : Wk K (Itc lo c n) (rgD lo c n) (fun _ => True) := by
  refine ⟨fun i H _ hi => ?_, fun i H _ hi => ?_, fun i H x H' m _ am y hi kf => ?_⟩
  · rw [rgD_len] at hi; exact hi
  · rw [rgD_len] at hi; exact hi
  · obtain ⟨rfl, rfl⟩ := y
    rw [rgD_len] at hi
    exact ⟨TK.refl _, am, _, rgD_get hi, .int _⟩
theorem wk_rg1 {K : PySem.W.Frag} {lo : Int} {n : Nat} : Wk K (Itr lo n) (rgD lo 1 n) (fun _ => True) := by
  refine ⟨fun i H _ hi => ?_, fun i H _ hi => ?_, fun i H x H' m _ am y hi kf => ?_⟩
  · rw [rgD_len] at hi; exact hi
  · rw [rgD_len] at hi; exact hi
  · obtain ⟨rfl, rfl⟩ := y
    rw [rgD_len] at hi
    exact ⟨TK.refl _, am, _, rgD_get hi, by rw [Int.mul_one]; exact .int _⟩
theorem di_r1 {R : List D → (M → Prop) → M → Prop} {p2 : Pos} (hg : Gl X "range") (hm : X.mg "range" = none) (h : DE X a Γ m fun d m1 => ∃ n : Int, d = .int n ∧ -(2 ^ 62) ≤ n ∧ n < 2 ^ 62 ∧ R (rgD 0 1 n.toNat) (fun _ => True) m1)
    (hs : starEach [a] X.env = [(false, eval a X.env)] := by rfl) : DI X tg (.Call (.Name "range" p) [a] [] p2) Γ m R := fun σ H at_ => by
  refine ⟨_, pi_range1 hg hm (pa_cons we_pe pa_nil hs) hs, fun P hP => ?_⟩
  refine h.thn at_ fun v H1 d m1 at1 k1 f1 h1 => ?_
  obtain ⟨n, rfl, b1, b2, r⟩ := h1
  cases f1
  exact ⟨n, rfl, b1, b2, hP _ H1 _ _ m1 _ at1.kf k1 at1.am wk_rg1 True.intro True.intro (fun _ _ _ _ _ => True.intro) (fun _ _ _ _ _ => True.intro) r⟩
theorem di_r2 {R : List D → (M → Prop) → M → Prop} {p2 : Pos} (hg : Gl X "range") (hm : X.mg "range" = none)
    (h : DA X [a, b] Γ m fun ds m1 => ∃ i j : Int, ds = [.int i, .int j] ∧ (-(2 ^ 62) ≤ i ∧ i < 2 ^ 62 ∧ -(2 ^ 62) ≤ j ∧ j < 2 ^ 62) ∧ R (rgD i 1 (j - i).toNat) (fun _ => True) m1)
    (hs : starEach [a, b] X.env = [(false, eval a X.env), (false, eval b X.env)] := by rfl) (hs2 : starEach [b] X.env = [(false, eval b X.env)] := by rfl) : DI X tg (.Call (.Name "range" p) [a, b] [] p2) Γ m R := fun σ H at_ => by
  refine ⟨_, pi_range2 hg hm wa_pa hs hs2, fun P hP => ?_⟩
  refine h.thn at_ fun vs H1 ds m1 at1 k1 f1 h1 => ?_
  obtain ⟨i, j, rfl, bd, r⟩ := h1
  obtain ⟨v, w, rfl, f1, f2⟩ := fz2 f1
  cases f1; cases f2
  exact ⟨i, j, rfl, bd, hP _ H1 _ _ m1 _ at1.kf k1 at1.am wk_rg1 True.intro True.intro (fun _ _ _ _ _ => True.intro) (fun _ _ _ _ _ => True.intro) r⟩
theorem di_r3 {R : List D → (M → Prop) → M → Prop} {p2 : Pos} (hg : Gl X "range") (hm : X.mg "range" = none)
    (h : DA X [a, b, c] Γ m fun ds m1 => ∃ (i j k : Int) (n : Nat), ds = [.int i, .int j, .int k] ∧ RgC i j k n ∧ R (rgD i k n) (fun _ => True) m1)
    (hs : starEach [a, b, c] X.env = (false, eval a X.env) :: starEach [b, c] X.env := by rfl) (hpl : (backTo p2 (starEach [b, c] X.env)).any (·.1) = false := by rfl) : DI X tg (.Call (.Name "range" p) [a, b, c] [] p2) Γ m R := fun σ H at_ => by
  refine ⟨_, pi_range3 hg hm wa_pa hs hpl, fun P hP => ?_⟩
  refine h.thn at_ fun vs H1 ds m1 at1 k1 f1 h1 => ?_
  obtain ⟨i, j, k, n, rfl, bd, r⟩ := h1
  cases f1 with
  | cons g1 t =>
    obtain ⟨v, w, rfl, g2, g3⟩ := fz2 t
    cases g1; cases g2; cases g3
    exact ⟨i, j, k, n, rfl, bd, hP _ H1 _ _ m1 _ at1.kf k1 at1.am wk_rg True.intro True.intro (fun _ _ _ _ _ => True.intro) (fun _ _ _ _ _ => True.intro) r⟩
end
end DL

set_option maxHeartbeats 2000000
/-! DU: comprehensions, defs, methods, instances at the data level. -/
namespace DL
open PySem L2

/-! ### comprehensions -/
section
variable {X : Cx} {elt tg iter e : Expr} {ifs : List Expr} {scope : Scope} {own : List (Str × Nat)} {Γ : G} {m : M} {pos : Pos}
/-- in every context of the comprehension's block -/
abbrev InBlk (X : Cx) (scope : Scope) (P : Cx → Prop) : Prop := ∀ (s : Shared) (H : Hp) (C : Addr) (cl : List (Str × Addr)) (fp : List Addr), P (X.blk s H scope (compEnvC scope cl C X.env) fp)
def wipeG (Γ : G) : List Nat → G
  | [] => Γ
  | v :: vs => (wipeG Γ vs).set v none
theorem AbsG.unset {H : Hp} {σ : St} {Γ : G} (g : AbsG H σ Γ) (i : Nat) : AbsG H (σ.set i none) (Γ.set i none) := by
  refine ⟨by rw [List.length_set, List.length_set, g.len], fun j e h => ?_⟩
  by_cases hj : i = j
  · subst hj
    have hl : i < Γ.length := by
      have := (List.getElem?_eq_some_iff.mp h).1
      simpa using this
    rw [List.getElem?_set_self hl] at h
    cases h
  · rw [List.getElem?_set_ne hj] at h
    rw [List.getElem?_set_ne hj]
    exact g.get j e h
theorem AbsG.wipe {H : Hp} {σ : St} {Γ : G} (g : AbsG H σ Γ) : ∀ vs : List Nat, AbsG H (wipe σ vs) (wipeG Γ vs)
  | [] => g
  | v :: vs => (AbsG.wipe g vs).unset v
theorem wipe_set {σ : St} {n : Nat} {x : Option V} : ∀ {vs : List Nat}, n ∈ vs → wipe (σ.set n x) vs = wipe σ vs
  | v :: vs, h => by
    show (wipe (σ.set n x) vs).set v none = (wipe σ vs).set v none
    by_cases hv : n ∈ vs
    · rw [wipe_set hv]
    · have e : v = n := by
        rcases List.mem_cons.mp h with e | e
        · exact e.symm
        · exact absurd e hv
      subst e
      rw [wipe_comm hv, List.set_set]
where
  wipe_comm {σ : St} {n : Nat} {x : Option V} : ∀ {vs : List Nat}, n ∉ vs → wipe (σ.set n x) vs = (wipe σ vs).set n x
    | [], _ => rfl
    | v :: vs, h => by
      show (wipe (σ.set n x) vs).set v none = ((wipe σ vs).set v none).set n x
      rw [wipe_comm (fun z => h (List.mem_cons_of_mem _ z)), List.set_comm]
      exact fun e => h (by rw [e]; exact List.mem_cons_self)
theorem wipe_get {σ : St} {i : Nat} : ∀ {vs : List Nat}, (wipe σ vs)[i]? = if i ∈ vs then (if i < σ.length then some none else none) else σ[i]?
  | [] => by simp [wipe]
  | v :: vs => by
    show ((wipe σ vs).set v none)[i]? = _
    by_cases h : v = i
    · subst h
      rw [if_pos List.mem_cons_self]
      by_cases hl : v < σ.length
      · rw [if_pos hl, List.getElem?_set_self (by rw [wipe_length]; exact hl)]
      · rw [if_neg hl]; exact List.getElem?_eq_none (by rw [List.length_set, wipe_length]; omega)
    · rw [List.getElem?_set_ne h, wipe_get]
      have e : (i ∈ v :: vs) = (i ∈ vs) := by simp [Ne.symm h]
      simp only [e]
theorem wipe_wipe {σ : St} {vs : List Nat} : wipe (wipe σ vs) vs = wipe σ vs := by
  apply List.ext_getElem?
  intro i
  rw [wipe_get, wipe_get, wipe_length]
  by_cases h : i ∈ vs
  · simp only [h, if_true]
  · simp only [h, if_false]
/-- a target whose stores the block's own slots take -/
def DGv (X : Cx) (tg : Expr) (vs : List Nat) (d : D) (Γ : G) (m : M) (Q : G → M → Prop) : Prop := ∀ σ H v, At X σ H Γ m → Fz H v d → WG X tg v σ H (fun σ' H' => wipe σ' vs = wipe σ vs ∧ PN X.K H Q σ' H')
theorem dgv_name (n : Nat) {x : Str} {vs : List Nat} {d : D} {Q : G → M → Prop} (nd : X.N.Nodup) (hN : X.N[n]? = some x) (hx : Loc X.env.scope x) (hf : X.fn x = true ∨ X.env.scope.names.lookup x = some .local) (hv : n ∈ vs) (q : Q (Γ.set n (some d)) m) : DGv X (.Name x pos) vs d Γ m Q := fun σ H v at_ f =>
  WG.of (pg_name nd hN hx hf) ⟨wipe_set hv, PN.mk (TK.refl _) (at_.g.set n f) at_.am q⟩
theorem dgv_pair (n k : Nat) {x y : Str} {p1 p2 : Pos} {kt : Nat} {vs : List Nat} {d d' : D} {Q : G → M → Prop} (hc : X.calm = true) (nd : X.N.Nodup) (hN : X.N[n]? = some x) (hx : Loc X.env.scope x) (hf : X.fn x = true ∨ X.env.scope.names.lookup x = some .local) (hv : n ∈ vs)
    (hN' : X.N[k]? = some y) (hx' : Loc X.env.scope y) (hf' : X.fn y = true ∨ X.env.scope.names.lookup y = some .local) (hv' : k ∈ vs) (q : Q ((Γ.set n (some d)).set k (some d')) m) : DGv X (.Tuple [.Name x p1, .Name y p2] kt pos) vs (.tup [d, d']) Γ m Q := fun σ H v at_ f => by
  cases f with
  | tup h1 g1 =>
    obtain ⟨v1, v2, rfl, f1, f2⟩ := fz2 g1
    refine WG.of (pg_tup hc (pgs_cons (pg_name nd hN hx hf) (pgs_cons (pg_name nd hN' hx' hf') pgs_nil))) ⟨_, _, rfl, SqT.of h1, rfl, _, _, rfl, _, _, rfl, rfl, ?_⟩
    exact ⟨by rw [wipe_set hv', wipe_set hv], PN.mk (TK.refl _) ((at_.g.set n f1).set k f2) at_.am q⟩
def DTs (X : Cx) (ifs : List Expr) (Γ : G) (m : M) (Q : Bool → M → Prop) : Prop := match ifs with
  | [] => Q true m
  | [c] => DT X c Γ m Q
  | _ => False
/-- the reading of the tests -/
def tTs (X : Cx) (scope : Scope) (ifs : List Expr) : TT := match ifs with
  | [] => tYes
  | [c] => fun σ H Q => InBlk X scope fun X' => WT X' c σ H Q
  | _ => fun _ _ _ => False
theorem pts_of (hl : ifs.length ≤ 1) (s : Shared) (H : Hp) (C : Addr) (cl : List (Str × Addr)) (fp : List Addr) : PTs (X.blk s H scope (compEnvC scope cl C X.env) fp) ifs (tTs X scope ifs) := by
  match ifs, hl with
  | [], _ => exact pts_nil
  | [c], _ => exact pts_one ⟨fun pins s' σ H' Q I h => h s H C cl fp pins s' I⟩
  | _ :: _ :: _, h => exact absurd h (by simp)
/-- what the comprehension's body is to do: R acc, the list so far -/
structure Lc (X : Cx) (scope : Scope) (tg elt : Expr) (ifs : List Expr) (vs : List Nat) (Γ : G) (ds : List D) (S : M → Prop) (m1 : M) (J : Nat → List D → Prop) : Prop where
  zero : J 0 []
  small : ∀ i acc, i < ds.length → J i acc → acc.length < sizeLine
  stands : ∀ p acc, m1 p = none → S (mup m1 p (.lst acc))
  turn : ∀ p i d acc, m1 p = none → ds[i]? = some d → J i acc → InBlk X scope fun X' => DGv X' tg vs d (wipeG Γ vs) (mup m1 p (.lst acc)) fun Γ2 m2 => InBlk X scope fun X' => DTs X' ifs Γ2 m2 fun b m3 =>
    (b = true → InBlk X scope fun X' => DE X' elt Γ2 m3 fun y m4 => Sub (mup m1 p (.lst acc)) m4 ∧ J (i + 1) (acc ++ [y])) ∧ (b = false → Sub (mup m1 p (.lst acc)) m3 ∧ J (i + 1) acc)

theorem lc_run {σ : St} {H1 : Hp} {J' : It} {ds : List D} {S : M → Prop} {m1 : M} {T : Hp → Prop} {J : Nat → List D → Prop} {Dd : Addr} {Qd : Hp → Prop} (hl : ifs.length ≤ 1)
    (at_ : At X σ H1 Γ m1) (wk : Wk X.K J' ds T) (s1 : S m1) (t1 : T H1) (sT : ∀ H2 m2, TK H1 H2 → AbsM X.K H2 m2 → S m2 → T H2) (tN : ∀ H2 p o, T H2 → H2 p = none → T (upd H2 p o))
    (L : Lc X scope tg elt ifs (own.map (·.2)) Γ ds S m1 J) (hD : H1 Dd = none)
    (fin : ∀ acc H', TK H1 H' → AbsM X.K H' (mup m1 Dd (.lst acc)) → J ds.length acc → Qd H') :
    ∃ W : Nat → Nat → Hp → Prop, (∃ k, W 0 k (upd H1 Dd (.lst []))) ∧ ∀ i k H, W i k H →
      (J'.stop i H ∧ Qd H) ∨ (J'.go i H ∧ ∃ Nx : Hp → Prop, (∀ H', Nx H' → ∃ k', k' < k ∧ W (i + 1) k' H') ∧ ∀ x H', J'.yld i H x H' →
        (fun v σ H Q => InBlk X scope fun X' => WG X' tg v σ H Q : TG) x (wipe σ (own.map (·.2))) H' fun σ2 H2 => wipe σ2 (own.map (·.2)) = wipe σ (own.map (·.2)) ∧ (tTs X scope ifs) σ2 H2 fun b H3 =>
          if b = true then (fun σ H Q => InBlk X scope fun X' => WE X' elt σ H Q : TE) σ2 H3 fun y H4 => ∃ acc, H4 Dd = some (.lst acc) ∧ acc.length < sizeLine ∧ Nx (upd H4 Dd (.lst (acc ++ [y]))) else Nx H3) := by
  have k0 : TK H1 (upd H1 Dd (.lst [])) := TK.new hD
  have am0 : AbsM X.K (upd H1 Dd (.lst [])) (mup m1 Dd (.lst [])) := AbsM.put (o := .lst []) at_.am k0 ⟨[], upd_same, .nil⟩
  refine ⟨fun i k H => k = ds.length - i ∧ i ≤ ds.length ∧ TK H1 H ∧ T H ∧ ∃ acc, AbsM X.K H (mup m1 Dd (.lst acc)) ∧ J i acc, ⟨_, rfl, Nat.zero_le _, k0, tN _ _ _ t1 hD, [], am0, L.zero⟩, ?_⟩
  rintro i k H ⟨rfl, hi, tk, tt, acc, am, j⟩
  by_cases hlt : i < ds.length
  · refine .inr ⟨wk.go i H tt hlt, fun H' => TK H1 H' ∧ T H' ∧ ∃ acc, AbsM X.K H' (mup m1 Dd (.lst acc)) ∧ J (i + 1) acc, fun H' ⟨a1, a2, a3⟩ => ⟨ds.length - (i + 1), by omega, rfl, hlt, a1, a2, a3⟩, fun x H' y => ?_⟩
    intro s0 Hs C cl fp
    refine WG.kf fun kf' => ?_
    obtain ⟨tk', am', d, hd, fd⟩ := wk.yld i H x H' _ tt am y hlt kf'
    obtain ⟨ys, hys, _⟩ : OA X.K H' Dd (.lst acc) := am' Dd _ mup_same
    have hm : m1 Dd = none := at_.am.free hD (kf' Dd _ hys)
    have k1 := tk.trans tk'
    have g' : AbsG H' (wipe σ (own.map (·.2))) (wipeG Γ (own.map (·.2))) := (at_.g.wipe _).mono k1
    refine (L.turn Dd i d acc hm hd j s0 Hs C cl fp _ _ x ⟨kf', g', am'⟩ fd).mono fun σ2 H2 kf2 q => ?_
    obtain ⟨ew, q⟩ := q
    obtain ⟨k2, Γ2, m2, g2, am2, q2⟩ := q kf2
    rw [wipe_wipe] at ew
    refine ⟨ew, ?_⟩
    have k12 := k1.trans k2
    -- behind the tests
    have rest : ∀ (b : Bool) (H3 : Hp) (m3 : M), Kf X.K H3 → TK H2 H3 → AbsM X.K H3 m3 →
        ((b = true → InBlk X scope fun X' => DE X' elt Γ2 m3 fun y m4 => Sub (mup m1 Dd (.lst acc)) m4 ∧ J (i + 1) (acc ++ [y])) ∧ (b = false → Sub (mup m1 Dd (.lst acc)) m3 ∧ J (i + 1) acc)) →
        if b = true then (fun σ H Q => InBlk X scope fun X' => WE X' elt σ H Q : TE) σ2 H3 (fun y H4 => ∃ acc, H4 Dd = some (.lst acc) ∧ acc.length < sizeLine ∧ (TK H1 (upd H4 Dd (.lst (acc ++ [y]))) ∧ T (upd H4 Dd (.lst (acc ++ [y]))) ∧ ∃ ac, AbsM X.K (upd H4 Dd (.lst (acc ++ [y]))) (mup m1 Dd (.lst ac)) ∧ J (i + 1) ac))
        else (TK H1 H3 ∧ T H3 ∧ ∃ acc, AbsM X.K H3 (mup m1 Dd (.lst acc)) ∧ J (i + 1) acc) := by
      intro b H3 m3 kf3 k3 am3 q3
      have k13 := k12.trans k3
      cases b with
      | true =>
        refine iteT ?_
        intro s1' Hs1 C1 cl1 fp1
        refine DE.thn (q3.1 rfl s1' Hs1 C1 cl1 fp1) ⟨kf3, g2.mono k3, am3⟩ fun v H4 y m4 at4 k4 f4 q4 => ?_
        obtain ⟨sb, j4⟩ := q4
        have am4 := at4.am.sub sb
        obtain ⟨xs, hxs, gx⟩ : OA X.K H4 Dd (.lst acc) := am4 Dd _ mup_same
        have k5 : TK H4 (upd H4 Dd (.lst (xs ++ [v]))) := TK.put hxs (fun _ z => nomatch z)
        have am5 : AbsM X.K (upd H4 Dd (.lst (xs ++ [v]))) (mup (mup m1 Dd (.lst acc)) Dd (.lst (acc ++ [y]))) := AbsM.put (o := .lst (acc ++ [y])) am4 k5 ⟨_, upd_same, (gx.mono k5).append (.cons (f4.mono k5) .nil)⟩
        rw [mup_mup] at am5
        have k15 := k13.trans (k4.trans k5)
        exact ⟨xs, hxs, by rw [gx.length]; exact L.small i acc hlt j, k15, sT _ _ k15 am5 (L.stands Dd _ hm), acc ++ [y], am5, j4⟩
      | false =>
        refine iteF ?_
        obtain ⟨sb, j3⟩ := q3.2 rfl
        have am4 := am3.sub sb
        exact ⟨k13, sT _ _ k13 am4 (L.stands Dd _ hm), acc, am4, j3⟩
    match ifs, hl with
    | [], _ => exact rest true H2 m2 kf2 (TK.refl _) am2 (q2 s0 Hs C cl fp)
    | [c], _ =>
      intro s1' Hs1 C1 cl1 fp1
      refine DT.thn (q2 s1' Hs1 C1 cl1 fp1) ⟨kf2, g2, am2⟩ fun b H3 m3 at3 k3 q3 => ?_
      exact rest b H3 m3 at3.kf k3 at3.am q3
    | _ :: _ :: _, h => exact absurd h (by simp)
  · have e : i = ds.length := by omega
    subst e
    exact .inl ⟨wk.stop _ H tt (Nat.le_refl _), fin acc H tk am j⟩

/-- [elt for tg in iter (if ..)], as a value -/
theorem de_lc {Q : D → M → Prop} (own : List (Str × Nat)) (hc : X.calm = true) (nd : X.N.Nodup) (hl : ifs.length ≤ 1) (ok : BlkOk X.N X.env.scope scope own)
    (h : DI X tg iter Γ m fun ds S m1 => ∃ J, Lc X scope tg elt ifs (own.map (·.2)) Γ ds S m1 J ∧ ∀ acc p, m1 p = none → J ds.length acc → Q (.ref p) (mup m1 p (.lst acc)))
    (hs : ∀ x, foldedSetIterable iter X.env x = pure x := by intro _; rfl) : DE X (.ListComp elt [⟨tg, iter, ifs, 0⟩] scope pos) Γ m Q := fun σ H at_ => by
  obtain ⟨wi, hi, hw⟩ := h σ H at_
  refine WE.of (pe_lc (own := own) hc nd hi ok (g := fun v σ H Q => InBlk X scope fun X' => WG X' tg v σ H Q) (tt := tTs X scope ifs) (te := fun σ H Q => InBlk X scope fun X' => WE X' elt σ H Q)
    (fun s H C cl fp => ⟨fun pins s' σ H' v u Q I r q => q s H C cl fp pins s' u I r⟩) (fun s H C cl fp => pts_of hl s H C cl fp) (fun s H C cl fp => ⟨fun pins s' σ H' Q I q => q s H C cl fp pins s' I⟩) hs) ?_
  refine hw _ fun J H1 ds S m1 T kf1 k1 am1 wk s1 t1 sT tN ⟨JJ, L, hq⟩ Dd hD => ?_
  refine lc_run hl ⟨kf1, at_.g.mono k1, am1⟩ wk s1 t1 sT tN L hD fun acc H' tk am j kf => ?_
  obtain ⟨xs, hxs, _⟩ : OA X.K H' Dd (.lst acc) := am Dd _ mup_same
  exact ⟨k1.trans tk, _, _, .ref Dd, am, hq acc Dd (am1.free hD (kf Dd _ hxs)) j⟩
/-- y = [elt for tg in iter (if ..)] on one line -/
theorem ds_lc {E : DEnds} (n : Nat) {y : Str} {py spos : Pos} (own : List (Str × Nat)) (hc : X.calm = true) (nd : X.N.Nodup) (hl : ifs.length ≤ 1) (ok : BlkOk X.N X.env.scope scope own) (hN : X.N[n]? = some y) (hy : X.env.scope.names.lookup y = some .local)
    (hsw : swapsWith (.ListComp elt [⟨tg, iter, ifs, 0⟩] scope pos) (some (.Name y py)) spos.line X.env = pure true)
    (h : DI X tg iter Γ m fun ds S m1 => ∃ J, Lc X scope tg elt ifs (own.map (·.2)) Γ ds S m1 J ∧ ∀ acc p, m1 p = none → J ds.length acc → E.nx (Γ.set n (some (.ref p))) (mup m1 p (.lst acc)))
    (hs : ∀ x, foldedSetIterable iter X.env x = pure x := by intro _; rfl) : DS X (.Assign [.Name y py] (.ListComp elt [⟨tg, iter, ifs, 0⟩] scope pos) spos) Γ m E := fun σ H at_ => by
  obtain ⟨wi, hi, hw⟩ := h σ H at_
  refine WS.of (ps_setLc (i := n) (own := own) hc nd hN hy hsw hi ok (g := fun v σ H Q => InBlk X scope fun X' => WG X' tg v σ H Q) (tt := tTs X scope ifs) (te := fun σ H Q => InBlk X scope fun X' => WE X' elt σ H Q)
    (fun s H C cl fp => ⟨fun pins s' σ H' v u Q I r q => q s H C cl fp pins s' u I r⟩) (fun s H C cl fp => pts_of hl s H C cl fp) (fun s H C cl fp => ⟨fun pins s' σ H' Q I q => q s H C cl fp pins s' I⟩) hs) ?_
  refine hw _ fun J H1 ds S m1 T kf1 k1 am1 wk s1 t1 sT tN ⟨JJ, L, hq⟩ Dd hD => ?_
  refine lc_run hl ⟨kf1, at_.g.mono k1, am1⟩ wk s1 t1 sT tN L hD fun acc H' tk am j kf => ?_
  obtain ⟨xs, hxs, _⟩ : OA X.K H' Dd (.lst acc) := am Dd _ mup_same
  exact ⟨k1.trans tk, _, _, ((at_.g.mono (k1.trans tk)).set n (.ref Dd)), am, hq acc Dd (am1.free hD (kf Dd _ hxs)) j⟩
/-- one item, one element: a map -/
theorem Lc.map {vs : List Nat} {ds : List D} {S : M → Prop} {m1 : M} (f : Nat → D → D) (hz : ds.length ≤ sizeLine) (stands : ∀ p acc, m1 p = none → S (mup m1 p (.lst acc)))
    (turn : ∀ p i d acc, m1 p = none → ds[i]? = some d → InBlk X scope fun X' => DGv X' tg vs d (wipeG Γ vs) (mup m1 p (.lst acc)) fun Γ2 m2 => InBlk X scope fun X' => DE X' elt Γ2 m2 fun y m4 => Sub (mup m1 p (.lst acc)) m4 ∧ y = f i d) :
    Lc X scope tg elt [] vs Γ ds S m1 (fun i acc => acc = (ds.take i).mapIdx f) where
  zero := by simp
  small := fun i acc hi e => by subst e; simp; omega
  stands := stands
  turn := fun p i d acc hp hd e => by
    intro s H C cl fp σ H' v at_ fz
    refine (turn p i d acc hp hd s H C cl fp σ H' v at_ fz).mono fun σ2 H2 kf2 q => ⟨q.1, fun kf => ?_⟩
    obtain ⟨k, Γ2, m2, g, am, q⟩ := q.2 kf
    refine ⟨k, Γ2, m2, g, am, fun s1 H1 C1 cl1 fp1 => ⟨fun _ s2 H2 C2 cl2 fp2 => ?_, fun z => nomatch z⟩⟩
    refine (q s2 H2 C2 cl2 fp2).imp fun y m4 ⟨sb, e2⟩ => ⟨sb, ?_⟩
    have hi : i < ds.length := (List.getElem?_eq_some_iff.mp hd).1
    subst e e2
    rw [List.take_succ, hd, Option.toList_some, List.mapIdx_append]
    congr 1
    simp [List.length_take, Nat.min_eq_left (Nat.le_of_lt hi)]
end
end DL

set_option maxHeartbeats 2000000
/-! DV: defs, methods, instances at the data level. -/
namespace DL
open PySem L2
open PyProof.Rows (envOfC)

/-- a promise: the arguments, the store, what is wanted of the value and the store behind -/
abbrev DSp := List D → M → (D → M → Prop) → Prop
/-- what is wanted behind a call, in the layer's words -/
def VR (K : PySem.W.Frag) (H : Hp) (Q : D → M → Prop) : VK := fun v H' => TK H H' ∧ ∃ d m', Fz H' v d ∧ AbsM K H' m' ∧ Q d m'
/-- the def at f keeps the promise sp; no repr is under way -/
structure FD (P : Program) (w : World) (K : PySem.W.Frag) (mg : Str → Option Value) (base : Heap) (k : Nat) (f : Addr) (fd : FuncData) (ps : List Str) (sp : DSp) : Prop where
  len : ∀ ds m Q, sp ds m Q → ds.length = ps.length
  run : ∀ (A : Around) (outer : List Env) (s : Shared) (H : Hp) (args : Args) (us : List Value) (vs : List V) (ds : List D) (m : M) (Q : D → M → Prop), Room k A → A.guards = some [] → Env0 P w K mg base A outer s H →
    BindsTo s fd args (ps.zip us) → Vals vs us → FzAll H vs ds → AbsM K H m → sp ds m Q → codeAny (model P w) A (.call (.ref f) args) (CR CX0 outer P w H s (VR K H Q) E0) s

/-- where the body of a def stands -/
abbrev bx (P : Program) (w : World) (K : PySem.W.Frag) (mg : Str → Option Value) (base : Heap) (N : List Str) (qual : Str) (scope : Scope) (f : Addr) (cd : Value) (A : Around) (outer : List Env) (s : Shared) (H : Hp) : Cx :=
  (cxOf CX0 P w K mg base N qual scope f cd A outer s H E0).nox
def startD (N : List Str) (ds : List D) : G := ds.map some ++ List.replicate (N.length - ds.length) none
theorem start_abs {H : Hp} {N : List Str} {vs : List V} {ds : List D} (f : FzAll H vs ds) : AbsG H (L2.start N vs) (startD N ds) := by
  have hl := f.length
  refine ⟨by simp [L2.start, startD, hl], fun i d e => ?_⟩
  unfold startD at e
  by_cases hi : i < ds.length
  · rw [List.getElem?_append_left (by simpa using hi), List.getElem?_map] at e
    cases q : ds[i]? with
    | none => rw [q] at e; cases e
    | some x =>
      rw [q] at e
      cases e
      obtain ⟨v, hv, fv⟩ := f.get q
      refine ⟨v, ?_, fv⟩
      unfold L2.start
      rw [List.getElem?_append_left (by simpa [hl] using hi), List.getElem?_map, hv]
      rfl
  · rw [List.getElem?_append_right (by simpa using hi), List.getElem?_replicate] at e
    split at e <;> cases e

section
variable {P : Program} {w : World} {K : PySem.W.Frag} {mg : Str → Option Value} {base : Heap}
/-- a def by its body -/
theorem fd_of {x qual : Str} {st : Stmt} {f : Addr} {fd : FuncData} {N ps : List Str} {k : Nat} {sp : DSp} (F : Fun K x qual st f fd) (S : FnScope N ps (defScope st)) (len : ∀ ds m Q, sp ds m Q → ds.length = ps.length)
    (hbody : ∀ (cdv : Value) (A : Around) (outer : List Env) (s : Shared) (H : Hp) (ds : List D) (m : M) (Q : D → M → Prop), Room k (A.deeper (envOfC qual (defScope st) s.heap.objs.size f cdv)) → A.guards = some [] → sp ds m Q →
      DB (bx P w K mg base N qual (defScope st) f cdv A outer s H) (defBody st) (startD N ds) m { nx := fun _ m' => ∃ m1, Sub m1 m' ∧ Q .non m1, rt := fun d m' => ∃ m1, Sub m1 m' ∧ Q d m1 }) : FD P w K mg base (k + 1) f fd ps sp := by
  obtain ⟨oc, od, kV, doc, pm, an, cdv, ct, osl, rfl, lk, hcd⟩ := F.ex
  refine ⟨len, fun A outer s H args us vs ds m Q hr hgd e0 hb r fz am hsp => ?_⟩
  have hl : vs.length = ps.length := fz.length.trans (len _ _ _ hsp)
  have KX : K.In s.heap := e0.mod.kin.keeps fun b o e => (e0.bs b o e).1
  have lim : s.heap.NoLimit := e0.mod.nolimit.keeps fun b o e => (e0.bs b o e).1
  have params : ∀ y ∈ ps.zip us, (defScope st).names.lookup y.1 = some .local ∨ ((defScope st).names.lookup y.1 = some .cell ∧ ((cellsFrom (s.heap.objs.size + 1) (defScope st).names []).lookup y.1).isSome = true) := by
    rintro ⟨n, v⟩ hy
    rcases S.par n (List.of_mem_zip hy).1 with q | q
    · exact .inl q
    · exact .inr ⟨q, PySem.W.cellsFrom_some _ _ _ (.inl q)⟩
  refine codeAny_call_function hr.depth (KX _ _ lk) rfl S.co S.gen rfl (PySem.W.codeRec_of KX hcd) (hb _ _ _ _ ?_)
  refine wpAny_newFunctionEnv_cells S.kind params fun env he s1 x => ?_
  subst he
  refine ⟨lim.keeps x.toInCall.keep, codeAny_func ?_⟩
  have I0 : Inv (cxOf CX0 P w K mg base N qual (defScope st) f cdv A outer s H E0) [] (L2.start N vs) H s1 := inv_start S hr.hd e0 hl r x
  have I : Inv (bx P w K mg base N qual (defScope st) f cdv A outer s H) [] (L2.start N vs) H s1 := I0.wish _
  have at0 : At (bx P w K mg base N qual (defScope st) f cdv A outer s H) (L2.start N vs) H (startD N ds) m := ⟨inv_kf I, start_abs fz, am⟩
  have hrun := hbody cdv A outer s H ds m Q (hr.deeper _) hgd hsp (L2.start N vs) H at0 [] s1 I
  refine wpAny_mono hrun (fun fl s' hs => ?_) fun e s' hs => False.elim hs
  have fin : ∀ {σ' : St} {H' : Hp} {v : V} {u : Value} {d : D} {m' : M}, Inv (bx P w K mg base N qual (defScope st) f cdv A outer s H) [] σ' H' s' → RelV v u → Fz H' v d → AbsM K H' m' → Q d m' → CE outer P w H s (VR K H Q) u s' :=
    fun {σ' H' v u d m'} J rv f a q => ⟨v, H', J.os, J.bare, J.base, J.hok, rv, J.base.tups, d, m', f, a, q⟩
  cases fl with
  | ret u =>
    obtain ⟨v, σ', H', J, rv, q⟩ := hs
    obtain ⟨_, d, m', f, a, m1, sb, q⟩ := q (inv_kf J)
    exact fin J rv f (a.sub sb) q
  | next =>
    obtain ⟨σ', H', J, q⟩ := hs
    obtain ⟨_, Γ', m', g, a, m1, sb, q⟩ := q (inv_kf J)
    exact fin (v := V.non) (u := Value.none) J rfl .non (a.sub sb) q
  | brk =>
    obtain ⟨σ', H', J, q⟩ := hs
    obtain ⟨_, _, _, _, _, q⟩ := q (inv_kf J)
    exact False.elim q
  | cont =>
    obtain ⟨σ', H', J, q⟩ := hs
    obtain ⟨_, _, _, _, _, q⟩ := q (inv_kf J)
    exact False.elim q

/-- a def that stands at a name of the module -/
structure DefAt (K : PySem.W.Frag) (mg : Str → Option Value) (x : Str) (st : Stmt) (ps : List Str) (f : Addr) (fd : FuncData) : Prop where
  fn : Fun K x x st f fd
  mg : mg x = some (.ref f)
  bi : Binds K fd ps []
/-- a def that may be called by its name -/
structure Cd (P : Program) (w : World) (K : PySem.W.Frag) (mg : Str → Option Value) (base : Heap) (k : Nat) (x : Str) (sp : DSp) : Prop where
  ex : ∃ f fd ps, FD P w K mg base k f fd ps sp ∧ mg x = some (.ref f) ∧ PySem.W.keepIn K (.ref f) = true ∧ Binds K fd ps []
theorem DefAt.cd {x : Str} {st : Stmt} {ps : List Str} {k : Nat} {sp : DSp} {f : Addr} {fd : FuncData} (d : DefAt K mg x st ps f fd) (F : FD P w K mg base k f fd ps sp) : Cd P w K mg base k x sp :=
  ⟨f, fd, ps, F, d.mg, d.fn.kp, d.bi⟩
theorem FD.mono {j k : Nat} {f : Addr} {fd : FuncData} {ps : List Str} {sp : DSp} (F : FD P w K mg base j f fd ps sp) (h : j ≤ k) : FD P w K mg base k f fd ps sp :=
  ⟨F.len, fun A outer s H args us vs ds m Q hr => F.run A outer s H args us vs ds m Q (hr.mono h)⟩
end

section
variable {X : Cx} {e o : Expr} {es : List Expr} {Γ : G} {m : M} {pos p apos : Pos} {Q : D → M → Prop} {k : Nat} {f : Addr} {fd : FuncData} {ps : List Str} {sp : DSp}
/-- the callee runs -/
theorem run_fd {pins : List (Addr × Obj)} {σ : St} {H H0 : Hp} {s : Shared} {us : List Value} {vs : List V} {ds : List D} (F : FD X.prog X.w X.K X.mg X.base k f fd ps sp) (hr : Room k X.A) (hgd : X.A.guards = some []) (hb : Binds X.K fd ps [])
    (I : Inv X pins σ H s) (r : Vals vs us) (fz : FzAll H vs ds) (am : AbsM X.K H m) (tk : TK H0 H) (h : sp ds m Q) : wpAny (model X.prog X.w) X.A (call (.ref f) us) (EP X pins σ (PV X.K H0 Q)) X.xe s := by
  have hl : (us ++ []).length = ps.length := by rw [List.append_nil, ← r.length, fz.length]; exact F.len _ _ _ h
  have hbb := hb s us I.kIn hl
  rw [List.append_nil] at hbb
  refine wpAny_call (codeAny_mono (F.run X.A X.stack s H ⟨us, []⟩ us vs ds m Q hr hgd I.env0 hbb r fz am h) fun r s' hq => ?_)
  cases r with
  | error e => exact False.elim hq
  | ok fl =>
    cases fl with
    | ret u =>
      obtain ⟨v, H', I', rv, k1, d, m', f', a, q⟩ := I.after hq
      exact ⟨v, H', I', rv, PV.mk (tk.trans k1) f' a q⟩
    | next => exact False.elim hq
    | brk => exact False.elim hq
    | cont => exact False.elim hq
/-- f(e, ..) -/
theorem de_call {x : Str} (C : Cd X.prog X.w X.K X.mg X.base k x sp) (hr : Room k X.A) (hgd : X.A.guards = some []) (hg : Gl X x) (hdb : (x == ("__debug__" : Str)) = false) (h : DA X (e :: es) Γ m fun ds m1 => sp ds m1 Q)
    (he : starEach (e :: es) X.env = (false, eval e X.env) :: starEach es X.env := by rfl) (hpl : (backTo pos (starEach es X.env)).any (·.1) = false := by rfl) : DE X (.Call (.Name x p) (e :: es) [] pos) Γ m Q := fun σ H at_ => by
  obtain ⟨f, fd, ps, F, hm, hk, hb⟩ := C.ex
  intro pins s I
  refine wpAny_Call_Name_kw (ld_glob I hg hm ?_ hdb)
  refine PySem.W.callWith_K (h₀ := X.base) I.ok.mod.kin hk (thn (h σ H at_ pos pins s I) fun us s1 ⟨vs, H1, I1, r, q⟩ => ⟨I1.kIn, ?_⟩) he hpl
  obtain ⟨tk, ds, m1, fz, am, q⟩ := q (inv_kf I1)
  exact run_fd F hr hgd hb I1 r fz am tk q

/-- a method of the class at C -/
structure Md (P : Program) (w : World) (K : PySem.W.Frag) (mg : Str → Option Value) (base : Heap) (k : Nat) (C : Addr) (x : Str) (sp : DSp) : Prop where
  ex : ∃ f fd ps, FD P w K mg base k f fd ps sp ∧ Meth K C x f ∧ Binds K fd ps []
/-- o.m(e, ..) -/
theorem de_meth {pl : Sem Bool} {x : Str} {C : Addr} (cl : Cls X.K C) (Mt : Md X.prog X.w X.K X.mg X.base k C x sp) (hr : Room k X.A) (hgd : X.A.guards = some [])
    (ht : eval (.Call (.Attribute o x apos) (e :: es) [] pos) X.env = (do
      let ov ← eval o X.env
      standAt apos.atName
      let (f, first) ← holding [ov] (getMethod ov x pl)
      callWith pos f first (backTo pos (starEach (e :: es) X.env)) (backToKw pos (keywordEach [] X.env))))
    (h : DE X o Γ m fun d m1 => ∃ q fs, d = .ref q ∧ m1 q = some (.ins C fs) ∧ fs.lookup x = none ∧ DA X (e :: es) Γ m1 fun ds m2 => sp (d :: ds) m2 Q)
    (hst : starEach (e :: es) X.env = (false, eval e X.env) :: starEach es X.env := by rfl) (hpl : (backTo pos (starEach es X.env)).any (·.1) = false := by rfl) : DE X (.Call (.Attribute o x apos) (e :: es) [] pos) Γ m Q := fun σ H at_ => by
  obtain ⟨f, fd, ps, F, hm, hb⟩ := Mt.ex
  intro pins s I
  refine PySem.W.methodCall_KW (pl := pl) (thn (h σ H at_ pins s I) fun u s1 ⟨v, H1, I1, rv, q⟩ => ?_) ht
  obtain ⟨k1, d, m1, fz, am, qq⟩ := q (inv_kf I1)
  clear q
  obtain ⟨q, fs, rfl, hq, lk, h1⟩ := qq
  cases fz
  obtain rfl : u = Value.ref q := rv
  obtain ⟨dx, gs, hx, g⟩ := am _ _ hq
  have lk' : gs.lookup x = none := by
    rcases look_rel (f := x) g with ⟨e1, _⟩ | ⟨_, _, _, e2, _⟩
    · exact e1
    · rw [lk] at e2; cases e2
  refine getmeth_ok I1 hx cl hm lk' ?_
  refine PySem.W.callWith_K (first := [.ref q]) (h₀ := X.base) I.ok.mod.kin hm.kp (thn (h1 σ H1 ⟨inv_kf I1, at_.g.mono k1, am⟩ pos pins s1 I1) fun us s2 ⟨vs, H2, I2, r, q2⟩ => ⟨I2.kIn, ?_⟩) hst hpl
  obtain ⟨k2, ds, m2, fzs, am2, q2⟩ := q2 (inv_kf I2)
  exact run_fd (us := .ref q :: us) (vs := .ref q :: vs) F hr hgd hb I2 (.cons rfl r) (.cons (.ref q) fzs) am2 (k1.trans k2) q2
/-- o.m() -/
theorem de_meth0 {pl : Sem Bool} {x : Str} {C : Addr} (cl : Cls X.K C) (Mt : Md X.prog X.w X.K X.mg X.base k C x sp) (hr : Room k X.A) (hgd : X.A.guards = some [])
    (ht : eval (.Call (.Attribute o x apos) [] [] pos) X.env = (do
      let ov ← eval o X.env
      standAt apos.atName
      let (f, first) ← holding [ov] (getMethod ov x pl)
      callWith pos f first (backTo pos (starEach [] X.env)) (backToKw pos (keywordEach [] X.env))))
    (h : DE X o Γ m fun d m1 => ∃ q fs, d = .ref q ∧ m1 q = some (.ins C fs) ∧ fs.lookup x = none ∧ sp [d] m1 Q) : DE X (.Call (.Attribute o x apos) [] [] pos) Γ m Q := fun σ H at_ => by
  obtain ⟨f, fd, ps, F, hm, hb⟩ := Mt.ex
  intro pins s I
  refine PySem.W.methodCall_KW (pl := pl) (thn (h σ H at_ pins s I) fun u s1 ⟨v, H1, I1, rv, q⟩ => ?_) ht
  obtain ⟨k1, d, m1, fz, am, qq⟩ := q (inv_kf I1)
  clear q
  obtain ⟨q, fs, rfl, hq, lk, h1⟩ := qq
  cases fz
  obtain rfl : u = Value.ref q := rv
  obtain ⟨dx, gs, hx, g⟩ := am _ _ hq
  have lk' : gs.lookup x = none := by
    rcases look_rel (f := x) g with ⟨e1, _⟩ | ⟨_, _, _, e2, _⟩
    · exact e1
    · rw [lk] at e2; cases e2
  refine getmeth_ok I1 hx cl hm lk' ?_
  exact PySem.W.callWith_K0 (first := [.ref q]) I1.kIn hm.kp (run_fd (us := [.ref q]) (vs := [.ref q]) F hr hgd hb I1 (.cons rfl .nil) (.cons (.ref q) .nil) am k1 h1)
/-- C(e, ..): a new instance, then __init__ -/
theorem de_make {x : Str} {C : Addr} (Mk : Mk X.K C f) (F : FD X.prog X.w X.K X.mg X.base k f fd ps sp) (hb : Binds X.K fd ps []) (hr : Room (k + 1) X.A) (hgd : X.A.guards = some []) (hg : Gl X x) (hm : X.mg x = some (.ref C)) (hdb : (x == ("__debug__" : Str)) = false)
    (h : DA X (e :: es) Γ m fun ds m1 => ∀ q, m1 q = none → sp (.ref q :: ds) (mup m1 q (.ins C [])) (fun d m2 => d = .non ∧ Q (.ref q) m2))
    (he : starEach (e :: es) X.env = (false, eval e X.env) :: starEach es X.env := by rfl) (hpl : (backTo pos (starEach es X.env)).any (·.1) = false := by rfl) : DE X (.Call (.Name x p) (e :: es) [] pos) Γ m Q := fun σ H at_ => by
  intro pins s I
  refine wpAny_Call_Name_kw (ld_glob I hg hm ?_ hdb)
  refine PySem.W.callWith_K (h₀ := X.base) I.ok.mod.kin Mk.kp (thn (h σ H at_ pos pins s I) fun us s1 ⟨vs, H1, I1, r, q⟩ => ⟨I1.kIn, ?_⟩) he hpl
  obtain ⟨k1, ds, m1, fz, am, q⟩ := q (inv_kf I1)
  show wpAny _ _ (call (.ref C) us) _ _ _
  have I2 := Inv.made (C := C) I1
  have n1 : H1 s1.heap.objs.size = none := I1.hok.fresh (Nat.le_refl _)
  have n2 : H1 (s1.heap.objs.size + 1) = none := I1.hok.fresh (Nat.le_succ _)
  have ne : s1.heap.objs.size + 1 ≠ s1.heap.objs.size := Nat.succ_ne_self _
  have kf2 := inv_kf I2
  generalize hx : s1.heap.objs.size + 1 = q0 at *
  generalize hdx : s1.heap.objs.size = dx at *
  have ka : TK H1 (upd H1 dx (.own q0)) := TK.new n1
  have kb : TK (upd H1 dx (.own q0)) (upd (upd H1 dx (.own q0)) q0 (.ins C dx [])) := TK.new (by rw [upd_ne ne]; exact n2)
  have d1 : m1 dx = none := am.free n1 (kf2 dx (.own q0) (by rw [upd_ne (Ne.symm ne), upd_same]))
  have d2 : m1 q0 = none := am.free n2 (kf2 q0 _ upd_same)
  have am2 : AbsM X.K (upd (upd H1 dx (.own q0)) q0 (.ins C dx [])) (mup m1 q0 (.ins C [])) := AbsM.put (o := .ins C []) (am.new d1 ka) kb ⟨dx, [], upd_same, .nil⟩
  have hq := q q0 d2
  have fz2 : FzAll (upd (upd H1 dx (.own q0)) q0 (.ins C dx [])) (V.ref q0 :: vs) (.ref q0 :: ds) := .cons (.ref q0) (fz.mono (ka.trans kb))
  have hl : (Value.ref q0 :: us ++ []).length = ps.length := by
    rw [List.append_nil, List.length_cons, ← r.length, fz.length]
    exact F.len _ _ _ hq
  have hbb := hb _ (Value.ref q0 :: us) I2.kIn hl
  rw [List.append_nil] at hbb
  refine wpAny_call (make_map (f := f) I1.kIn Mk.makes Mk.init (beq_iff_eq.mp Mk.fn) ?_)
  rw [hdx, hx]
  have hgd' : (X.A.under (.builtin "type.__call__" ⟨.ref C :: us, []⟩)).guards = some [] := hgd
  refine codeAny_mono (F.run _ X.stack _ _ ⟨Value.ref q0 :: us, []⟩ (Value.ref q0 :: us) (V.ref q0 :: vs) (.ref q0 :: ds) _ _ (hr.make C us []) hgd' (I2.env0.make C us []) hbb (.cons rfl r) fz2 am2 hq) fun r s' hq' => ?_
  cases r with
  | error e => exact False.elim hq'
  | ok fl =>
    cases fl with
    | ret u =>
      obtain ⟨v, H', I3, rv, k3, d, m', f3, a3, ed, q3⟩ := I2.after hq'
      subst ed
      cases f3
      refine ⟨rv, ⟨V.ref q0, H', I3, rfl, ?_⟩⟩
      exact PV.mk (k1.trans (ka.trans (kb.trans k3))) (.ref q0) a3 q3
    | next => exact False.elim hq'
    | brk => exact False.elim hq'
    | cont => exact False.elim hq'
end
end DL

set_option maxHeartbeats 2000000
namespace PySem.SeqAt
open AutoSeq1 (wpAny_loadPart')
open MeetsSeq
theorem tuple_eq_declines_dictX (l b : Addr) (items : Array Value) (es : Array DictEntry) (n n2 : Nat) (dd dd2 : Option Addr) (sl sl2 : Array (Option Value)) :
    Meets (Builtin.«tuple.__eq__» ⟨[.ref l, .ref b], []⟩) (fun _ R s => s.heap.get? l = some { cls := .type "tuple", dict := dd, data := .seq items n, slots := sl } ∧ s.heap.get? b = some { cls := .type "dict", dict := dd2, data := .dict es n2, slots := sl2 } ∧ R (.ok (.ret .notImplemented)) s) :=
  .of_wp fun prog w A R s h => by obtain ⟨hp, g, d, tk, os⟩ := s; obtain ⟨hl, hb, h⟩ := h; have f1 := F.sub_dict_tuple; wp_walk using wpAny_loadPart' hl, wpAny_loadPart' hb; exact ⟨_, rfl, h⟩
theorem dict_eq_declines_tupleX (l b : Addr) (items : Array Value) (es : Array DictEntry) (n n2 : Nat) (dd dd2 : Option Addr) (sl sl2 : Array (Option Value)) (hs : (b == sysModules) = false) :
    Meets (Builtin.«dict.__eq__» ⟨[.ref b, .ref l], []⟩) (fun _ R s => s.heap.get? l = some { cls := .type "tuple", dict := dd, data := .seq items n, slots := sl } ∧ s.heap.get? b = some { cls := .type "dict", dict := dd2, data := .dict es n2, slots := sl2 } ∧ R (.ok (.ret .notImplemented)) s) :=
  .of_wp fun prog w A R s h => by obtain ⟨hp, g, d, tk, os⟩ := s; obtain ⟨hl, hb, h⟩ := h; have f1 := F.sub_tuple_dict; wp_walk using wpAny_loadPart' hl, wpAny_loadPart' hb; exact ⟨_, rfl, h⟩
theorem str_eq_declines_dictX (x : Str) (u : Tok) (b : Addr) (es : Array DictEntry) (n2 : Nat) (dd2 : Option Addr) (sl2 : Array (Option Value)) :
    Meets (Builtin.«str.__eq__» ⟨[.str x u, .ref b], []⟩) (fun _ R s => s.heap.get? b = some { cls := .type "dict", dict := dd2, data := .dict es n2, slots := sl2 } ∧ R (.ok (.ret .notImplemented)) s) :=
  .of_wp fun prog w A R s h => by obtain ⟨hp, g, d, tk, os⟩ := s; obtain ⟨hl, h⟩ := h; wp_walk using wpAny_loadPart' hl, wpAny_load hl; exact ⟨_, rfl, h⟩
theorem dict_eq_declines_strX (x : Str) (u : Tok) (b : Addr) (es : Array DictEntry) (n2 : Nat) (dd2 : Option Addr) (sl2 : Array (Option Value)) :
    Meets (Builtin.«dict.__eq__» ⟨[.ref b, .str x u], []⟩) (fun _ R s => s.heap.get? b = some { cls := .type "dict", dict := dd2, data := .dict es n2, slots := sl2 } ∧ R (.ok (.ret .notImplemented)) s) :=
  .of_wp fun prog w A R s h => by obtain ⟨hp, g, d, tk, os⟩ := s; obtain ⟨hl, h⟩ := h; have f1 := F.sub_str_dict; wp_walk using wpAny_loadPart' hl, wpAny_load hl; exact ⟨_, rfl, h⟩
theorem int_eq_declines_dictX (x : Int) (u : Tok) (b : Addr) (es : Array DictEntry) (n2 : Nat) (dd2 : Option Addr) (sl2 : Array (Option Value)) :
    Meets (Builtin.«int.__eq__» ⟨[.int x u, .ref b], []⟩) (fun _ R s => s.heap.get? b = some { cls := .type "dict", dict := dd2, data := .dict es n2, slots := sl2 } ∧ R (.ok (.ret .notImplemented)) s) :=
  .of_wp fun prog w A R s h => by obtain ⟨hp, g, d, tk, os⟩ := s; obtain ⟨hl, h⟩ := h; wp_walk using wpAny_loadPart' hl, wpAny_load hl; exact ⟨_, rfl, h⟩
theorem dict_eq_declines_intX (x : Int) (u : Tok) (b : Addr) (es : Array DictEntry) (n2 : Nat) (dd2 : Option Addr) (sl2 : Array (Option Value)) :
    Meets (Builtin.«dict.__eq__» ⟨[.ref b, .int x u], []⟩) (fun _ R s => s.heap.get? b = some { cls := .type "dict", dict := dd2, data := .dict es n2, slots := sl2 } ∧ R (.ok (.ret .notImplemented)) s) :=
  .of_wp fun prog w A R s h => by obtain ⟨hp, g, d, tk, os⟩ := s; obtain ⟨hl, h⟩ := h; have f1 := F.sub_int_dict; wp_walk using wpAny_loadPart' hl, wpAny_load hl; exact ⟨_, rfl, h⟩
end PySem.SeqAt

set_option maxHeartbeats 2000000
/-! W2: == of data with a dict among them; == and != with the empty list. -/
namespace PySem.SeqAt
section
variable {A : Around} {s : Shared}
/-- a plain dict object -/
def IsDi (h : Heap) (b : Addr) : Prop := ∃ dd es n sl, h.get? b = some { cls := .type "dict", dict := dd, data := .dict es n, slots := sl } ∧ (b == sysModules) = false
theorem IsDi.ty {b : Addr} (h : IsDi s.heap b) : s.TypeIs (.ref b) "dict" := by
  obtain ⟨dd, es, n, sl, h, _⟩ := h
  exact ⟨_, h, rfl⟩
theorem RcAt.str_dict (x : Str) (u : Tok) {b : Addr} (hb : IsDi s.heap b) (hu : A.units < cLine) : RcAt A s (.str x u) (.ref b) false := fun prog w E Q h => by
  obtain ⟨dd, es, n, sl, ho, hsm⟩ := hb
  exact rc_eq_decline_or (k := false) (typeIs_str s x u) ⟨_, ho, rfl⟩ (by decide) F.sub_dict_str F.slot_str_eq F.slot_dict_eq_refl
    (fun _ hq => call_meets F.slot_str_eq (typeIs_str s x u) F.entry_str_eq (F.args_str_eq_2 _ _) (str_eq_declines_dictX x u b es n dd sl) ⟨ho, hq⟩)
    (fun _ hq => call_meets F.slot_dict_eq_refl ⟨_, ho, rfl⟩ F.entry_dict_eq (F.args_dict_eq_2 _ _) (dict_eq_declines_strX x u b es n dd sl) ⟨ho, hq⟩)
    (fun _ hq => wpAny_of_eq (rfl : isSame (.str x u) (.ref b) = pure false) hq) (.inr hu) h
theorem RcAt.int_dict (x : Int) (u : Tok) {b : Addr} (hb : IsDi s.heap b) (hu : A.units < cLine) : RcAt A s (.int x u) (.ref b) false := fun prog w E Q h => by
  obtain ⟨dd, es, n, sl, ho, hsm⟩ := hb
  exact rc_eq_decline_or (k := false) (typeIs_int s x u) ⟨_, ho, rfl⟩ (by decide) F.sub_dict_int F.slot_int_eq F.slot_dict_eq_refl
    (fun _ hq => call_meets F.slot_int_eq (typeIs_int s x u) F.entry_int_eq (F.args_int_eq_2 _ _) (int_eq_declines_dictX x u b es n dd sl) ⟨ho, hq⟩)
    (fun _ hq => call_meets F.slot_dict_eq_refl ⟨_, ho, rfl⟩ F.entry_dict_eq (F.args_dict_eq_2 _ _) (dict_eq_declines_intX x u b es n dd sl) ⟨ho, hq⟩)
    (fun _ hq => wpAny_of_eq (rfl : isSame (.int x u) (.ref b) = pure false) hq) (.inr hu) h
theorem RcAt.tuple_dict {l b : Addr} {items : Array Value} (hl : s.heap.IsTuple l items) (hb : IsDi s.heap b) (hu : A.units < cLine) : RcAt A s (.ref l) (.ref b) false := fun prog w E Q h => by
  obtain ⟨⟨cls, dd, data, sl⟩, ho, hc, n, hd⟩ := id hl
  obtain ⟨dd2, es, n2, sl2, ho2, hsm⟩ := hb
  simp only at hc hd
  subst hc hd
  have hne : l ≠ b := fun e => by
    subst e
    rw [ho] at ho2
    have := congrArg Obj.cls (Option.some.inj ho2)
    exact absurd this (by simp)
  exact rc_eq_decline_or (k := false) ⟨_, ho, rfl⟩ ⟨_, ho2, rfl⟩ (by decide) F.sub_dict_tuple F.slot_tuple_eq F.slot_dict_eq_refl
    (fun _ hq => call_meets F.slot_tuple_eq ⟨_, ho, rfl⟩ F.entry_tuple_eq (F.args_tuple_eq_2 _ _) (tuple_eq_declines_dictX l b items es n n2 dd dd2 sl sl2) ⟨ho, ho2, hq⟩)
    (fun _ hq => call_meets F.slot_dict_eq_refl ⟨_, ho2, rfl⟩ F.entry_dict_eq (F.args_dict_eq_2 _ _) (dict_eq_declines_tupleX l b items es n n2 dd dd2 sl sl2 hsm) ⟨ho, ho2, hq⟩)
    (fun _ hq => wpAny_isSame_ref_other' hne ho ho2 (by simp) hq) (.inr hu) h
theorem EqAt.str_dict (x : Str) (u : Tok) {b : Addr} (hb : IsDi s.heap b) (hu : A.units < cLine) : EqAt A s (.str x u) (.ref b) false := fun prog w E Q h => by
  unfold eqBool
  refine wpAny_holding ?_
  refine wpAny_ite_split (fun z => absurd (eq_of_beq z) nofun) (fun _ => ?_)
  exact wpAny_bind (RcAt.str_dict x u hb hu prog w E _ (wpAny_truthy_bool h))
theorem EqAt.int_dict (x : Int) (u : Tok) {b : Addr} (hb : IsDi s.heap b) (hu : A.units < cLine) : EqAt A s (.int x u) (.ref b) false := fun prog w E Q h => by
  unfold eqBool
  refine wpAny_holding ?_
  refine wpAny_ite_split (fun z => absurd (eq_of_beq z) nofun) (fun _ => ?_)
  exact wpAny_bind (RcAt.int_dict x u hb hu prog w E _ (wpAny_truthy_bool h))
theorem EqAt.tuple_dict {l b : Addr} {items : Array Value} (hl : s.heap.IsTuple l items) (hb : IsDi s.heap b) (hu : A.units < cLine) : EqAt A s (.ref l) (.ref b) false :=
  .of_refs (fun e => by
    subst e
    obtain ⟨o, ho, hc, _⟩ := hl
    obtain ⟨dd2, es, n2, sl2, ho2, _⟩ := hb
    rw [ho] at ho2
    have := congrArg Obj.cls (Option.some.inj ho2)
    rw [hc] at this
    exact absurd this (by simp)) (.tuple_dict hl hb hu)
end
end PySem.SeqAt

namespace DL
open PySem L2
/-- Python's == of data without addresses on the left; what stands at an address is a list or a dict -/
def nb (c : Bool) : Int := if c then 1 else 0
mutual
def deq : D → D → Bool
  | .non, .non => true
  | .bl a, .bl b => a == b
  | .bl a, .int b => nb a == b
  | .int a, .bl b => a == nb b
  | .int a, .int b => a == b
  | .str a, .str b => a == b
  | .tup a, .tup b => deqs a b
  | _, _ => false
def deqs : List D → List D → Bool
  | [], [] => true
  | a :: as, b :: bs => deq a b && deqs as bs
  | _, _ => false
end
mutual
/-- only tuples, texts, ints, truths, None -/
def pure' : D → Bool
  | .ref _ => false
  | .tup l => pures l
  | _ => true
def pures : List D → Bool
  | [] => true
  | a :: as => pure' a && pures as
end
mutual
def dep : D → Nat
  | .tup l => deps l + 1
  | _ => 0
def deps : List D → Nat
  | [] => 0
  | a :: as => max (dep a) (deps as)
end
/-- what stands at an address within a thing: a list or a dict of texts -/
def RefOk (m : M) (q : Addr) : Prop := (∃ ds, IsL m q ds) ∨ ∃ kvs, m q = some (.dK kvs)
mutual
def refs : D → List Addr
  | .ref a => [a]
  | .tup l => refss l
  | _ => []
def refss : List D → List Addr
  | [] => []
  | a :: as => refs a ++ refss as
end
theorem deqs_len : ∀ {a b : List D}, a.length ≠ b.length → deqs a b = false
  | [], [], h => absurd rfl h
  | [], _ :: _, _ => by simp [deqs]
  | _ :: _, [], _ => by simp [deqs]
  | a :: as, b :: bs, h => by
    have := deqs_len (a := as) (b := bs) (fun e => h (by simp [e]))
    simp [deqs, this]
def deqAt (a b : List D) (j : Nat) : Bool := match a[j]?, b[j]? with
  | some x, some y => deq x y
  | _, _ => true
theorem deqs_all : ∀ {a b : List D}, a.length = b.length → deqs a b = (List.range (min a.length b.length)).all (deqAt a b)
  | [], [], _ => by simp [deqs]
  | [], _ :: _, h => by simp at h
  | _ :: _, [], h => by simp at h
  | a :: as, b :: bs, h => by
    have ih := deqs_all (a := as) (b := bs) (by simpa using h)
    simp only [deqs, ih, List.length_cons]
    rw [show min (as.length + 1) (bs.length + 1) = min as.length bs.length + 1 by omega, List.range_succ_eq_map, List.all_cons]
    rw [List.all_map]
    rfl
section
variable {X : Cx} {pins : List (Addr × Obj)} {σ : St} {H : Hp} {s : Shared} {m : M}
theorem di_of (I : Inv X pins σ H s) {q : Addr} {kvs : List (Key × D)} (am : AbsM X.K H m) (h : m q = some (.dK kvs)) : SeqAt.IsDi s.heap q := by
  obtain ⟨ks, hk, _⟩ := am _ _ h
  obtain ⟨_, hd, vs, _, o, es, ep, e, ex, dt, _⟩ := I.hok q _ hk
  obtain ⟨c, d, da, sl⟩ := o
  obtain rfl : c = .type "dict" := ex.1
  obtain rfl : da = .dict es ep := dt
  exact ⟨_, _, _, _, e, hd⟩
open SeqAt in
theorem eq_str_ref (I : Inv X pins σ H s) (am : AbsM X.K H m) {A : Around} {x : Str} {t : Tok} {q : Addr} (r : RefOk m q) (hu : A.units < cLine) : EqAt A s (.str x t) (.ref q) false := by
  rcases r with ⟨ds, hl⟩ | ⟨kvs, hk⟩
  · obtain ⟨xs, h1, _⟩ := hl.sq am
    obtain ⟨its, _, pl, _⟩ := I.list h1
    exact .str_list x t pl.isList hu
  · exact .str_dict x t (di_of I am hk) hu
open SeqAt in
theorem eq_int_ref (I : Inv X pins σ H s) (am : AbsM X.K H m) {A : Around} {x : Int} {t : Tok} {q : Addr} (r : RefOk m q) (hu : A.units < cLine) : EqAt A s (.int x t) (.ref q) false := by
  rcases r with ⟨ds, hl⟩ | ⟨kvs, hk⟩
  · obtain ⟨xs, h1, _⟩ := hl.sq am
    obtain ⟨its, _, pl, _⟩ := I.list h1
    exact .int_list x t pl.isList hu
  · exact .int_dict x t (di_of I am hk) hu
open SeqAt in
theorem rc_tup_ref (I : Inv X pins σ H s) (am : AbsM X.K H m) {A : Around} {l : Addr} {items : Array Value} {q : Addr} (hl : s.heap.IsTuple l items) (r : RefOk m q) (hu : A.units < cLine) : RcAt A s (.ref l) (.ref q) false := by
  rcases r with ⟨ds, h⟩ | ⟨kvs, hk⟩
  · obtain ⟨xs, h1, _⟩ := h.sq am
    obtain ⟨its, _, pl, _⟩ := I.list h1
    exact .tuple_list hl pl.isList hu
  · exact .tuple_dict hl (di_of I am hk) hu
open SeqAt in
theorem eq_tup_ref (I : Inv X pins σ H s) (am : AbsM X.K H m) {A : Around} {l : Addr} {items : Array Value} {q : Addr} (hl : s.heap.IsTuple l items) (r : RefOk m q) (hu : A.units < cLine) : EqAt A s (.ref l) (.ref q) false := by
  rcases r with ⟨ds, h⟩ | ⟨kvs, hk⟩
  · obtain ⟨xs, h1, _⟩ := h.sq am
    obtain ⟨its, _, pl, _⟩ := I.list h1
    exact .tuple_list hl pl.isList hu
  · exact .tuple_dict hl (di_of I am hk) hu
/-- no truth and no None on the left -/
def kin : D → Bool
  | .int _ => true
  | .str _ => true
  | .tup _ => true
  | _ => false
open SeqAt in
theorem eq_base (I : Inv X pins σ H s) (am : AbsM X.K H m) {A : Around} {v w : V} {u1 u2 : Value} {d e : D} (f1 : Fz H v d) (f2 : Fz H w e) (r1 : RelV v u1) (r2 : RelV w u2) (hk : kin d = true) (hr : ∀ q ∈ refs e, RefOk m q) (hu : A.units + 1 < cLine)
    (rec' : ∀ as bs, d = .tup as → e = .tup bs → RcAt A s u1 u2 (deqs as bs)) (nt : ∀ as bs, d = .tup as → e = .tup bs → EqAt A s u1 u2 (deqs as bs)) : EqAt A s u1 u2 (deq d e) ∧ (∀ as, d = .tup as → RcAt A s u1 u2 (deq d e)) := by
  have hu0 : A.units < cLine := by omega
  cases f1 with
  | non => cases hk
  | bl => cases hk
  | ref => cases hk
  | int i =>
    refine ⟨?_, fun as z => nomatch z⟩
    obtain ⟨t, rfl⟩ := r1
    cases f2 with
    | non => cases r2; exact .int_none i t
    | bl b => cases r2; exact .int_bool i t b
    | int j => obtain ⟨t', rfl⟩ := r2; exact .int_int i t j t'
    | str x => obtain ⟨t', rfl⟩ := r2; exact .int_str i t x t'
    | tup h1 g1 =>
      cases r2
      obtain ⟨its, _, p, _⟩ := I.tuple (SqT.of h1)
      exact .int_tuple i t p hu0
    | ref q => cases r2; exact eq_int_ref I am (hr q (by simp [refs])) hu0
  | str x =>
    refine ⟨?_, fun as z => nomatch z⟩
    obtain ⟨t, rfl⟩ := r1
    cases f2 with
    | non => cases r2; exact .str_none x t
    | bl b => cases r2; exact .str_bool x t b
    | int j => obtain ⟨t', rfl⟩ := r2; exact .str_int x t j t'
    | str y => obtain ⟨t', rfl⟩ := r2; exact .str_str x t y t'
    | tup h1 g1 =>
      cases r2
      obtain ⟨its, _, p, _⟩ := I.tuple (SqT.of h1)
      exact .str_tuple x t p hu0
    | ref q => cases r2; exact eq_str_ref I am (hr q (by simp [refs])) hu0
  | @tup a xs ds h1 g1 =>
    cases r1
    obtain ⟨its, _, p, _⟩ := I.tuple (SqT.of h1)
    cases f2 with
    | non => cases r2; exact ⟨.tuple_none p hu0, fun _ _ => .tuple_none p hu0⟩
    | bl b => cases r2; exact ⟨.tuple_bool b p hu0, fun _ _ => .tuple_bool b p hu0⟩
    | int j => obtain ⟨t', rfl⟩ := r2; exact ⟨.tuple_int j t' p hu0, fun _ _ => .tuple_int j t' p hu0⟩
    | str y => obtain ⟨t', rfl⟩ := r2; exact ⟨.tuple_str y t' p hu0, fun _ _ => .tuple_str y t' p hu0⟩
    | tup h2 g2 => exact ⟨nt _ _ rfl rfl, fun _ _ => rec' _ _ rfl rfl⟩
    | ref q => cases r2; exact ⟨eq_tup_ref I am p (hr q (by simp [refs])) hu0, fun _ _ => rc_tup_ref I am p (hr q (by simp [refs])) hu0⟩
end
end DL

set_option maxHeartbeats 2000000
/-! W3: == of data, the recursion; the operators. -/
namespace DL
open PySem L2
mutual
/-- ints, texts and tuples of such -/
def kinR : D → Bool
  | .int _ => true
  | .str _ => true
  | .tup l => kinRs l
  | _ => false
def kinRs : List D → Bool
  | [] => true
  | a :: as => kinR a && kinRs as
end
theorem kinR_kin {d : D} (h : kinR d = true) : kin d = true := by cases d <;> simp_all [kinR, kin]
theorem kinRs_get : ∀ {l : List D} {i : Nat} {d : D}, kinRs l = true → l[i]? = some d → kinR d = true
  | a :: as, 0, d, h, e => by simp at e; subst e; simp [kinRs] at h; exact h.1
  | a :: as, i + 1, d, h, e => by simp [kinRs] at h; exact kinRs_get (i := i) h.2 (by simpa using e)
theorem deps_get : ∀ {l : List D} {i : Nat} {d : D}, l[i]? = some d → dep d ≤ deps l
  | a :: as, 0, d, e => by simp at e; subst e; simp only [deps]; omega
  | a :: as, i + 1, d, e => by have := deps_get (l := as) (i := i) (d := d) (by simpa using e); simp only [deps]; omega
theorem refss_get : ∀ {l : List D} {i : Nat} {d : D}, l[i]? = some d → ∀ q ∈ refs d, q ∈ refss l
  | a :: as, 0, d, e, q, h => by simp at e; subst e; simp only [refss, List.mem_append]; exact .inl h
  | a :: as, i + 1, d, e, q, h => by simp only [refss, List.mem_append]; exact .inr (refss_get (i := i) (by simpa using e) q h)
section
variable {X : Cx} {pins : List (Addr × Obj)} {σ : St} {H : Hp} {s : Shared} {m : M}
theorem RefOk.notup {K : PySem.W.Frag} {q : Addr} (am : AbsM K H m) (kf : Kf K H) (r : RefOk m q) (xs : List V) : H q ≠ some (.tup xs) := fun e => by
  rcases r with ⟨ds, h | h⟩ | ⟨kvs, h⟩
  · obtain ⟨ys, h1, _⟩ := am _ _ h; rw [e] at h1; cases h1
  · obtain ⟨ys, h1, _⟩ := am _ _ h
    rcases h1 with (h1 | ⟨o, h1⟩) | ⟨o, its, n, h1, _⟩
    · rw [e] at h1; cases h1
    · rw [e] at h1; cases h1
    · rw [kf _ _ e] at h1; cases h1
  · obtain ⟨ys, h1, _⟩ := am _ _ h; rw [e] at h1; cases h1
mutual
/-- the same value, read twice -/
theorem deq_same {K : PySem.W.Frag} (am : AbsM K H m) (kf : Kf K H) : ∀ {v : V} {d e : D}, kinR d = true → Fz H v d → Fz H v e → (∀ q ∈ refs e, RefOk m q) → deq d e = true
  | _, .int i, _, _, .int _, .int _, _ => by simp [deq]
  | _, .str i, _, _, .str _, .str _, _ => by simp [deq]
  | _, .tup as, _, hk, .tup h1 g1, .tup h2 g2, hr => by
    rw [h1] at h2; cases h2
    simp only [deq]
    exact deqs_same am kf (by simpa [kinR] using hk) g1 g2 (fun q hq => hr q (by simpa [refs] using hq))
  | _, .tup as, _, hk, .tup (a := a) h1 g1, .ref _, hr => absurd h1 ((hr a (by simp [refs])).notup am kf _)
theorem deqs_same {K : PySem.W.Frag} (am : AbsM K H m) (kf : Kf K H) : ∀ {vs : List V} {ds es : List D}, kinRs ds = true → FzAll H vs ds → FzAll H vs es → (∀ q ∈ refss es, RefOk m q) → deqs ds es = true
  | _, [], _, _, .nil, .nil, _ => by simp [deqs]
  | _, d :: ds, _, hk, .cons f fs, .cons g gs, hr => by
    have hk' : kinR d = true ∧ kinRs ds = true := by simpa [kinRs] using hk
    have h1 := deq_same am kf hk'.1 f g (fun q hq => hr q (by simp [refss, hq]))
    have h2 := deqs_same am kf hk'.2 fs gs (fun q hq => hr q (by simp [refss, hq]))
    simp [deqs, h1, h2]
end
theorem fz_at {its : List Value} {xs : List V} {ds : List D} (rv : Vals xs its) (g : FzAll H xs ds) {j : Nat} (h : j < its.toArray.size) : ∃ d v, ds[j]? = some d ∧ Fz H v d ∧ RelV v its.toArray[j] := by
  have hj : j < its.length := by simpa using h
  have hl := rv.length
  have hx : xs[j]? = some xs[j] := List.getElem?_eq_getElem (by omega)
  obtain ⟨d, hd, fd⟩ := g.getV hx
  obtain ⟨u, hu, ru⟩ := rv.get hx
  refine ⟨d, _, hd, fd, ?_⟩
  have e : its.toArray[j] = u := by
    have := List.getElem?_eq_getElem hj
    rw [hu] at this
    simpa using (Option.some.inj this).symm
  rw [e]; exact ru
open SeqAt in
theorem eq_rec (I : Inv X pins σ H s) (am : AbsM X.K H m) : ∀ (n : Nat) {A : Around} {v w : V} {u1 u2 : Value} {d e : D}, dep d ≤ n → kinR d = true → Fz H v d → Fz H w e → RelV v u1 → RelV w u2 → (∀ q ∈ refs e, RefOk m q) → A.units + n + 1 < cLine →
    EqAt A s u1 u2 (deq d e) ∧ (∀ as, d = .tup as → RcAt A s u1 u2 (deq d e))
  | n, A, v, w, u1, u2, d, e, hn, hk, f1, f2, r1, r2, hr, hu => by
    have tt : ∀ as bs, d = .tup as → e = .tup bs → RcAt A s u1 u2 (deqs as bs) ∧ EqAt A s u1 u2 (deqs as bs) := by
      rintro as bs rfl rfl
      cases f1 with
      | @tup a xs _ h1 g1 =>
        cases f2 with
        | @tup b ys _ h2 g2 =>
          cases r1; cases r2
          obtain ⟨its, rv, p, _⟩ := I.tuple (SqT.of h1)
          obtain ⟨its', rv', p', _⟩ := I.tuple (SqT.of h2)
          cases n with
          | zero => simp [dep] at hn
          | succ n =>
            have hka : kinRs as = true := by simpa [kinR] using hk
            have hdep : deps as ≤ n := by simpa [dep] using hn
            have la : its.toArray.size = as.length := by rw [List.size_toArray, ← rv.length, g1.length]
            have lb : its'.toArray.size = bs.length := by rw [List.size_toArray, ← rv'.length, g2.length]
            have rc : RcAt A s (.ref a) (.ref b) (deqs as bs) := by
              have q := RcAt.tuples (A := A) (s := s) (e := deqAt as bs) p p' (by omega) (fun j h1 h2 => by
                  obtain ⟨x, v1, hx, fx, rx⟩ := fz_at rv g1 h1
                  obtain ⟨y, v2, hy, fy, ry⟩ := fz_at rv' g2 h2
                  simp only [deqAt, hx, hy]
                  exact (eq_rec I am n (A := A.in1) (Nat.le_trans (deps_get hx) hdep) (kinRs_get hka hx) fx fy rx ry (fun q hq => hr q (by simp only [refs]; exact refss_get hy q hq)) (by show A.units + 1 + n + 1 < cLine; omega)).1)
              rw [la, lb] at q
              by_cases hl : as.length = bs.length
              · rw [deqs_all hl]
                rw [hl] at q ⊢
                simpa using q
              · rw [deqs_len hl]
                rw [show (as.length == bs.length) = false by simpa using hl, Bool.and_false] at q
                exact q
            refine ⟨rc, ?_⟩
            by_cases hab : a = b
            · subst hab
              rw [h1] at h2; cases h2
              rw [deqs_same am (inv_kf I) hka g1 g2 (fun q hq => hr q (by simpa [refs] using hq))]
              exact EqAt.same _
            · exact .of_refs hab rc
    exact eq_base I am f1 f2 r1 r2 (kinR_kin hk) hr (by omega) (fun as bs h1 h2 => (tt as bs h1 h2).1) (fun as bs h1 h2 => (tt as bs h1 h2).2)

variable {Q : D → M → Prop}
/-- a tuple == anything -/
theorem o2_eqd {as : List D} {e : D} (hu : X.A.units + 64 < cLine) (hd : deps as ≤ 60) (hk : kinRs as = true) (hr : ∀ q ∈ refs e, RefOk m q) (q : Q (.bl (deq (.tup as) e)) m) : O2 X (compareOp .Eq) (.tup as) e m Q := fun v w H H0 tk kf f1 f2 am => by
  intro pins s σ u1 u2 I r1 r2
  refine (eq_rec I am 61 (by simp [dep]; omega) (by simpa [kinR] using hk) f1 f2 r1 r2 hr (by omega)).2 as rfl X.prog X.w X.xe (EP X pins σ (PV X.K H0 Q)) ?_
  exact ⟨.bl _, H, I, rfl, PV.mk tk (.bl _) am q⟩
/-- a list against the empty list -/
theorem o2_eqnil {p q : Addr} {ds : List D} (hu : X.A.units + 1 < cLine) (hp : m p = some (.lst ds)) (hq : m q = some (.lst [])) (k : Q (.bl ds.isEmpty) m) : O2 X (compareOp .Eq) (.ref p) (.ref q) m Q := fun v w H H0 tk kf f1 f2 am => by
  intro pins s σ u1 u2 I r1 r2
  cases f1; cases f2; cases r1; cases r2
  obtain ⟨xs, hx, g⟩ := am _ _ hp
  obtain ⟨ys, hy, g2⟩ := am _ _ hq
  obtain rfl := g2.nilD
  obtain ⟨its, rv, pl, _⟩ := I.list (SqL.of hx)
  obtain ⟨its2, rv2, pl2, _⟩ := I.list (SqL.of hy)
  cases rv2
  have la : its.toArray.size = ds.length := by rw [List.size_toArray, ← rv.length, g.length]
  have fin : EP X pins σ (PV X.K H0 Q) (.bool ds.isEmpty) s := ⟨.bl _, H, I, rfl, PV.mk tk (.bl _) am k⟩
  cases ds with
  | nil =>
    obtain rfl := g.nilD
    cases rv
    exact SeqAt.eq_listAt (e := fun _ => true) pl.isList pl2.isList rfl (by omega) (fun j h => absurd h (by simp)) (by simpa using fin)
  | cons d ds => exact SeqAt.eq_list_lengthsAt pl.isList pl2.isList (by rw [la]; simp) (by omega) (by simpa using fin)
theorem o2_nenil {p q : Addr} {ds : List D} (hu : X.A.units + 1 < cLine) (hp : m p = some (.lst ds)) (hq : m q = some (.lst [])) (k : Q (.bl (!ds.isEmpty)) m) : O2 X (compareOp .NotEq) (.ref p) (.ref q) m Q := fun v w H H0 tk kf f1 f2 am => by
  intro pins s σ u1 u2 I r1 r2
  cases f1; cases f2; cases r1; cases r2
  obtain ⟨xs, hx, g⟩ := am _ _ hp
  obtain ⟨ys, hy, g2⟩ := am _ _ hq
  obtain rfl := g2.nilD
  obtain ⟨its, rv, pl, _⟩ := I.list (SqL.of hx)
  obtain ⟨its2, rv2, pl2, _⟩ := I.list (SqL.of hy)
  cases rv2
  have la : its.toArray.size = ds.length := by rw [List.size_toArray, ← rv.length, g.length]
  have fin : EP X pins σ (PV X.K H0 Q) (.bool (!ds.isEmpty)) s := ⟨.bl _, H, I, rfl, PV.mk tk (.bl _) am k⟩
  cases ds with
  | nil =>
    obtain rfl := g.nilD
    cases rv
    exact SeqAt.RcNeAt.lists (e := fun _ => true) pl.isList pl2.isList rfl (by omega) (fun j h => absurd h (by simp)) X.prog X.w _ _ (by simpa using fin)
  | cons d ds => exact SeqAt.RcNeAt.lists_lengths pl.isList pl2.isList (by rw [la]; simp) (by omega) X.prog X.w _ _ (by simpa using fin)
/-- two tuples, != -/
theorem o2_nett {as bs : List D} (hu : X.A.units + 64 < cLine) (hd : deps as ≤ 60) (hk : kinRs as = true) (hr : ∀ q ∈ refss bs, RefOk m q) (q : Q (.bl (!deqs as bs)) m) : O2 X (compareOp .NotEq) (.tup as) (.tup bs) m Q := fun v w H H0 tk kf f1 f2 am => by
  intro pins s σ u1 u2 I r1 r2
  cases f1 with
  | @tup a xs _ h1 g1 =>
    cases f2 with
    | @tup b ys _ h2 g2 =>
      cases r1; cases r2
      obtain ⟨its, rv, p, _⟩ := I.tuple (SqT.of h1)
      obtain ⟨its', rv', p', _⟩ := I.tuple (SqT.of h2)
      have la : its.toArray.size = as.length := by rw [List.size_toArray, ← rv.length, g1.length]
      have lb : its'.toArray.size = bs.length := by rw [List.size_toArray, ← rv'.length, g2.length]
      have rc := SeqAt.RcNeAt.tuples (A := X.A) (s := s) (e := deqAt as bs) p p' (by omega) (fun j h1 h2 => by
        obtain ⟨x, v1, hx, fx, rx⟩ := fz_at rv g1 h1
        obtain ⟨y, v2, hy, fy, ry⟩ := fz_at rv' g2 h2
        simp only [deqAt, hx, hy]
        exact (eq_rec I am 60 (A := X.A.in1) (Nat.le_trans (deps_get hx) hd) (kinRs_get hk hx) fx fy rx ry (fun q hq => hr q (refss_get hy q hq)) (by show X.A.units + 1 + 60 + 1 < cLine; omega)).1)
      refine rc X.prog X.w _ _ ?_
      have e : (!((List.range (min its.toArray.size its'.toArray.size)).all (deqAt as bs) && its.toArray.size == its'.toArray.size)) = !deqs as bs := by
        rw [la, lb]
        by_cases hl : as.length = bs.length
        · rw [deqs_all hl]; simp [hl]
        · rw [deqs_len hl]; simp [hl]
      rw [e]
      exact ⟨.bl _, H, I, rfl, PV.mk tk (.bl _) am q⟩
end
end DL

set_option maxHeartbeats 2000000
/-! W4: repr of data; sorted of texts, any number. -/
namespace SX
open PySem PyProof.Rows Srt SrtO
section
variable {prog : Program} {w : World} {A : Around} {E : Value → Shared → Prop} {s : Shared}
def sv : Value → Str
  | .str i _ => i
  | _ => Str.empty
def ltSv (v u : Value) : Bool := decide ((sv v).cps.toList < (sv u).cps.toList)
theorem swo_str : Swo ltSv := by
  refine ⟨fun x y h => ?_, fun x y z h1 h2 => ?_⟩
  · have a := of_decide_eq_true (p := (sv x).cps.toList < (sv y).cps.toList) h
    exact decide_eq_false (p := (sv y).cps.toList < (sv x).cps.toList) (List.lt_asymm a)
  · have a := of_decide_eq_false (p := (sv y).cps.toList < (sv x).cps.toList) h1
    have b := of_decide_eq_false (p := (sv z).cps.toList < (sv y).cps.toList) h2
    refine decide_eq_false (p := (sv z).cps.toList < (sv x).cps.toList) ?_
    exact List.not_lt.mpr (List.le_trans (List.not_lt.mp a) (List.not_lt.mp b))
theorem strs_mem : ∀ {vs : List Value} {ns : List Str}, StrsAre vs ns → ∀ v ∈ vs, ∃ i t, v = Value.str i t
  | _, _, .nil, v, h => absurd h (by simp)
  | _, _, .cons n t r, v, h => by
    rcases List.mem_cons.mp h with e | h
    · exact ⟨n, t, e⟩
    · exact strs_mem r v h
theorem strs_sv : ∀ {vs : List Value}, (∀ v ∈ vs, ∃ i t, v = Value.str i t) → StrsAre vs (vs.map sv)
  | [], _ => .nil
  | v :: vs, h => by
    obtain ⟨i, t, e⟩ := h v List.mem_cons_self
    subst e
    exact .cons i t (strs_sv fun u hu => h u (List.mem_cons_of_mem _ hu))
theorem sv_strs : ∀ {vs : List Value} {ns : List Str}, StrsAre vs ns → vs.map sv = ns
  | _, _, .nil => rfl
  | _, _, .cons n t r => congrArg (n :: ·) (sv_strs r)
theorem str_cmp {vs : List Value} {ns : List Str} (hI : StrsAre vs ns) : Cmp prog w A s oneType' (fun p => p.1 ∈ vs) (lt2 ltSv) := by
  intro p q hm hm'
  obtain ⟨a, t, e⟩ := strs_mem hI _ hm
  obtain ⟨b, u, e'⟩ := strs_mem hI _ hm'
  show wpAny (model prog w) A (keyLt' oneType' p.1 q.1) (fun r s' => s' = s ∧ r = ltSv p.1 q.1) (fun _ _ => False) s
  rw [e, e', keyLt'_oneType]
  exact oneLt_str ⟨rfl, rfl⟩
theorem strs_sortable {a : Addr} {vs : List Value} {ns : List Str} (hI : StrsAre vs ns) (h2 : 2 ≤ vs.length) : SortableO prog w A s a vs ltSv := by
  intro h' _
  refine ⟨oneType', fun Q E hq => ?_, str_cmp hI⟩
  match vs, hI, h2 with
  | v1 :: v2 :: rest, hI, _ =>
    rw [keyKind_strs hI]
    exact wpAny_pure hq
  | [], _, h => exact absurd h (by decide)
  | [v], _, h => exact absurd h (by simp)
theorem strs_out {vs out : List Value} {ns : List Str} (hI : StrsAre vs ns) (hs : Srtd ltSv out) (hb : Stb ltSv out vs) : StrsAre out (out.map sv) ∧ (out.map sv).Perm ns ∧ (out.map sv).Pairwise (fun a b => a.cps.toList ≤ b.cps.toList) := by
  refine ⟨strs_sv fun v hv => strs_mem hI v (hb.perm.mem_iff.mp hv), ?_, ?_⟩
  · have q := hb.perm.map sv
    rw [sv_strs hI] at q
    exact q
  · exact List.pairwise_map.mpr (hs.imp fun {x y} h => List.not_lt.mp (of_decide_eq_false (p := (sv y).cps.toList < (sv x).cps.toList) h))
end
end SX

namespace DL
open PySem L2
section
variable {X : Cx} {m : M} {Q : D → M → Prop}
theorem oc_sorted {q : Addr} {ss : List Str} (h : m q = some (.lst (ss.map D.str))) (k : ∀ (ys : List Str) r, ys.Perm ss → ys.Pairwise (fun a b => a.cps.toList ≤ b.cps.toList) → m r = none → Q (.ref r) (mup m r (.lst (ys.map D.str)))) : OC X (.builtin "sorted") [.ref q] m Q := fun vs H H0 tk kf f am => by
  intro pins s σ us I r
  obtain ⟨v, rfl, gg⟩ := fz1 f
  cases gg
  obtain ⟨xs, hx, g⟩ := am _ _ h
  have e := g.strs
  subst e
  obtain ⟨its, rv, hl, hz⟩ := I.list (SqL.of hx)
  rw [Vals.ref1 r]
  have hi := rv.strs
  refine SrtO.sorted_ord SX.swo_str hl.isList (by rw [← rv.length]; exact hz) (fun h2 h₁ a' _ _ => SX.strs_sortable hi h2) fun out h1 h2 => ?_
  obtain ⟨k1, k2, k3⟩ := SX.strs_out hi h1 h2
  obtain ⟨ep, he'⟩ := PyProof.Rows.sortedAll_at s.heap its out.toArray
  have hlen : ((out.map SX.sv).map V.str).length ≤ sizeLine := by
    rw [List.length_map, k2.length_eq]
    rw [List.length_map] at hz
    exact hz
  have hn : H (s.heap.objs.size + 1) = none := I.hok.fresh (Nat.le_succ _)
  refine ⟨.ref _, upd H (s.heap.objs.size + 1) (.lst ((out.map SX.sv).map V.str)), I.laid (t' := s.toks) (fun _ _ => PyProof.Rows.sortedAll_old) (Nat.le_succ _) ⟨hlen, out, ep, vals_of_strs k1, he'⟩, rfl, ?_⟩
  exact pv_lst tk hn (FzAll.ofStrs _) am fun p hp => k _ p k2 k3 hp

/-! ### repr -/
mutual
/-- data as the library's; b: a dict may be among them (else lists of plain data) -/
inductive RP (b : Bool) (m : M) : D → PyData → Prop
  | non : RP b m .non .none
  | bl (c : Bool) : RP b m (.bl c) (.bool c)
  | int (i : Int) : RP b m (.int i) (.int i)
  | str (x : Str) : RP b m (.str x) (.str x)
  | tup {ds : List D} {ps : List PyData} : RPs b m ds ps → RP b m (.tup ds) (.tuple ps)
  | dic {q : Addr} : b = true → m q = some (.dK []) → RP b m (.ref q) (.dict [])
  | lst {q : Addr} {ds : List D} {ps : List PyData} : b = false → m q = some (.lst ds) → RPs b m ds ps → RP b m (.ref q) (.list ps)
inductive RPs (b : Bool) (m : M) : List D → List PyData → Prop
  | nil : RPs b m [] []
  | cons {d : D} {ds : List D} {p : PyData} {ps : List PyData} : RP b m d p → RPs b m ds ps → RPs b m (d :: ds) (p :: ps)
end
section
variable {pins : List (Addr × Obj)} {σ : St} {H : Hp} {s : Shared} {b : Bool}
mutual
theorem RP.reads (I : Inv X pins σ H s) (am : AbsM X.K H m) : ∀ (p : PyData) (d : D) (v : V) (u : Value), RP b m d p → Fz H v d → RelV v u → ∃ as, Reads s.heap u p as ∧ (b = true → sysModules ∉ as) ∧ (b = false → p.hasDict = false)
  | .none, _, _, _, h, f, r => by
    cases h; cases f; cases r
    exact ⟨_, .none, (fun _ => by simp), (fun _ => by simp only [PyData.hasDict])⟩
  | .bool c, _, _, _, h, f, r => by
    cases h; cases f; cases r
    exact ⟨_, .bool c, (fun _ => by simp), (fun _ => by simp only [PyData.hasDict])⟩
  | .int i, _, _, _, h, f, r => by
    cases h; cases f
    obtain ⟨t, rfl⟩ := r
    exact ⟨_, .int i t, (fun _ => by simp), (fun _ => by simp only [PyData.hasDict])⟩
  | .str x, _, _, _, h, f, r => by
    cases h; cases f
    obtain ⟨t, rfl⟩ := r
    exact ⟨_, .str x t, (fun _ => by simp), (fun _ => by simp only [PyData.hasDict])⟩
  | .tuple ps, _, _, _, h, f, r => by
    cases h with
    | tup hs =>
      cases f with
      | tup h1 g1 =>
        cases r
        obtain ⟨its, rv, ⟨o, ho, hc, n, hd⟩, _⟩ := I.tuple (SqT.of h1)
        obtain ⟨as, hr, n1, n2⟩ := RPs.reads I am ps _ _ its hs g1 rv
        exact ⟨_, Reads.tuple ho hc hd hr, n1, fun e => by simpa only [PyData.hasDict] using n2 e⟩
  | .list ps, _, _, _, h, f, r => by
    cases h with
    | lst eb hq hs =>
      cases f
      cases r
      obtain ⟨xs, hx, g⟩ := am _ _ hq
      obtain ⟨its, rv, ⟨o, n, ho, hc, _, hd⟩, _⟩ := I.list (SqL.of hx)
      obtain ⟨as, hr, n1, n2⟩ := RPs.reads I am ps _ _ its hs g rv
      exact ⟨_, Reads.list ho hc hd hr, (fun e => by rw [eb] at e; cases e), (fun e => by simpa only [PyData.hasDict] using n2 e)⟩
  | .dict kvs, _, _, _, h, f, r => by
    cases h with
    | dic eb hq =>
      cases f
      cases r
      obtain ⟨ks, hk, g⟩ := am _ _ hq
      cases g
      obtain ⟨_, hd, vs, rel, o, es, ep, e, ex, dt, hm⟩ := I.hok _ _ hk
      cases rel
      have e0 : es.toList = [] := by
        have hp := hm.2.1
        generalize es.toList = l at hp
        cases l with
        | nil => rfl
        | cons a l => cases hp
      exact ⟨_, Reads.dict e ex.1 dt (by rw [e0]; exact .nil) (by rw [e0]; exact .nil), (fun _ hmem => by
        simp only [List.append_nil, List.mem_singleton] at hmem
        rw [← hmem] at hd
        simp at hd), (fun e => by rw [eb] at e; cases e)⟩
theorem RPs.reads (I : Inv X pins σ H s) (am : AbsM X.K H m) : ∀ (ps : List PyData) (ds : List D) (vs : List V) (us : List Value), RPs b m ds ps → FzAll H vs ds → Vals vs us → ∃ as, ReadsAll s.heap us ps as ∧ (b = true → sysModules ∉ as) ∧ (b = false → PyData.hasDictAll ps = false)
  | [], _, _, _, h, f, r => by
    cases h; cases f; cases r
    exact ⟨_, .nil, (fun _ => by simp), (fun _ => by simp only [PyData.hasDictAll])⟩
  | p :: ps, _, _, _, h, f, r => by
    cases h with
    | cons h1 h2 =>
      cases f with
      | cons f1 f2 =>
        cases r with
        | cons r1 r2 =>
          obtain ⟨as, q1, n1, m1⟩ := RP.reads I am p _ _ _ h1 f1 r1
          obtain ⟨bs, q2, n2, m2⟩ := RPs.reads I am ps _ _ _ h2 f2 r2
          refine ⟨_, .cons q1 q2, fun e => ?_, fun e => by simp only [PyData.hasDictAll, m1 e, m2 e, Bool.or_self]⟩
          simp only [List.mem_append, not_or]
          exact ⟨n1 e, n2 e⟩
end
end
theorem oc_repr {d : D} {p : PyData} {b : Bool} (hg : X.A.guards = some []) (hu : X.A.units + 128 < cLine) (h : RP b m d p) (hr : (∃ ds, d = .tup ds) ∨ ∃ q, d = .ref q) (hs : p.showable = true) (hd : p.depth ≤ 60) (hz : p.shown.length ≤ sizeLine) (k : Q (.str p.shown) m) : OC X (.builtin "repr") [d] m Q := fun vs H H0 tk kf f am => by
  intro pins s σ us I r
  obtain ⟨v, rfl, f1⟩ := fz1 f
  obtain ⟨u, rfl, r1⟩ := vals1 r
  obtain ⟨as, rd, n1, n2⟩ := h.reads I am _ _ _ _ f1 r1
  have hv : ∃ a, u = .ref a := by
    rcases hr with ⟨ds, rfl⟩ | ⟨q, rfl⟩
    · cases f1; cases r1; exact ⟨_, rfl⟩
    · cases f1; cases r1; exact ⟨_, rfl⟩
  obtain ⟨a, rfl⟩ := hv
  refine repr_of_reads' rd hs (fun hx => ?_) hg (by omega) (fun _ _ e => e) (fun h' u tk' hk => ?_) hz
  · cases b with
    | true => exact n1 rfl
    | false => rw [n2 rfl] at hx; cases hx
  · exact ⟨.str _, H, I.kept hk, ⟨u, rfl⟩, PV.mk tk (.str _) am k⟩
end
end DL

set_option maxHeartbeats 2000000
/-! W5: xs[::k] for k = 1, -1; enumerate of a tuple. -/
namespace PySem
open AutoSeq1 (wpAny_loadPart')
theorem enum_new_tupX (l : Addr) (items : Array Value) (n : Nat) (dct : Option Addr) (sl : Array (Option Value)) :
    Meets (Builtin.«enumerate.__new__» ⟨[.type "enumerate", .ref l], []⟩) (fun _ R s => s.heap.get? l = some { cls := .type "tuple", dict := dct, data := .seq items n, slots := sl } ∧
      R (.ok (.ret (.ref (s.heap.push { cls := .type "tuple_iterator", data := .fields #[.ref l, .int 0 0] }).objs.size)))
        { s with heap := (s.heap.push { cls := .type "tuple_iterator", data := .fields #[.ref l, .int 0 0] }).push { cls := .type "enumerate", data := .fields #[.none, .bool false, .ref s.heap.objs.size, rawInt 0, .none, .none] } }) :=
  .of_wp fun prog w A R s h => by
    obtain ⟨hp, g, d, tk, os⟩ := s
    obtain ⟨hl, h⟩ := h
    have f1 := sub_enumerate
    have ht : Heap.IsTuple (Shared.heap ⟨hp, g, d, tk, os⟩) l items := ⟨_, hl, rfl, n, rfl⟩
    wp_walk using wpAny_loadPart' hl
    refine wpAny_stack_any fun st => wpAny_pure ?_
    split
    · rename_i c _ _ _ _ _
      cases (c == Value.type "enumerate") <;>
      · wp_walk using wpAny_loadPart' hl, wpAny_pyIter_tuple ht
        exact ⟨_, rfl, h⟩
    · wp_walk using wpAny_loadPart' hl, wpAny_pyIter_tuple ht
      exact ⟨_, rfl, h⟩
section
variable {prog : Program} {w : World} {A : Around} {E : Value → Shared → Prop} {s : Shared}
theorem call_enum_tupX {l : Addr} {items : Array Value} {Q : Value → Shared → Prop} (ht : s.heap.IsTuple l items)
    (h : ∀ h', IsEnum h' (s.heap.objs.size + 1) s.heap.objs.size 0 .none → h'.IsTupleIter s.heap.objs.size l 0 → h'.objs.size = s.heap.objs.size + 2 →
      (∀ b o, s.heap.get? b = some o → h'.get? b = some o) → Q (.ref (s.heap.objs.size + 1)) { s with heap := h' }) :
    wpAny (model prog w) A (call (.type "enumerate") [.ref l]) Q E s := by
  obtain ⟨⟨c, dct, dt, sl⟩, hl, hc, n, hd⟩ := ht
  obtain rfl : c = .type "tuple" := hc
  obtain rfl : dt = .seq items n := hd
  have hz : (s.heap.push { cls := .type "tuple_iterator", data := .fields #[.ref l, .int 0 0] }).objs.size = s.heap.objs.size + 1 := Heap.size_push ..
  have he : IsEnum ((s.heap.push { cls := .type "tuple_iterator", data := .fields #[.ref l, .int 0 0] }).push
      { cls := .type "enumerate", data := .fields #[.none, .bool false, .ref s.heap.objs.size, rawInt 0, .none, .none] }) (s.heap.objs.size + 1) s.heap.objs.size 0 .none := by
    have q := Heap.get?_push_size (s.heap.push { cls := .type "tuple_iterator", data := .fields #[.ref l, .int 0 0] })
      (o := { cls := .type "enumerate", data := .fields #[.none, .bool false, .ref s.heap.objs.size, rawInt 0, .none, .none] }) rfl
    rw [hz] at q
    exact q
  refine callType_new F.called_enumerate (by decide) (F.typeCall_enumerate_1 _) (F.newCall_enumerate_1 _) (fun obj => F.args_object_init_2 obj _) F.entry_enumerate_new
    (enum_new_tupX l items n dct sl) ⟨hl, ?_⟩
  show _ ∧ _
  rw [hz]
  refine ⟨⟨_, he, rfl⟩, h _ he ⟨_, Heap.get?_push_of_some _ (Heap.get?_push_size _ rfl), rfl, rfl⟩ (by rw [Heap.size_push, hz]) fun b o x => Heap.get?_push_of_some _ (Heap.get?_push_of_some _ x)⟩
end
end PySem

namespace DL
open PySem L2
open PySem.Spec
open PyProof.Rows (tail_any args_cons args_nil Call_ Subscript_)
/-- the tuple at a, each item in a new pair -/
def ItT (K : PySem.W.Frag) (a : Addr) (n : Nat) : It :=
  ⟨fun i H => i < n ∧ ∃ xs, H a = some (.tup xs) ∧ xs.length = n, fun i H v H' => ∃ T x, v = .ref T ∧ H T = none ∧ H' = upd H T (.tup [.int (i : Nat), x]) ∧ ∀ xs, H a = some (.tup xs) → xs[i]? = some x,
    fun i H => n ≤ i ∧ ∃ xs, H a = some (.tup xs) ∧ xs.length = n⟩
theorem turn_enumT {P : Program} {w : World} {K : PySem.W.Frag} {elts : List Expr} {kk : Nat} {tpos : Pos} (a e it : Addr) (n : Nat) :
    Turn P w K (.Tuple elts kk tpos) (ItT K a n) [e, it] e (fun i h => i ≤ n ∧ (∃ old, IsEnum h e it ((i : Nat) : Int) old) ∧ h.IsTupleIter it a i ∧ e ≠ it) where
  mem := by simp
  obj := fun i h st b hb => by
    obtain ⟨_, ⟨old, he⟩, ⟨o, ho, hc, hd⟩, _⟩ := st
    have e' : b = e ∨ b = it := by simpa using hb
    rcases e' with z | z
    · rw [z]; exact ⟨_, he, fun v q => nomatch q⟩
    · rw [z]; exact ⟨o, ho, fun v q => by rw [hd] at q; cases q⟩
  keep := fun i h h' st k => let ⟨hi, ⟨old, he⟩, hit, hne⟩ := st; ⟨hi, ⟨old, k e (by simp) _ he⟩, hit.at fun o q => k it (by simp) o q, hne⟩
  item := by
    intro X hP hw hK hc i pins s σ H E I hf st hg
    subst hP hw hK
    obtain ⟨_, ⟨old, he⟩, hit, hne⟩ := st
    obtain ⟨hin, xs, hx, hn⟩ := hg
    obtain ⟨its, rv, p, hz⟩ := I.tuple (SqT.of hx)
    have hl := rv.length
    have hel : e < s.heap.objs.size := Heap.lt_size he
    have hil : it < s.heap.objs.size := by obtain ⟨_, q, _⟩ := hit; exact Heap.lt_size q
    have hal : a < s.heap.objs.size := p.lt
    have nea : e ≠ a := fun z => by
      obtain ⟨f0, _⟩ := hf e (by simp)
      rw [z, hx] at f0; cases f0
    have nia : it ≠ a := fun z => by
      obtain ⟨f0, _⟩ := hf it (by simp)
      rw [z, hx] at f0; cases f0
    refine wpAny_pyNext_enum_itemD (fp := [it, a]) (n := its.toArray.size) (P := fun i v => its.toArray[i]? = some v) (St := fun i h => h.IsTupleIter it a i ∧ h.IsTuple a its.toArray)
      (Draws.tuple (A := X.A.in1) (I.ok.hd hc) it a (Ne.symm nia) its.toArray) he ⟨hit, p⟩ (by rw [List.size_toArray]; omega) hne (by simp [hne, nea]) fun u h' tk hu ho hst hT hsz hk => ?_
    obtain ⟨x, hxi, ru⟩ : ∃ x, xs[i]? = some x ∧ RelV x u := by
      have hxi : xs[i]? = some xs[i] := List.getElem?_eq_getElem (by omega)
      obtain ⟨u', hu', r'⟩ := rv.get hxi
      have e1 : its[i]? = some u := by simpa using hu
      rw [hu'] at e1; cases e1
      exact ⟨_, hxi, r'⟩
    refine ⟨_, rfl, wpAny_letOwnedTupleGo_enum (s := { s with heap := h', toks := tk + 1 }) ho fun h'' he' sb => ?_⟩
    have hT2 : h''.get? s.heap.objs.size = some { cls := .type "tuple", data := .seq #[.int i tk, u] } := (sb.2 _ (Nat.ne_of_gt hel)).trans hT
    have hnew : ObjOk X.prog X.w (upd H s.heap.objs.size (.tup [.int (i : Nat), x])) h'' s.heap.objs.size (.tup [.int (i : Nat), x]) :=
      ⟨by show 2 ≤ sizeLine; decide, [.int i tk, u], .cons ⟨_, rfl⟩ (.cons ru .nil), ⟨_, hT2, rfl, _, rfl⟩⟩
    have I1 : Inv X pins σ (upd H s.heap.objs.size (.tup [.int (i : Nat), x])) { s with heap := h'', toks := tk + 1 } :=
      I.turnedNew (ch := [e, it]) (fun b ob hb q => (sb.2 b (fun z => hb (by simp [z]))).trans (hk b ob (fun z => hb (by simp [z])) (fun z => hb (by simp [z])) q)) hf (Nat.le_refl _) hnew
    refine ⟨.ref s.heap.objs.size, _, I1, rfl, ⟨_, x, rfl, I.hok.fresh (Nat.le_refl _), rfl, fun ys hy => by rw [hx] at hy; cases hy; exact hxi⟩, ⟨hin, ⟨u, ?_⟩, hst.1.at fun o q => (sb.2 it (Ne.symm hne)).trans q, hne⟩, fun b hb => ?_⟩
    · have e1 : ((i + 1 : Nat) : Int) = (i : Int) + 1 := by omega
      rw [e1]; exact he'
    · have hb' : b < s.heap.objs.size := by
        have e' : b = e ∨ b = it := by simpa using hb
        rcases e' with z | z
        · rw [z]; exact hel
        · rw [z]; exact hil
      rw [upd_ne (Nat.ne_of_lt hb')]
      exact (hf b hb).1
  done := by
    intro X hP hw hK hc i pins s σ H E I hf st hg
    subst hP hw hK
    obtain ⟨hin, ⟨old, he⟩, hit, hne⟩ := st
    obtain ⟨hni, xs, hx, hn⟩ := hg
    obtain rfl : i = n := Nat.le_antisymm hin hni
    obtain ⟨its, rv, p, hz⟩ := I.tuple (SqT.of hx)
    obtain ⟨f0, f1, f2, f3, f4, f5⟩ := hf it (by simp)
    have hl := rv.length
    have nia : it ≠ a := fun z => by rw [z, hx] at f0; cases f0
    have hsz : its.toArray.size = i := by rw [List.size_toArray]; omega
    refine wpAny_pyNext_enum_endD (fp := [it, a]) (n := its.toArray.size) (P := fun i v => its.toArray[i]? = some v) (St := fun i h => h.IsTupleIter it a i ∧ h.IsTuple a its.toArray)
      (Draws.tuple (A := X.A.in1) (I.ok.hd hc) it a (Ne.symm nia) its.toArray) he ⟨by rw [hsz]; exact hit, p⟩ fun h' eb => ⟨rfl, I.turned (t' := s.toks) (fun b o hb q => eb b o hb q) f0 f1 f3 f4 f5⟩
  self := fun A i s Q E st h => let ⟨_, ⟨_, he⟩, _⟩ := st; wpAny_pyIter_enum he h
def iEnT (K : PySem.W.Frag) (te : TE) : TI := fun σ H R => te σ H fun v H1 => ∃ a xs, v = .ref a ∧ H1 a = some (.tup xs) ∧ R (ItT K a xs.length) H1
section
variable {X : Cx} {e : Expr} {te : TE} {p pos tpos : Pos} {elts : List Expr} {kk : Nat} {Γ : G} {m : M}
theorem pi_enT (hg : Gl X "enumerate") (hm : X.mg "enumerate" = none) (he : PE X e te) (hs : starEach [e] X.env = (false, eval e X.env) :: starEach [] X.env := by rfl) : PI X (.Tuple elts kk tpos) (.Call (.Name "enumerate" p) [e] [] pos) (iEnT X.K te) := by
  refine ⟨fun pins s σ H R I h => ?_⟩
  refine Call_ (ld_blt I hg hm PyProof.Rows.boot_enumerate (PyProof.Rows.callWith_type1 (args_cons (thn (he.run pins s σ H _ I h) fun u s1 ⟨v, H1, I1, r1, q1⟩ => args_nil ?_) hs) hs rfl))
  obtain ⟨a, xs, ev, hx, q⟩ := q1
  subst ev
  obtain rfl : u = Value.ref a := r1
  obtain ⟨its, rv, p', hz⟩ := I1.tuple (SqT.of hx)
  refine call_enum_tupX p' fun h' hen hit hsz hk => wpAny_pyIter_enum hen ?_
  have I2 : Inv X pins σ H1 { s1 with heap := h' } := I1.kept (t' := s1.toks) hk
  refine ⟨s1.heap.objs.size + 1, [s1.heap.objs.size + 1, s1.heap.objs.size], _, _, H1, rfl, I2, turn_enumT a (s1.heap.objs.size + 1) s1.heap.objs.size xs.length, ⟨Nat.zero_le _, ⟨.none, hen⟩, hit, Nat.succ_ne_self _⟩, fun b hb => ?_, q⟩
  have hle : s1.heap.objs.size ≤ b := by
    have e' : b = s1.heap.objs.size + 1 ∨ b = s1.heap.objs.size := by simpa using hb
    rcases e' with z | z
    · rw [z]; exact Nat.le_add_right _ _
    · rw [z]; exact Nat.le_refl _
  exact I1.fpOk hle (I1.hok.fresh hle)
/-- the pairs of places and items -/
def enumD (ds : List D) : List D := ds.mapIdx fun i d => .tup [.int (i : Nat), d]
theorem di_enT {R : List D → (M → Prop) → M → Prop} (hg : Gl X "enumerate") (hm : X.mg "enumerate" = none) (h : DE X e Γ m fun d m1 => ∃ ds, d = .tup ds ∧ R (enumD ds) (fun _ => True) m1)
    (hs : starEach [e] X.env = (false, eval e X.env) :: starEach [] X.env := by rfl) : DI X (.Tuple elts kk tpos) (.Call (.Name "enumerate" p) [e] [] pos) Γ m R := fun σ H at_ => by
  refine ⟨_, pi_enT hg hm we_pe hs, fun P hP => ?_⟩
  refine h.thn at_ fun v H1 d m1 at1 k1 f1 h1 => ?_
  obtain ⟨ds, rfl, r⟩ := h1
  cases f1 with
  | @tup q xs _ hx g =>
    have hl : xs.length = (enumD ds).length := by rw [g.length]; simp [enumD]
    refine ⟨q, xs, rfl, hx, ?_⟩
    refine hP (ItT X.K q xs.length) H1 (enumD ds) _ m1 (fun H' => H' q = some (.tup xs) ∧ FzAll H' xs ds) at1.kf k1 at1.am ⟨?_, ?_, ?_⟩ True.intro ⟨hx, g⟩ (fun H2 m2 k _ _ => ⟨k _ _ hx, g.mono k⟩) ?_ r
    · rintro i H' ⟨hy, gy⟩ hi
      exact ⟨by omega, xs, hy, rfl⟩
    · rintro i H' ⟨hy, gy⟩ hi
      exact ⟨by omega, xs, hy, rfl⟩
    · rintro i H' x H2 m2 ⟨hy, gy⟩ am ⟨T, x', rfl, hT, rfl, hx2⟩ hi kf
      obtain ⟨d, hd, fd⟩ := gy.getV (hx2 xs hy)
      have k : TK H' (upd H' T (.tup [.int (i : Nat), x'])) := TK.new hT
      refine ⟨k, am.new (am.free hT (kf T _ upd_same)) k, .tup [.int (i : Nat), d], ?_, .tup upd_same (.cons (.int _) (.cons (fd.mono k) .nil))⟩
      simp [enumD, hd]
    · rintro H2 p o ⟨hy, gy⟩ hn
      have k : TK H2 (upd H2 p o) := TK.new hn
      exact ⟨k _ _ hy, gy.mono k⟩

/-! ### xs[::k] -/
theorem pick_fwd (its : List Value) : slicePick its.toArray none none (some 1) = its.toArray := by
  have h := slicePick_cut its none none
  have e : slicePick its.toArray none none (some 1) = slicePick its.toArray none none none := rfl
  rw [e, h]
  simp [HT.sIx]
theorem de_step {st : Expr} {p3 : Pos} {Q : D → M → Prop}
    (h : DE X e Γ m fun d m1 => DE X st Γ m1 fun k m2 => ∃ q ds c, d = .ref q ∧ k = .int c ∧ IsL m2 q ds ∧ ((c = 1 ∧ ∀ z, m2 z = none → Q (.ref z) (mup m2 z (.lst ds))) ∨ (c = -1 ∧ ∀ z, m2 z = none → Q (.ref z) (mup m2 z (.lst ds.reverse)))))
    (hsub : ∀ o i, subscripted (.Slice none none (some st) p3) false o i = operate [o, i] (getItem o i) := by intro _ _; with_unfolding_all rfl) :
    DE X (.Subscript e (.Slice none none (some st) p3) pos) Γ m Q := fun σ H at_ => by
  intro pins s I
  refine Subscript_ (thn (h σ H at_ pins s I) fun v s1 ⟨x, H1, I1, r1, q1⟩ => ?_)
  obtain ⟨k1, d, m1, f1, am1, h1⟩ := q1 (inv_kf I1)
  refine wpAny_Slice (thn (po_none.run pins s1 σ H1 (fun o H2 => o = none ∧ H2 = H1) I1 ⟨rfl, rfl⟩) fun vl s2 ⟨l, H2, I2, pl, el, e2⟩ => ?_)
  subst el e2
  refine thn (po_none.run pins s2 σ H2 (fun o H3 => o = none ∧ H3 = H2) I2 ⟨rfl, rfl⟩) fun vu s3 ⟨u, H3, I3, pu, eu, e3⟩ => ?_
  subst eu e3
  have hst := h1 σ H3 ⟨inv_kf I3, at_.g.mono k1, am1⟩
  have hpo : PO X (some st) (tPart (WE X st)) := po_some we_pe
  refine thn (hpo.run pins s3 σ H3 (fun o H4 => PV X.K H3 (fun k m2 => ∃ c, k = .int c ∧ o = some c ∧ ∃ q ds, d = .ref q ∧ IsL m2 q ds ∧ ((c = 1 ∧ ∀ z, m2 z = none → Q (.ref z) (mup m2 z (.lst ds))) ∨ (c = -1 ∧ ∀ z, m2 z = none → Q (.ref z) (mup m2 z (.lst ds.reverse))))) (.int (o.getD 0)) H4) I3
    (hst.mono fun y H4 kf q => ?_)) fun vs s4 ⟨o, H4, I4, ps, q4⟩ => ?_
  · obtain ⟨k2, dk, m2, f2, am2, qa, ds, c, ed, rfl, hl, hc⟩ := q kf
    cases f2
    exact ⟨c, rfl, fun _ => ⟨k2, .int c, m2, .int c, am2, c, rfl, rfl, qa, ds, ed, hl, hc⟩⟩
  · obtain ⟨k2, dk, m2, f2, am2, c, rfl, rfl, q, ds, rfl, hl, hc⟩ := q4 (inv_kf I4)
    cases f1
    cases r1
    have I5 : Inv X pins σ H4 { s4 with heap := s4.heap.push { cls := .type "slice", data := .fields #[vl, vu, vs] } } := I4.kept (t' := s4.toks) fun b ob q => Heap.get?_push_of_some _ q
    obtain ⟨xs, hx, g⟩ := hl.sq am2
    obtain ⟨its, r, ht, hz⟩ := I5.list hx
    have hlen := r.length
    refine tail_any (ops := [.ref q, .ref s4.heap.objs.size]) ht.isList.typeIs (PySem.slot_list_getitem.lookup) ?_ (hsub _ _)
    have hc0 : (some c : Option Int) ≠ some 0 := by
      rcases hc with ⟨rfl, _⟩ | ⟨rfl, _⟩ <;> decide
    refine wpAny_getItem_list_slice ht.isList (Heap.IsSliceOf.new _ vl vu vs) pl pu ps hc0 ?_ (by rw [List.size_toArray]; omega)
    have hn : H4 (s4.heap.push { cls := .type "slice", data := .fields #[vl, vu, vs] }).objs.size = none := I5.hok.fresh (Nat.le_refl _)
    have tk := k1.trans k2
    rcases hc with ⟨rfl, hq⟩ | ⟨rfl, hq⟩
    · rw [pick_fwd]
      refine ⟨.ref _, _, I5.laid (t' := s4.toks) (o := .lst xs) (fun b ob q => Heap.get?_push_of_some _ q) (Nat.le_refl _) ⟨hz, _, 0, r, Heap.get?_push_size _ rfl⟩, rfl, ?_⟩
      exact pv_lst tk hn g am2 hq
    · rw [PySem.W.krv_pick]
      refine ⟨.ref _, _, I5.laid (t' := s4.toks) (o := .lst xs.reverse) (fun b ob q => Heap.get?_push_of_some _ q) (Nat.le_refl _) ⟨by rw [List.length_reverse]; exact hz, _, 0, r.reverse, Heap.get?_push_size _ rfl⟩, rfl, ?_⟩
      exact pv_lst tk hn g.reverse am2 hq
end
end DL

set_option maxHeartbeats 2000000
/-! W6: displayed dicts. -/
namespace DL
open PySem L2
section
variable {X : Cx} {e : Expr} {Γ : G} {m : M} {pos : Pos}
def trsOf (X : Cx) : List (Option Expr) → List Expr → List (TE × TE)
  | some k :: ks, v :: vs => (WE X k, WE X v) :: trsOf X ks vs
  | _, _ => []
def DPs (X : Cx) : List (Option Expr) → List Expr → G → M → (List (D × D) → M → Prop) → Prop
  | [], [], _, m, Q => Q [] m
  | some k :: ks, v :: vs, Γ, m, Q => DE X k Γ m fun d m1 => DE X v Γ m1 fun e m2 => DPs X ks vs Γ m2 fun ps m3 => Q ((d, e) :: ps) m3
  | _, _, _, _, _ => False
inductive FzP (H : Hp) : List (V × V) → List (D × D) → Prop
  | nil : FzP H [] []
  | cons {v w : V} {d e : D} {ps qs} : Fz H v d → Fz H w e → FzP H ps qs → FzP H ((v, w) :: ps) ((d, e) :: qs)
theorem FzP.mono {H H' : Hp} (k : TK H H') : ∀ {ps qs}, FzP H ps qs → FzP H' ps qs
  | _, _, .nil => .nil
  | _, _, .cons a b c => .cons (a.mono k) (b.mono k) (FzP.mono k c)
theorem pps_of : ∀ {keys : List (Option Expr)} {values : List Expr}, keys.all (·.isSome) = true → keys.length = values.length → PPs X pos keys values (trsOf X keys values)
  | [], [], _, _ => pps_nil
  | some k :: ks, v :: vs, h, hl => pps_cons we_pe we_pe (pps_of (by simpa using h) (by simpa using hl))
  | none :: _, _, h, _ => by simp at h
  | [], _ :: _, _, h => by simp at h
  | some _ :: _, [], _, h => by simp at h
theorem WE.kf' {σ : St} {H : Hp} {Q : VK} (h : Kf X.K H → WE X e σ H Q) : WE X e σ H Q := fun pins s I => h (inv_kf I) pins s I
theorem dps_run {σ : St} : ∀ {keys : List (Option Expr)} {values : List Expr} {H H0 : Hp} {m : M} {Q : List (D × D) → M → Prop} {R : List (V × V) → Hp → Prop}, DPs X keys values Γ m Q → At X σ H Γ m → TK H0 H →
    (∀ ps H' qs m', At X σ H' Γ m' → TK H0 H' → FzP H' ps qs → Q qs m' → R ps H') → tPairs (trsOf X keys values) σ H R
  | [], [], H, H0, m, Q, R, h, at_, tk, k => k [] H [] m at_ tk .nil h
  | some k :: ks, v :: vs, H, H0, m, Q, R, h, at_, tk, kk => by
    show WE X k σ H fun x H1 => WE X v σ H1 fun y H2 => tPairs (trsOf X ks vs) σ H2 fun ps H3 => R ((x, y) :: ps) H3
    refine DE.thn h at_ fun x H1 d m1 at1 k1 f1 h1 => ?_
    refine DE.thn h1 at1 fun y H2 e m2 at2 k2 f2 h2 => ?_
    exact dps_run h2 at2 (TK.refl _) fun ps H3 qs m3 at3 k3 f3 q3 => kk _ H3 _ m3 at3 (tk.trans (k1.trans (k2.trans k3))) (.cons (f1.mono (k2.trans k3)) (f2.mono k3) f3) q3
  | none :: _, _, _, _, _, _, _, h, _, _, _ => by simp [DPs] at h
  | [], _ :: _, _, _, _, _, _, h, _, _, _ => by simp [DPs] at h
  | some _ :: _, [], _, _, _, _, _, h, _, _, _ => by simp [DPs] at h
theorem fzp_keys {H : Hp} : ∀ {kvs : List (Key × D)} {ps : List (V × V)}, FzP H ps (kvs.map fun kv => (kD kv.1, kv.2)) → ∃ ks : List (Key × V), ps = ks.map (fun kv => (kV kv.1, kv.2)) ∧ Paired (KR H) ks kvs
  | [], _, h => by cases h; exact ⟨[], rfl, .nil⟩
  | kv :: kvs, _, h => by
    rw [List.map_cons] at h
    cases h with
    | cons a b c =>
      obtain ⟨ks, e, p⟩ := fzp_keys c
      have e1 := fz_key a
      subst e1 e
      exact ⟨(kv.1, _) :: ks, rfl, .cons ⟨rfl, b⟩ p⟩
def mergeD (kvs more : List (Key × D)) : List (Key × D) := more.foldl (fun acc kv => putD acc kv.1 kv.2) kvs
theorem merge_rel {H : Hp} : ∀ {more : List (Key × V)} {more' : List (Key × D)} {kvs : List (Key × V)} {kvs' : List (Key × D)}, Paired (KR H) more more' → Paired (KR H) kvs kvs' → Paired (KR H) (mergeK kvs more) (mergeD kvs' more')
  | _, _, _, _, .nil, h => h
  | _, _, _, _, .cons (a := p) (b := q) r t, h => by
    have e : p.1 = q.1 := r.1
    have h2 := put_rel p.1 r.2 h
    show Paired (KR H) (mergeK (putK _ p.1 p.2) _) (mergeD (putD _ q.1 q.2) _)
    rw [← e]
    exact merge_rel t h2
/-- {k: v, ..} -/
theorem de_disp {keys : List (Option Expr)} {values : List Expr} {Q : D → M → Prop} (hall : keys.all (·.isSome) = true) (hl : keys.length = values.length) (h0 : keys ≠ []) (h15 : keys.length ≤ 15)
    (h : ∀ p, m p = none → DPs X keys values Γ (mup m p (.dK [])) fun ps m2 => m2 p = some (.dK []) ∧ ∃ kvs : List (Key × D), ps = kvs.map (fun kv => (kD kv.1, kv.2)) ∧ kvs.length ≤ 15 ∧ Q (.ref p) (mup m2 p (.dK (mergeD [] kvs)))) : DE X (.Dict keys values pos) Γ m Q := fun σ H at_ => by
  refine WE.of (pe_disp (pps_of hall hl) hall hl h0 h15) ?_
  intro p hp
  have k0 : TK H (upd H p (.dK [])) := TK.new hp
  have am0 : AbsM X.K (upd H p (.dK [])) (mup m p (.dK [])) := AbsM.put (o := .dK []) at_.am k0 ⟨[], upd_same, .nil⟩
  -- the first key is read where p is known to be new
  have start : Kf X.K (upd H p (.dK [])) → tPairs (trsOf X keys values) σ (upd H p (.dK [])) fun ps H2 => H2 p = some (.dK []) ∧ ∃ kvs : List (Key × V), ps = kvs.map (fun kv => (kV kv.1, kv.2)) ∧ kvs.length ≤ 15 ∧ PV X.K H Q (.ref p) (upd H2 p (.dK (mergeK [] kvs))) := fun kf => by
    have hm := at_.am.free hp (kf p _ upd_same)
    refine dps_run (h p hm) ⟨kf, at_.g.mono k0, am0⟩ (TK.refl _) fun ps H2 qs m2 at2 k2 f2 q2 => ?_
    obtain ⟨hpm, kvs, rfl, h5, q⟩ := q2
    obtain ⟨ks, e1, rel⟩ := fzp_keys f2
    obtain ⟨ks0, hk0, r0⟩ := at2.am _ _ hpm
    cases r0
    have hlen : ks.length ≤ 15 := by rw [paired_len rel]; exact h5
    refine ⟨hk0, ks, e1, hlen, fun kf2 => ?_⟩
    have k3 : TK H2 (upd H2 p (.dK (mergeK [] ks))) := TK.put hk0 (fun _ z => nomatch z)
    exact ⟨k0.trans (k2.trans k3), _, _, .ref p, AbsM.put (o := .dK (mergeD [] kvs)) at2.am k3 ⟨_, upd_same, merge_rel (KRs.mono k3 rel) .nil⟩, q⟩
  clear h h15
  cases keys with
  | nil => exact absurd rfl h0
  | cons k ks =>
    cases values with
    | nil => exact absurd hl (by simp)
    | cons v vs =>
      cases k with
      | none => exact absurd hall (by simp)
      | some k =>
        show WE X k σ (upd H p (.dK [])) _
        exact WE.kf' fun kf => start kf
end
end DL
namespace DL
open PySem L2
section
variable {X : Cx} {m : M} {Q : D → M → Prop}
theorem inV_strs (x : Str) : ∀ ss : List Str, inV (.str x) (ss.map V.str) = decide (x ∈ ss)
  | [] => by simp [inV]
  | y :: ss => by
    have ih := inV_strs x ss
    unfold inV at ih ⊢
    rw [List.map_cons, List.any_cons, ih]
    by_cases h : y = x
    · subst h; simp [eqV]
    · have h' : ¬ x = y := fun e => h e.symm
      simp [eqV, h, h', List.mem_cons]
/-- a text in a tuple of texts -/
theorem o2_inst {x : Str} {ss : List Str} {ds : List D} (e : ds = ss.map D.str) (q : Q (.bl (decide (x ∈ ss))) m) : O2 X (compareOp .In) (.str x) (.tup ds) m Q := O2.of op_in_seq fun v w H H0 tk kf f1 f2 am => by
  subst e
  cases f1
  cases f2 with
  | tup h1 g1 =>
    have e := g1.strs
    subst e
    refine ⟨_, _, rfl, .inr (SqT.of h1), rfl, by simp [flatV], ?_⟩
    show PV X.K H0 Q (.bl (if false = true then _ else _)) H
    rw [if_neg Bool.false_ne_true, inV_strs]
    exact PV.mk tk (.bl _) am q
/-- a text in a list of texts -/
theorem o2_insl {x : Str} {ss : List Str} {p : Addr} (h : m p = some (.lst (ss.map D.str))) (q : Q (.bl (decide (x ∈ ss))) m) : O2 X (compareOp .In) (.str x) (.ref p) m Q := O2.of op_in_seq fun v w H H0 tk kf f1 f2 am => by
  cases f1
  cases f2
  obtain ⟨xs, hx, g⟩ := am _ _ h
  have e := g.strs
  subst e
  refine ⟨_, _, rfl, .inl (SqL.of hx), rfl, by simp [flatV], ?_⟩
  show PV X.K H0 Q (.bl (if false = true then _ else _)) H
  rw [if_neg Bool.false_ne_true, inV_strs]
  exact PV.mk tk (.bl _) am q
end
end DL

set_option maxHeartbeats 2000000
/-! PA: the text by places; what every body has; short words. -/
namespace SC
open PySem L2 DL
def top (i : Nat) : Stmt := PySem.Challenge.pw_slipcatch_k12_whole_meets_and_trails.main.body.getD i (.Pass ⟨0, 0, 0, 0⟩)

/-- facts of a scope, once -/
structure Sf (N ex ps : List Str) (sc : Scope) : Prop where
  fs : FnScope (N ++ ex) ps sc
  vis : ∀ x ∈ N, sc.names.lookup x = some .local ∨ sc.names.lookup x = some .cell
  dbg : ∀ x ∈ N, (x == ("__debug__" : Str)) = false ∧ (x == ("__classdict__" : Str)) = false
theorem sf_mk {N ex ps : List Str} {sc : Scope} (h : FnScope (N ++ ex) ps sc) (h2 : (N.all fun x => (sc.names.lookup x == some .local || sc.names.lookup x == some .cell) && !(x == ("__debug__" : Str)) && !(x == ("__classdict__" : Str))) = true) : Sf N ex ps sc := by
  rw [List.all_eq_true] at h2
  refine ⟨h, fun x hx => ?_, fun x hx => ?_⟩
  · have := h2 x hx
    simp only [Bool.and_eq_true, Bool.or_eq_true, beq_iff_eq] at this
    exact this.1.1
  · have := h2 x hx
    simp only [Bool.and_eq_true, Bool.not_eq_true'] at this
    exact ⟨this.1.2, this.2⟩
/-- the built-ins that the module does not hide -/
structure Tx (mg : Str → Option Value) : Prop where
  list : mg "list" = none
  reversed : mg "reversed" = none
  range : mg "range" = none
  len : mg "len" = none
  enumerate : mg "enumerate" = none
  int : mg "int" = none
  isinstance : mg "isinstance" = none
  repr : mg "repr" = none
  tuple : mg "tuple" = none
  sum : mg "sum" = none
  min : mg "min" = none
  max : mg "max" = none
  sorted : mg "sorted" = none
  bool : mg "bool" = none
section
variable {P : Program} {w : World} {K : PySem.W.Frag} {mg : Str → Option Value} {base : Heap} {N ex ps : List Str} {qual : Str} {sc : Scope} {f : Addr} {cd : Value} {A : Around} {outer : List Env} {s : Shared} {H : Hp} {Γ : G} {m : M} {pos : Pos}
theorem apl {n : Nat} {x : Str} {N ex : List Str} (h : N[n]? = some x) : (N ++ ex)[n]? = some x := by rw [List.getElem?_append_left (List.getElem?_eq_some_iff.mp h).1]; exact h
/-- a name of the def is read -/
theorem v (S : Sf N ex ps sc) (n : Nat) {x : Str} {d : D} {Q : D → M → Prop} (e : Γ[n]? = some (some d)) (q : Q d m) (hN : N[n]? = some x := by rfl) : DE (bx P w K mg base (N ++ ex) qual sc f cd A outer s H) (.Name x pos) Γ m Q :=
  de_v n (apl hN) (by rcases S.vis x (List.mem_of_getElem? hN) with h | h; exact .inl h; exact .inr (.inl h)) (S.dbg x (List.mem_of_getElem? hN)) e q
/-- x = e -/
theorem st (S : Sf N ex ps sc) (n : Nat) {x : Str} {e : Expr} {p2 : Pos} {E : DEnds} (h : DE (bx P w K mg base (N ++ ex) qual sc f cd A outer s H) e Γ m fun d m1 => E.nx (Γ.set n (some d)) m1) (hN : N[n]? = some x := by rfl)
    (hs : swapsWith e (some (.Name x p2)) pos.line (bx P w K mg base (N ++ ex) qual sc f cd A outer s H).env = pure false := by rfl) : DS (bx P w K mg base (N ++ ex) qual sc f cd A outer s H) (.Assign [.Name x p2] e pos) Γ m E :=
  ds_set n S.fs.nd (apl hN) (S.vis x (List.mem_of_getElem? hN)) (.inl rfl) h hs
theorem p0 : PassesOwn (model (bx P w K mg base N qual sc f cd A outer s H).prog (bx P w K mg base N qual sc f cd A outer s H).w) (bx P w K mg base N qual sc f cd A outer s H).A (bx P w K mg base N qual sc f cd A outer s H).env (bx P w K mg base N qual sc f cd A outer s H).xe := PassesOwn.never
/-- x = e, then the rest -/
theorem stc (S : Sf N ex ps sc) (n : Nat) {x : Str} {e : Expr} {p2 : Pos} {E : DEnds} {sts : List Stmt} (h : DE (bx P w K mg base (N ++ ex) qual sc f cd A outer s H) e Γ m fun d m1 => DB (bx P w K mg base (N ++ ex) qual sc f cd A outer s H) sts (Γ.set n (some d)) m1 E) (hN : N[n]? = some x := by rfl)
    (hs : swapsWith e (some (.Name x p2)) pos.line (bx P w K mg base (N ++ ex) qual sc f cd A outer s H).env = pure false := by rfl) : DB (bx P w K mg base (N ++ ex) qual sc f cd A outer s H) (.Assign [.Name x p2] e pos :: sts) Γ m E :=
  db_cons (st S n h hN hs)
/-- a target name -/
theorem tg (S : Sf N ex ps sc) (n : Nat) {x : Str} {d : D} {Q : G → M → Prop} (q : Q (Γ.set n (some d)) m) (hN : N[n]? = some x := by rfl) : DG (bx P w K mg base (N ++ ex) qual sc f cd A outer s H) (.Name x pos) d Γ m Q :=
  dg_name n S.fs.nd (apl hN) (S.vis x (List.mem_of_getElem? hN)) (.inl rfl) q
/-- a pair of target names -/
theorem tg2 (S : Sf N ex ps sc) (n k : Nat) {x y : Str} {p1 p2 : Pos} {kt : Nat} {d d' : D} {Q : G → M → Prop} (q : Q ((Γ.set n (some d)).set k (some d')) m) (hN : N[n]? = some x := by rfl) (hN' : N[k]? = some y := by rfl) :
    DG (bx P w K mg base (N ++ ex) qual sc f cd A outer s H) (.Tuple [.Name x p1, .Name y p2] kt pos) (.tup [d, d']) Γ m Q :=
  dg_tup rfl (dgs_cons (tg S n (dgs_cons (tg S k (dgs_nil q) hN') rfl) hN) rfl) (n := 2) rfl rfl rfl
end
section
variable {X : Cx} {e : Expr} {es : List Expr} {Γ : G} {m : M} {pos p : Pos} {Q : D → M → Prop}
/-- a name within a comprehension's block -/
theorem vb (n : Nat) {x : Str} {d : D} (e : Γ[n]? = some (some d)) (q : Q d m) (hN : X.N[n]? = some x := by rfl) (hv : Vis X.env.scope x := by first | exact Or.inl rfl | exact Or.inr (Or.inl rfl) | exact Or.inr (Or.inr rfl))
    (hd : (x == ("__debug__" : Str)) = false := by decide) (hcd : (x == ("__classdict__" : Str)) = false := by decide) : DE X (.Name x pos) Γ m Q := de_v n hN hv ⟨hd, hcd⟩ e q
/-- return e, at the end of a row -/
theorem rt1 {E : DEnds} (h : DE X e Γ m E.rt) : DB X [.Return (some e) pos] Γ m E := db_one (ds_ret h)
/-- if, no else -/
theorem if0 {E : DEnds} {c : Expr} {bs sts : List Stmt} (h : DT X c Γ m fun t m1 => (t = true → DB X bs Γ m1 { E with nx := fun Γ' m' => DB X sts Γ' m' E }) ∧ (t = false → DB X sts Γ m1 E)) : DB X (.If c bs [] pos :: sts) Γ m E :=
  db_cons (ds_if (h.imp fun _ _ q => ⟨q.1, fun z => db_nil (q.2 z)⟩))
/-- if, with else -/
theorem if1 {E : DEnds} {c : Expr} {bs cs sts : List Stmt} (h : DT X c Γ m fun t m1 => (t = true → DB X bs Γ m1 { E with nx := fun Γ' m' => DB X sts Γ' m' E }) ∧ (t = false → DB X cs Γ m1 { E with nx := fun Γ' m' => DB X sts Γ' m' E })) : DB X (.If c bs cs pos :: sts) Γ m E :=
  db_cons (ds_if h)
theorem ex1 {E : DEnds} {sts : List Stmt} (h : DE X e Γ m fun _ m1 => DB X sts Γ m1 E) (hs : swapsWith e none pos.line X.env = pure false := by rfl) : DB X (.Expr e pos :: sts) Γ m E := db_cons (ds_expr h hs)
theorem xi {P : Int → Prop} {i : Int} (h : P i) : ∃ j, D.int i = D.int j ∧ P j := ⟨i, rfl, h⟩
theorem xt {P : List D → Prop} {l : List D} (h : P l) : ∃ j, D.tup l = D.tup j ∧ P j := ⟨l, rfl, h⟩
theorem xb {P : Bool → Prop} {b : Bool} (h : P b) : ∃ j, D.bl b = D.bl j ∧ P j := ⟨b, rfl, h⟩
theorem tu {ds : List D} (h : Q (.tup ds) m) (hl : Nat.ble ds.length sizeLine = true := by rfl) : TupQ Q ds m := ⟨Nat.le_of_ble_eq_true hl, h⟩
theorem li {ds : List D} (h : ∀ p, m p = none → Q (.ref p) (mup m p (.lst ds))) (hl : Nat.ble ds.length sizeLine = true := by rfl) : LstQ Q ds m := ⟨Nat.le_of_ble_eq_true hl, h⟩
theorem c_len (hm : X.mg "len" = none) (h : DA X (e :: es) Γ m fun ds m1 => OC X (.builtin "len") ds m1 Q) (hg : Gl X "len" := by rfl) (he : starEach (e :: es) X.env = (false, eval e X.env) :: starEach es X.env := by rfl) (hpl : (backTo pos (starEach es X.env)).any (·.1) = false := by rfl) :
    DE X (.Call (.Name "len" p) (e :: es) [] pos) Γ m Q := de_callB hg hm (by decide +kernel) (by decide) (by decide) h he hpl
theorem c_list (hm : X.mg "list" = none) (h : DA X (e :: es) Γ m fun ds m1 => OC X (.type "list") ds m1 Q) (hg : Gl X "list" := by rfl) (he : starEach (e :: es) X.env = (false, eval e X.env) :: starEach es X.env := by rfl) (hpl : (backTo pos (starEach es X.env)).any (·.1) = false := by rfl) :
    DE X (.Call (.Name "list" p) (e :: es) [] pos) Γ m Q := de_callT hg hm (by decide +kernel) (by decide) (by decide) h he hpl
theorem c_tuple (hm : X.mg "tuple" = none) (h : DA X (e :: es) Γ m fun ds m1 => OC X (.type "tuple") ds m1 Q) (hg : Gl X "tuple" := by rfl) (he : starEach (e :: es) X.env = (false, eval e X.env) :: starEach es X.env := by rfl) (hpl : (backTo pos (starEach es X.env)).any (·.1) = false := by rfl) :
    DE X (.Call (.Name "tuple" p) (e :: es) [] pos) Γ m Q := de_callT hg hm (by decide +kernel) (by decide) (by decide) h he hpl
theorem c_int (hm : X.mg "int" = none) (h : DA X (e :: es) Γ m fun ds m1 => OC X (.type "int") ds m1 Q) (hg : Gl X "int" := by rfl) (he : starEach (e :: es) X.env = (false, eval e X.env) :: starEach es X.env := by rfl) (hpl : (backTo pos (starEach es X.env)).any (·.1) = false := by rfl) :
    DE X (.Call (.Name "int" p) (e :: es) [] pos) Γ m Q := de_callT hg hm (by decide +kernel) (by decide) (by decide) h he hpl
theorem c_sum (hm : X.mg "sum" = none) (h : DA X (e :: es) Γ m fun ds m1 => OC X (.builtin "sum") ds m1 Q) (hg : Gl X "sum" := by rfl) (he : starEach (e :: es) X.env = (false, eval e X.env) :: starEach es X.env := by rfl) (hpl : (backTo pos (starEach es X.env)).any (·.1) = false := by rfl) :
    DE X (.Call (.Name "sum" p) (e :: es) [] pos) Γ m Q := de_callB hg hm (by decide +kernel) (by decide) (by decide) h he hpl
theorem c_min (hm : X.mg "min" = none) (h : DA X (e :: es) Γ m fun ds m1 => OC X (.builtin "min") ds m1 Q) (hg : Gl X "min" := by rfl) (he : starEach (e :: es) X.env = (false, eval e X.env) :: starEach es X.env := by rfl) (hpl : (backTo pos (starEach es X.env)).any (·.1) = false := by rfl) :
    DE X (.Call (.Name "min" p) (e :: es) [] pos) Γ m Q := de_callB hg hm (by decide +kernel) (by decide) (by decide) h he hpl
theorem c_max (hm : X.mg "max" = none) (h : DA X (e :: es) Γ m fun ds m1 => OC X (.builtin "max") ds m1 Q) (hg : Gl X "max" := by rfl) (he : starEach (e :: es) X.env = (false, eval e X.env) :: starEach es X.env := by rfl) (hpl : (backTo pos (starEach es X.env)).any (·.1) = false := by rfl) :
    DE X (.Call (.Name "max" p) (e :: es) [] pos) Γ m Q := de_callB hg hm (by decide +kernel) (by decide) (by decide) h he hpl
theorem c_repr (hm : X.mg "repr" = none) (h : DA X (e :: es) Γ m fun ds m1 => OC X (.builtin "repr") ds m1 Q) (hg : Gl X "repr" := by rfl) (he : starEach (e :: es) X.env = (false, eval e X.env) :: starEach es X.env := by rfl) (hpl : (backTo pos (starEach es X.env)).any (·.1) = false := by rfl) :
    DE X (.Call (.Name "repr" p) (e :: es) [] pos) Γ m Q := de_callB hg hm (by decide +kernel) (by decide) (by decide) h he hpl
theorem c_sorted (hm : X.mg "sorted" = none) (h : DA X (e :: es) Γ m fun ds m1 => OC X (.builtin "sorted") ds m1 Q) (hg : Gl X "sorted" := by rfl) (he : starEach (e :: es) X.env = (false, eval e X.env) :: starEach es X.env := by rfl) (hpl : (backTo pos (starEach es X.env)).any (·.1) = false := by rfl) :
    DE X (.Call (.Name "sorted" p) (e :: es) [] pos) Γ m Q := de_callB hg hm (by decide +kernel) (by decide) (by decide) h he hpl
/-- an own def, by its name -/
theorem fc {x : Str} {k j : Nat} {sp : DSp} (C : Cd X.prog X.w X.K X.mg X.base k x sp) (hr : Room j X.A) (hgd : X.A.guards = some []) (h : DA X (e :: es) Γ m fun ds m1 => sp ds m1 Q) (hkj : k ≤ j := by decide) (hg : Gl X x := by rfl) (hdb : (x == ("__debug__" : Str)) = false := by decide)
    (he : starEach (e :: es) X.env = (false, eval e X.env) :: starEach es X.env := by rfl) (hpl : (backTo pos (starEach es X.env)).any (·.1) = false := by rfl) : DE X (.Call (.Name x p) (e :: es) [] pos) Γ m Q := de_call C (hr.mono hkj) hgd hg hdb h he hpl
theorem de_isinT {T : Str} {tn : String} {p2 : Pos} (hm : X.mg "isinstance" = none) (hmT : X.mg T = none) (hvT : bootBuiltins T = some (.type tn)) (hn : T ≠ "__name__") (hd : (T == ("__debug__" : Str)) = false)
    (h : DE X e Γ m fun d m1 => ∃ sn c, TyD m1 d sn ∧ kitB sn tn = some c ∧ Q (.bl c) m1) (hgi : Gl X "isinstance" := by rfl) (hgT : Gl X T := by rfl)
    (hs : starEach [e, .Name T p2] X.env = (false, eval e X.env) :: starEach [.Name T p2] X.env := by rfl) : DE X (.Call (.Name "isinstance" p) [e, .Name T p2] [] pos) Γ m Q := de_isin hgi hm hgT hmT hvT hn hd h hs
/-- a comprehension's target name; a pair of names -/
theorem tb (nd : X.N.Nodup) (n : Nat) {x : Str} {vs : List Nat} {d : D} {Q : G → M → Prop} (q : Q (Γ.set n (some d)) m) (hN : X.N[n]? = some x := by rfl) (hx : X.env.scope.names.lookup x = some .local := by rfl) (hv : n ∈ vs := by decide) : DGv X (.Name x pos) vs d Γ m Q :=
  dgv_name n nd hN (.inl hx) (.inr hx) hv q
theorem tb2 (nd : X.N.Nodup) (n k : Nat) {x y : Str} {p1 p2 : Pos} {kt : Nat} {vs : List Nat} {d d' : D} {Q : G → M → Prop} (q : Q ((Γ.set n (some d)).set k (some d')) m) (hc : X.calm = true := by rfl) (hN : X.N[n]? = some x := by rfl) (hx : X.env.scope.names.lookup x = some .local := by rfl) (hv : n ∈ vs := by decide)
    (hN' : X.N[k]? = some y := by rfl) (hx' : X.env.scope.names.lookup y = some .local := by rfl) (hv' : k ∈ vs := by decide) : DGv X (.Tuple [.Name x p1, .Name y p2] kt pos) vs (.tup [d, d']) Γ m Q :=
  dgv_pair n k hc nd hN (.inl hx) (.inr hx) hv hN' (.inl hx') (.inr hx') hv' q
/-- the room that built-ins want -/
theorem u64 {A : Around} {k : Nat} (hr : Room k A) : A.units + 64 < cLine := hr.units
theorem u1 {A : Around} {k : Nat} (hr : Room k A) : A.units + 1 < cLine := hu_of hr
theorem u128 {A : Around} {k : Nat} (hr : Room k A) : A.units + 128 < cLine := by have := hr.un; omega
end
end SC

set_option maxHeartbeats 2000000
/-! MA: houses as plain data. -/
namespace SC
open PySem L2 DL

inductive W where
  | say | slip | pass | leave | stop | on | off | call | row | pick | again | when | clean | catch
  deriving DecidableEq
def W.s : W → Str
  | .say => "say" | .slip => "slip" | .pass => "pass" | .leave => "leave" | .stop => "stop" | .on => "on" | .off => "off" | .call => "call"
  | .row => "row" | .pick => "pick" | .again => "again" | .when => "when" | .clean => "clean" | .catch => "catch"
/-- a deed: the kind that its taker names (of a taker's deed), its word, what it names, the deeds within it -/
inductive T where
  | mk (lab : Str) (w : W) (a : Str) (ks : List T)
namespace T
def lab : T → Str | .mk l _ _ _ => l
def w : T → W | .mk _ w _ _ => w
def a : T → Str | .mk _ _ a _ => a
def ks : T → List T | .mk _ _ _ ks => ks
end T
/-- the takers of a catch -/
def takD : List T → List D → List D
  | t :: ts, d :: ds => .tup [.str t.lab, d] :: takD ts ds
  | _, _ => []
/-- what stands behind a deed's word -/
def encTl (w : W) (a : Str) (ks : List T) (ds : List D) : List D :=
  match w with
  | .row | .pick | .again | .clean => ds
  | .when => .str a :: ds
  | .catch => ds.take 1 ++ takD (ks.drop 1) (ds.drop 1)
  | .say | .slip | .on | .off | .call => [.str a]
  | .pass | .leave | .stop => []
def encW (w : W) (a : Str) (ks : List T) (ds : List D) : D := .tup (.str w.s :: encTl w a ks ds)
mutual
def enc : T → D
  | .mk _ w a ks => encW w a ks (encs ks)
def encs : List T → List D
  | [] => []
  | t :: ts => enc t :: encs ts
end
theorem encs_map : ∀ ks : List T, encs ks = ks.map enc
  | [] => rfl
  | t :: ts => by rw [encs, encs_map ts, List.map_cons]
theorem enc_eq (t : T) : enc t = encW t.w t.a t.ks (t.ks.map enc) := by
  cases t with
  | mk l w a ks => rw [enc, encs_map]; rfl
def T.tl (t : T) : List D := encTl t.w t.a t.ks (t.ks.map enc)
theorem enc_tl (t : T) : enc t = .tup (.str t.w.s :: t.tl) := enc_eq t
theorem takD_len : ∀ (ks : List T), (takD ks (ks.map enc)).length = ks.length
  | [] => rfl
  | t :: ts => by simp [takD, takD_len ts]
theorem takD_map : ∀ (ks : List T), takD ks (ks.map enc) = ks.map fun t => .tup [.str t.lab, enc t]
  | [] => rfl
  | t :: ts => by simp [takD, takD_map ts]
/-- the word is one with deeds in a row behind it -/
def W.isNode : W → Bool
  | .row | .pick | .again | .clean => true
  | _ => false
def W.dec (x : Str) : Option W := [W.say, .slip, .pass, .leave, .stop, .on, .off, .call, .row, .pick, .again, .when, .clean, .catch].find? fun w => decide (w.s = x)
theorem W.dec_s (w : W) : W.dec w.s = some w := by cases w <;> decide +kernel
theorem W.s_inj {w u : W} (h : w.s = u.s) : w = u := by
  have := congrArg W.dec h
  rw [W.dec_s, W.dec_s] at this
  exact Option.some.inj this
theorem of_s {w : W} (u : W) (h : decide (w.s = u.s) = true) : w = u := W.s_inj (of_decide_eq_true h)
theorem of_ns {w : W} (u : W) (h : decide (w.s = u.s) = false) : w ≠ u := fun e => of_decide_eq_false h (congrArg W.s e)
theorem of_nn {w : W} (u : W) (h : (!decide (w.s = u.s)) = true) : w ≠ u := of_ns u (by simpa using h)
theorem of_nnF {w : W} (u : W) (h : (!decide (w.s = u.s)) = false) : w = u := of_s u (by simpa using h)
theorem dec_s (w u : W) : decide (w.s = u.s) = decide (w = u) := by
  by_cases h : w = u
  · subst h; simp
  · rw [decide_eq_false h]; exact decide_eq_false fun e => h (W.s_inj e)
theorem isNode_mem (w : W) : decide (w.s ∈ ([W.row.s, W.pick.s, W.again.s, W.clean.s] : List Str)) = w.isNode := by
  rw [show w.isNode = decide (w ∈ [W.row, W.pick, W.again, W.clean]) by cases w <;> rfl]
  by_cases h : w ∈ [W.row, W.pick, W.again, W.clean]
  · rw [decide_eq_true h]
    refine decide_eq_true ?_
    have := List.mem_map_of_mem (f := W.s) h
    exact this
  · rw [decide_eq_false h]
    refine decide_eq_false fun e => h ?_
    have e' : w.s ∈ [W.row, W.pick, W.again, W.clean].map W.s := e
    obtain ⟨u, hu, e2⟩ := List.mem_map.mp e'
    rw [← W.s_inj e2]; exact hu

/-! ### places in lists -/
theorem ix0 {α : Type} {x : α} {l : List α} : atI (x :: l) 0 = some x := atI_nat (xs := x :: l) (j := 0) rfl
theorem ix1 {α : Type} {x y : α} {l : List α} : atI (x :: y :: l) 1 = some y := atI_nat (xs := x :: y :: l) (j := 1) rfl
theorem ix2 {α : Type} {x y z : α} {l : List α} : atI (x :: y :: z :: l) 2 = some z := atI_nat (xs := x :: y :: z :: l) (j := 2) rfl
theorem ix3 {α : Type} {x y z u : α} {l : List α} : atI (x :: y :: z :: u :: l) 3 = some u := atI_nat (xs := x :: y :: z :: u :: l) (j := 3) rfl

/-! ### cuts -/
theorem cut_from {α : Type} (l : List α) (k : Nat) (h : k ≤ l.length) : cutD l (some (k : Int)) none = l.drop k := by
  unfold cutD
  rw [HT.sIx_nat, HT.sIx_none, Nat.min_eq_left h]
  exact List.take_of_length_le (by rw [List.length_drop]; exact Nat.le_refl _)
theorem cut_last {α : Type} (l : List α) (x : α) : cutD (l ++ [x]) none (some (-1)) = l := by
  unfold cutD
  have e : HT.sIx (l ++ [x]).length (l ++ [x]).length (some (-1)) = l.length := by
    show (if (-1 : Int) < 0 then ((-1 : Int) + ((l ++ [x]).length : Int)).toNat else min ((-1 : Int)).toNat (l ++ [x]).length) = l.length
    rw [if_pos (by decide), List.length_append, List.length_singleton]
    omega
  rw [e, HT.sIx_none, List.drop_zero, Nat.sub_zero, List.take_left]
theorem cut_upto {α : Type} (l : List α) (k : Nat) (h : k ≤ l.length) : cutD l none (some (k : Int)) = l.take k := by
  unfold cutD
  rw [HT.sIx_nat, HT.sIx_none, Nat.min_eq_left h, List.drop_zero, Nat.sub_zero]

/-- how a deed is made -/
def T.okT (t : T) : Prop := match t.w with
  | .row => True
  | .pick => t.ks ≠ []
  | .again => t.ks.length = 1
  | .clean | .when => t.ks.length = 2
  | .catch => t.ks ≠ []
  | _ => t.ks = []
mutual
/-- all deeds with their places, p the first one's -/
def walkT (p : List Key) : T → List (List Key × T)
  | .mk l w a ks => (p, .mk l w a ks) :: walkTs p 0 ks
def walkTs (p : List Key) (i : Nat) : List T → List (List Key × T)
  | [] => []
  | t :: ts => walkT (p ++ [.inl (i : Int)]) t ++ walkTs p (i + 1) ts
end
theorem walkT_eq (p : List Key) (t : T) : walkT p t = (p, t) :: walkTs p 0 t.ks := by cases t; rw [walkT]; rfl
structure House where
  kinds : List (Str × Str)
  marks : List Str
  rooms : List (Str × T)
def encPl (p : List Key) : D := .tup (p.map kD)
def encPT (x : List Key × T) : D := .tup [encPl x.1, enc x.2]
def encH (h : House) : D := .tup [.tup (h.kinds.map fun k => .tup [.str k.1, .str k.2]), .tup (h.marks.map .str), .tup (h.rooms.map fun r => .tup [.str r.1, enc r.2])]
def walkH (h : House) : List (List Key × T) := h.rooms.flatMap fun r => walkT [.inr r.1] r.2
def slipsH (h : House) : List (List Key) := ((walkH h).filter fun x => x.2.w == .slip).map (·.1)
end SC

set_option maxHeartbeats 2000000
/-! PB: comprehensions over coded lists; the store. -/
namespace SC
open PySem L2 DL
theorem _root_.DL.Sub.mupp {m m' : M} {r : Addr} {o : DO} (h : Sub m m') : Sub (mup m r o) (mup m' r o) := fun a x e => by
  by_cases ha : a = r
  · subst ha; rw [mup_same] at e ⊢; exact e
  · rw [mup_ne ha] at e ⊢; exact h a x e
theorem mup_none {m : M} {p r : Addr} {o : DO} (h : mup m p o r = none) : m r = none ∧ r ≠ p := by
  have : r ≠ p := fun e => by subst e; rw [mup_same] at h; cases h
  exact ⟨by rw [mup_ne this] at h; exact h, this⟩
theorem mup_some {m : M} {p r : Addr} {o u : DO} (h : m r = some u) (hp : m p = none) : mup m p o r = some u := by rw [mup_ne (mne h hp)]; exact h
/-- a later list over an earlier one that is not asked any more -/
theorem _root_.DL.Sub.new2 {m : M} {p r : Addr} {o u : DO} (h : m p = none) : Sub (mup m r u) (mup (mup m p o) r u) := Sub.mupp (Sub.new h)
theorem sl100 {n : Nat} (h : n ≤ 100) : n ≤ sizeLine := Nat.le_trans h (by decide)
theorem sl1000 {n : Nat} (h : n ≤ 16777215) : n ≤ sizeLine := Nat.le_trans h (by decide)
section
variable {X : Cx} {tg elt iter c : Expr} {scope : Scope} {Γ : G} {m : M} {pos : Pos} {α : Type}
/-- the turns of a map over a coded list -/
def MapQ (X : Cx) (scope : Scope) (tg elt : Expr) (vs : List Nat) (Γ : G) (xs : List α) (en f : α → D) (R : M → List D → Prop) (ds : List D) (S : M → Prop) (m1 : M) : Prop :=
  ds = xs.map en ∧ xs.length ≤ sizeLine ∧ (∀ p acc, m1 p = none → S (mup m1 p (.lst acc))) ∧
    (∀ p acc x, m1 p = none → x ∈ xs → InBlk X scope fun X' => DGv X' tg vs (en x) (wipeG Γ vs) (mup m1 p (.lst acc)) fun Γ2 m2 => InBlk X scope fun X' => DE X' elt Γ2 m2 fun y m4 => Sub (mup m1 p (.lst acc)) m4 ∧ y = f x) ∧ R m1 (xs.map f)
theorem MapQ.lc {vs : List Nat} {xs : List α} {en f : α → D} {R : M → List D → Prop} {ds : List D} {S : M → Prop} {m1 : M} (h : MapQ X scope tg elt vs Γ xs en f R ds S m1) :
    ∃ J, Lc X scope tg elt [] vs Γ ds S m1 J ∧ ∀ acc, J ds.length acc → R m1 acc := by
  obtain ⟨rfl, hl, hs, ht, hr⟩ := h
  refine ⟨fun i acc => acc = (xs.take i).map f, ⟨by simp, fun i acc hi e => ?_, hs, fun p i d acc hp hd e => ?_⟩, fun acc e => ?_⟩
  · subst e
    rw [List.length_map] at hi
    rw [List.length_map, List.length_take]; omega
  · rw [List.getElem?_map] at hd
    cases hx : xs[i]? with
    | none => rw [hx] at hd; cases hd
    | some x =>
      rw [hx] at hd
      cases hd
      intro s H C cl fp σ H' v at_ fz
      refine (ht p acc x hp (List.mem_of_getElem? hx) s H C cl fp σ H' v at_ fz).mono fun σ2 H2 kf2 q => ⟨q.1, fun kf => ?_⟩
      obtain ⟨k, Γ2, m2, g, am, q⟩ := q.2 kf
      refine ⟨k, Γ2, m2, g, am, fun s1 H1 C1 cl1 fp1 => ⟨fun _ s2 H2 C2 cl2 fp2 => ?_, fun z => nomatch z⟩⟩
      refine (q s2 H2 C2 cl2 fp2).imp fun y m4 ⟨sb, e2⟩ => ⟨sb, ?_⟩
      subst e e2
      rw [List.take_succ, hx, Option.toList_some, List.map_append]; rfl
  · rw [List.length_map, List.take_length] at e
    subst e; exact hr
theorem de_map {Q : D → M → Prop} (own : List (Str × Nat)) (xs : List α) (en f : α → D) (nd : X.N.Nodup) (ok : BlkOk X.N X.env.scope scope own)
    (h : DI X tg iter Γ m fun ds S m1 => MapQ X scope tg elt (own.map (·.2)) Γ xs en f (fun m1 l => ∀ p, m1 p = none → Q (.ref p) (mup m1 p (.lst l))) ds S m1)
    (hc : X.calm = true := by rfl) (hs : ∀ x, foldedSetIterable iter X.env x = pure x := by intro _; rfl) : DE X (.ListComp elt [⟨tg, iter, [], 0⟩] scope pos) Γ m Q :=
  de_lc own hc nd (Nat.zero_le 1) ok (fun σ H at_ => by
    obtain ⟨wi, hi, hw⟩ := h σ H at_
    refine ⟨wi, hi, fun P hp => hw P fun J H1 ds S m1 T a1 a2 a3 a4 a5 a6 a7 a8 q => hp J H1 ds S m1 T a1 a2 a3 a4 a5 a6 a7 a8 ?_⟩
    obtain ⟨J, L, q⟩ := q.lc
    exact ⟨J, L, fun acc p hp j => q acc j p hp⟩) hs
theorem ds_map {E : DEnds} (n : Nat) (own : List (Str × Nat)) (xs : List α) (en f : α → D) {y : Str} {py spos : Pos} (nd : X.N.Nodup) (ok : BlkOk X.N X.env.scope scope own)
    (h : DI X tg iter Γ m fun ds S m1 => MapQ X scope tg elt (own.map (·.2)) Γ xs en f (fun m1 l => ∀ p, m1 p = none → E.nx (Γ.set n (some (.ref p))) (mup m1 p (.lst l))) ds S m1)
    (hN : X.N[n]? = some y := by rfl) (hy : X.env.scope.names.lookup y = some .local := by rfl) (hc : X.calm = true := by rfl)
    (hsw : swapsWith (.ListComp elt [⟨tg, iter, [], 0⟩] scope pos) (some (.Name y py)) spos.line X.env = pure true := by rfl) (hs : ∀ x, foldedSetIterable iter X.env x = pure x := by intro _; rfl) :
    DS X (.Assign [.Name y py] (.ListComp elt [⟨tg, iter, [], 0⟩] scope pos) spos) Γ m E :=
  ds_lc n own hc nd (Nat.zero_le 1) ok hN hy hsw (fun σ H at_ => by
    obtain ⟨wi, hi, hw⟩ := h σ H at_
    refine ⟨wi, hi, fun P hp => hw P fun J H1 ds S m1 T a1 a2 a3 a4 a5 a6 a7 a8 q => hp J H1 ds S m1 T a1 a2 a3 a4 a5 a6 a7 a8 ?_⟩
    obtain ⟨J, L, q⟩ := q.lc
    exact ⟨J, L, fun acc p hp j => q acc j p hp⟩) hs
/-- the turns of a map with a test -/
def FmQ (X : Cx) (scope : Scope) (tg elt c : Expr) (vs : List Nat) (Γ : G) (xs : List α) (en : α → D) (f : α → Option D) (R : M → List D → Prop) (ds : List D) (S : M → Prop) (m1 : M) : Prop :=
  ds = xs.map en ∧ xs.length ≤ sizeLine ∧ (∀ p acc, m1 p = none → S (mup m1 p (.lst acc))) ∧
    (∀ p acc x, m1 p = none → x ∈ xs → InBlk X scope fun X' => DGv X' tg vs (en x) (wipeG Γ vs) (mup m1 p (.lst acc)) fun Γ2 m2 => InBlk X scope fun X' => DT X' c Γ2 m2 fun b m3 => Sub (mup m1 p (.lst acc)) m3 ∧
      (b = true → InBlk X scope fun X' => DE X' elt Γ2 m3 fun y m4 => Sub (mup m1 p (.lst acc)) m4 ∧ f x = some y) ∧ (b = false → f x = none)) ∧ R m1 (xs.filterMap f)
theorem FmQ.lc {vs : List Nat} {xs : List α} {en : α → D} {f : α → Option D} {R : M → List D → Prop} {ds : List D} {S : M → Prop} {m1 : M} (h : FmQ X scope tg elt c vs Γ xs en f R ds S m1) :
    ∃ J, Lc X scope tg elt [c] vs Γ ds S m1 J ∧ ∀ acc, J ds.length acc → R m1 acc := by
  obtain ⟨rfl, hl, hs, ht, hr⟩ := h
  refine ⟨fun i acc => acc = (xs.take i).filterMap f, ⟨by simp, fun i acc hi e => ?_, hs, fun p i d acc hp hd e => ?_⟩, fun acc e => ?_⟩
  · subst e
    rw [List.length_map] at hi
    have := List.length_filterMap_le f (xs.take i)
    rw [List.length_take] at this; omega
  · rw [List.getElem?_map] at hd
    cases hx : xs[i]? with
    | none => rw [hx] at hd; cases hd
    | some x =>
      rw [hx] at hd
      cases hd
      have e1 : (xs.take (i + 1)).filterMap f = (xs.take i).filterMap f ++ (f x).toList := by
        rw [List.take_succ, hx, Option.toList_some, List.filterMap_append]
        congr 1
      intro s H C cl fp σ H' v at_ fz
      refine (ht p acc x hp (List.mem_of_getElem? hx) s H C cl fp σ H' v at_ fz).mono fun σ2 H2 kf2 q => ⟨q.1, fun kf => ?_⟩
      obtain ⟨k, Γ2, m2, g, am, q⟩ := q.2 kf
      refine ⟨k, Γ2, m2, g, am, fun s1 H1 C1 cl1 fp1 => ?_⟩
      refine DT.imp (q s1 H1 C1 cl1 fp1) fun b m3 ⟨sb, qt, qf⟩ => ⟨fun hb s2 H2 C2 cl2 fp2 => (qt hb s2 H2 C2 cl2 fp2).imp fun y m4 ⟨sb2, e2⟩ => ⟨sb2, ?_⟩, fun hb => ⟨sb, ?_⟩⟩
      · subst e; rw [e1, e2]; rfl
      · subst e; rw [e1, qf hb]; simp
  · rw [List.length_map, List.take_length] at e
    subst e; exact hr
theorem de_fmap {Q : D → M → Prop} (own : List (Str × Nat)) (xs : List α) (en : α → D) (f : α → Option D) (nd : X.N.Nodup) (ok : BlkOk X.N X.env.scope scope own)
    (h : DI X tg iter Γ m fun ds S m1 => FmQ X scope tg elt c (own.map (·.2)) Γ xs en f (fun m1 l => ∀ p, m1 p = none → Q (.ref p) (mup m1 p (.lst l))) ds S m1)
    (hc : X.calm = true := by rfl) (hs : ∀ x, foldedSetIterable iter X.env x = pure x := by intro _; rfl) : DE X (.ListComp elt [⟨tg, iter, [c], 0⟩] scope pos) Γ m Q :=
  de_lc own hc nd (Nat.le_refl 1) ok (fun σ H at_ => by
    obtain ⟨wi, hi, hw⟩ := h σ H at_
    refine ⟨wi, hi, fun P hp => hw P fun J H1 ds S m1 T a1 a2 a3 a4 a5 a6 a7 a8 q => hp J H1 ds S m1 T a1 a2 a3 a4 a5 a6 a7 a8 ?_⟩
    obtain ⟨J, L, q⟩ := q.lc
    exact ⟨J, L, fun acc p hp j => q acc j p hp⟩) hs
theorem ds_fmap {E : DEnds} (n : Nat) (own : List (Str × Nat)) (xs : List α) (en : α → D) (f : α → Option D) {y : Str} {py spos : Pos} (nd : X.N.Nodup) (ok : BlkOk X.N X.env.scope scope own)
    (h : DI X tg iter Γ m fun ds S m1 => FmQ X scope tg elt c (own.map (·.2)) Γ xs en f (fun m1 l => ∀ p, m1 p = none → E.nx (Γ.set n (some (.ref p))) (mup m1 p (.lst l))) ds S m1)
    (hN : X.N[n]? = some y := by rfl) (hy : X.env.scope.names.lookup y = some .local := by rfl) (hc : X.calm = true := by rfl)
    (hsw : swapsWith (.ListComp elt [⟨tg, iter, [c], 0⟩] scope pos) (some (.Name y py)) spos.line X.env = pure true := by rfl) (hs : ∀ x, foldedSetIterable iter X.env x = pure x := by intro _; rfl) :
    DS X (.Assign [.Name y py] (.ListComp elt [⟨tg, iter, [c], 0⟩] scope pos) spos) Γ m E :=
  ds_lc n own hc nd (Nat.le_refl 1) ok hN hy hsw (fun σ H at_ => by
    obtain ⟨wi, hi, hw⟩ := h σ H at_
    refine ⟨wi, hi, fun P hp => hw P fun J H1 ds S m1 T a1 a2 a3 a4 a5 a6 a7 a8 q => hp J H1 ds S m1 T a1 a2 a3 a4 a5 a6 a7 a8 ?_⟩
    obtain ⟨J, L, q⟩ := q.lc
    exact ⟨J, L, fun acc p hp j => q acc j p hp⟩) hs
end
end SC

set_option maxHeartbeats 2000000
/-! P1: small defs. -/
namespace SC
open PySem L2 DL
section
variable {P : Program} {w : World} {K : PySem.W.Frag} {mg : Str → Option Value} {base : Heap}

/-! ### _law_digit -/
abbrev sDigit : Stmt := top 19
theorem scDigit : Sf ["tape", "many", "found"] [] ["tape", "many"] (defScope sDigit) := sf_mk ⟨rfl, rfl, rfl, by decide +kernel, rfl, by decide +kernel, by decide +kernel⟩ (by decide +kernel)
def spDigit : DSp := fun ds m Q => ∃ q t n, ds = [.ref q, .int n] ∧ m q = some (.lst [.int t]) ∧ 0 < n ∧ n < 1073741824 ∧ ∀ c t', 0 ≤ c → c < n → Q (.int c) (mup m q (.lst [.int t']))
theorem ok_digit {f : Addr} {fd : FuncData} (d : DefAt K mg "_law_digit" sDigit ["tape", "many"] f fd) : Cd P w K mg base 1 "_law_digit" spDigit := by
  refine d.cd (fd_of d.fn scDigit.fs (fun ds m Q h => ?_) fun cdv A outer s H ds m Q hr hgd h => ?_)
  · obtain ⟨q, t, n, rfl, _⟩ := h; rfl
  · obtain ⟨q, t, n, rfl, hq, h0, h1, h⟩ := h
    conv in defBody _ => whnf
    refine db_cons (st scDigit 2 <| de_op <| de_ix <| v scDigit 0 rfl <| de_int <| ox_l (.inl hq) rfl <| v scDigit 1 rfl <| o2_mod h0 ?_)
    refine db_cons (ds_lput <| de_op <| de_ix <| v scDigit 0 rfl <| de_int <| ox_l (.inl hq) rfl <| v scDigit 1 rfl <| o2_fdiv ⟨h0, h1⟩ <| v scDigit 0 rfl <| de_int ⟨q, 0, 0, _, rfl, rfl, hq, rfl, ?_⟩)
    exact db_one (ds_ret <| v scDigit 2 rfl ⟨_, Sub.refl _, h _ _ (Int.emod_nonneg _ (by omega)) (Int.emod_lt_of_pos _ h0)⟩)

/-! ### _law_cell_at -/
abbrev sCell : Stmt := top 17
theorem scCell : Sf ["script", "k"] [] ["script", "k"] (defScope sCell) := sf_mk ⟨rfl, rfl, rfl, by decide +kernel, rfl, by decide +kernel, by decide +kernel⟩ (by decide +kernel)
def spCell : DSp := fun ds m Q => ∃ q ns k, ds = [.ref q, .int k] ∧ m q = some (.rd (List.map D.int ns)) ∧ 0 ≤ k ∧ ∀ c, Q (.int c) m
theorem atI_map {α β : Type} (f : α → β) {l : List α} {i : Int} {x : α} (h : atI l i = some x) : atI (l.map f) i = some (f x) := by
  obtain ⟨j, h1, h2⟩ := ixN_len (List.length_map (as := l) f) i h
  exact h2 _ (by rw [List.getElem?_map, h1]; rfl)
theorem ok_cell {f : Addr} {fd : FuncData} (T : Tx mg) (d : DefAt K mg "_law_cell_at" sCell ["script", "k"] f fd) : Cd P w K mg base 1 "_law_cell_at" spCell := by
  refine d.cd (fd_of d.fn scCell.fs (fun ds m Q h => ?_) fun cdv A outer s H ds m Q hr hgd h => ?_)
  · obtain ⟨q, t, n, rfl, _⟩ := h; rfl
  · obtain ⟨q, ns, k, rfl, hq, h0, h⟩ := h
    conv in defBody _ => whnf
    refine db_cons (ds_if <| dt_cmp rfl <| v scCell 1 rfl <| c_len T.len <| da_cons <| v scCell 0 rfl <| da_nil <| oc_lenl (.inr hq) <| o2_lt ⟨_, rfl, fun hc => ?_, fun hc => ?_⟩)
    · have hk : k < (ns.length : Int) := by simpa [List.length_map] using hc
      obtain ⟨z, hz⟩ : ∃ z, ns[k.toNat]? = some z := ⟨_, List.getElem?_eq_getElem (show k.toNat < ns.length by omega)⟩
      have e : atI ns k = some z := by
        have := atI_nat (xs := ns) (j := k.toNat) hz
        rwa [Int.toNat_of_nonneg h0] at this
      exact db_one (ds_ret <| de_ix <| v scCell 0 rfl <| v scCell 1 rfl <| ox_l (.inr hq) (atI_map D.int e) ⟨_, Sub.refl _, h _⟩)
    · exact db_nil (db_one (ds_ret <| de_int ⟨_, Sub.refl _, h _⟩))
end
end SC

set_option maxHeartbeats 2000000
/-! MB: walks as plain data. -/
namespace SC
open PySem L2 DL
abbrev PT' := List Key × T
theorem walkTs_append (p : List Key) : ∀ (i : Nat) (l k : List T), walkTs p i (l ++ k) = walkTs p i l ++ walkTs p (i + l.length) k
  | i, [], k => by simp [walkTs]
  | i, t :: l, k => by
    rw [List.cons_append, walkTs, walkTs, walkTs_append p (i + 1) l k, List.append_assoc, List.length_cons]
    congr 3; omega
theorem walkTs_one (p : List Key) (i : Nat) (t : T) : walkTs p i [t] = walkT (p ++ [.inl (i : Int)]) t := by rw [walkTs, walkTs, List.append_nil]
theorem walkTs_take (p : List Key) {ks : List T} {i : Nat} {t : T} (h : ks[i]? = some t) : walkTs p 0 (ks.take (i + 1)) = walkTs p 0 (ks.take i) ++ walkT (p ++ [.inl (i : Int)]) t := by
  have hi : i < ks.length := (List.getElem?_eq_some_iff.mp h).1
  rw [List.take_succ, h, Option.toList_some, walkTs_append, walkTs_one, List.length_take, Nat.min_eq_left (Nat.le_of_lt hi), Nat.zero_add]
theorem walkTs_mem {p : List Key} {x : PT'} : ∀ {i : Nat} {ks : List T}, x ∈ walkTs p i ks ↔ ∃ k t, ks[k]? = some t ∧ x ∈ walkT (p ++ [.inl ((i + k : Nat) : Int)]) t
  | i, [] => by simp [walkTs]
  | i, t :: ks => by
    rw [walkTs, List.mem_append, walkTs_mem]
    constructor
    · rintro (h | ⟨k, u, h1, h2⟩)
      · exact ⟨0, t, rfl, h⟩
      · exact ⟨k + 1, u, h1, by rwa [show i + (k + 1) = i + 1 + k by omega]⟩
    · rintro ⟨k, u, h1, h2⟩
      cases k with
      | zero => cases h1; exact .inl h2
      | succ k => exact .inr ⟨k, u, h1, by rwa [show i + 1 + k = i + (k + 1) by omega]⟩
theorem walkT_self (p : List Key) (t : T) : (p, t) ∈ walkT p t := by rw [walkT_eq]; exact List.mem_cons_self
theorem walkT_kid {p : List Key} {t u : T} {k : Nat} (h : t.ks[k]? = some u) {x : PT'} (hx : x ∈ walkT (p ++ [.inl (k : Int)]) u) : x ∈ walkT p t := by
  rw [walkT_eq]
  exact List.mem_cons_of_mem _ (walkTs_mem.mpr ⟨k, u, h, by rwa [Nat.zero_add]⟩)
theorem walkTs_len_le {p : List Key} : ∀ {i : Nat} {ks : List T} {k : Nat} {t : T}, ks[k]? = some t → (walkT (p ++ [.inl ((i + k : Nat) : Int)]) t).length ≤ (walkTs p i ks).length
  | i, [], k, t, h => by simp at h
  | i, u :: ks, 0, t, h => by cases h; rw [walkTs, List.length_append]; exact Nat.le_add_right _ _
  | i, u :: ks, k + 1, t, h => by
    have := walkTs_len_le (p := p) (i := i + 1) (ks := ks) (k := k) (t := t) h
    rw [walkTs, List.length_append, show i + (k + 1) = i + 1 + k by omega]
    omega
theorem walkT_kid_len {p : List Key} {t u : T} {k : Nat} (h : t.ks[k]? = some u) : (walkT (p ++ [.inl (k : Int)]) u).length < (walkT p t).length := by
  have := walkTs_len_le (p := p) (i := 0) h
  rw [Nat.zero_add] at this
  rw [walkT_eq p t, List.length_cons]; omega
theorem walkTs_long {p : List Key} : ∀ {i : Nat} {ks : List T}, ks.length ≤ (walkTs p i ks).length
  | i, [] => Nat.zero_le _
  | i, u :: ks => by
    have := walkTs_long (p := p) (i := i + 1) (ks := ks)
    rw [walkTs, walkT_eq, List.length_append, List.length_cons, List.length_cons]; omega
theorem walkT_long {p : List Key} {t : T} : t.ks.length < (walkT p t).length := by
  rw [walkT_eq, List.length_cons]
  exact Nat.lt_succ_of_le walkTs_long
/-- the deeds within a deed, with their places -/
def kids (p : List Key) (t : T) : List PT' := t.ks.mapIdx fun i u => (p ++ [.inl (i : Int)], u)
theorem walkTs_kids (p : List Key) : ∀ (i : Nat) (ks : List T), walkTs p i ks = (ks.mapIdx fun j u => (p ++ [(Sum.inl ((i + j : Nat) : Int) : Key)], u)).flatMap fun x => walkT x.1 x.2
  | i, [] => by simp [walkTs]
  | i, t :: ks => by
    rw [walkTs, walkTs_kids p (i + 1) ks, List.mapIdx_cons, List.flatMap_cons]
    congr 3
    funext j u
    rw [show i + 1 + j = i + (j + 1) by omega]
theorem walkT_kids (p : List Key) (t : T) : walkT p t = (p, t) :: (kids p t).flatMap fun x => walkT x.1 x.2 := by
  rw [walkT_eq, walkTs_kids]
  simp [kids]
theorem kids_get {p : List Key} {t : T} {i : Nat} : (kids p t)[i]? = (t.ks[i]?).map fun u => (p ++ [.inl (i : Int)], u) := by simp [kids]
theorem kids_len {p : List Key} {t : T} : (kids p t).length = t.ks.length := by simp [kids]
theorem encPl_app (p : List Key) (k : Int) : D.tup (p.map kD ++ [.int k]) = encPl (p ++ [.inl k]) := by simp [encPl, kD]
theorem kD_int (k : Int) : kD (.inl k) = .int k := rfl
theorem kD_str (k : Str) : kD (.inr k) = .str k := rfl

theorem _root_.DL.Sub.put {m m' : M} {q : Addr} {a b : DO} (h : Sub (mup m q a) m') : Sub (mup m q b) (mup m' q b) := fun c x e => by
  by_cases hc : c = q
  · subst hc; rw [mup_same] at e ⊢; exact e
  · rw [mup_ne hc] at e ⊢; exact h c x (by rw [mup_ne hc]; exact e)
theorem _root_.DL.Sub.at {m m' : M} {q : Addr} {a : DO} (h : Sub (mup m q a) m') : m' q = some a := h q a mup_same
theorem _root_.DL.Sub.old {m m' : M} {q : Addr} {a : DO} (h : Sub (mup m q a) m') (hq : m q = none) : Sub m m' := fun c x e => h c x (by rw [mup_ne (mne e hq)]; exact e)
theorem mapEnc_len {ks : List T} : (ks.map enc).length = ks.length := List.length_map ..
theorem atI_get {α : Type} {l : List α} {i : Nat} {x : α} (h : l[i]? = some x) : atI l (i : Int) = some x := atI_nat (xs := l) (j := i) h
theorem get_map {α β : Type} {f : α → β} {l : List α} {i : Nat} {d : β} (h : (l.map f)[i]? = some d) : ∃ x, l[i]? = some x ∧ d = f x := by
  rw [List.getElem?_map] at h
  cases e : l[i]? with
  | none => rw [e] at h; cases h
  | some x => rw [e] at h; cases h; exact ⟨x, rfl, rfl⟩
theorem rgD_at {lo c : Int} {n i : Nat} {d : D} (h : (rgD lo c n)[i]? = some d) : i < n ∧ d = .int (lo + (i : Int) * c) := by
  have hi : i < n := by
    have := (List.getElem?_eq_some_iff.mp h).1
    rwa [rgD_len] at this
  rw [rgD_get hi] at h
  exact ⟨hi, (Option.some.inj h).symm⟩
/-- deed[0] -/
theorem ox_w {X : Cx} {m : M} {Q : D → M → Prop} {t : T} (q : Q (.str t.w.s) m) : OX X (enc t) (.int 0) m Q := by rw [enc_tl]; exact ox_t ix0 q
/-- len(deed) -/
theorem oc_lene {X : Cx} {m : M} {Q : D → M → Prop} {t : T} (q : Q (.int (D.str t.w.s :: t.tl).length) m) : OC X (.builtin "len") [enc t] m Q := by rw [enc_tl]; exact oc_lent q
end SC

set_option maxHeartbeats 2000000
/-! P2: the parts of a deed, the walk. -/
namespace SC
open PySem L2 DL
section
variable {P : Program} {w : World} {K : PySem.W.Frag} {mg : Str → Option Value} {base : Heap}

/-! ### parts_of -/
abbrev sParts : Stmt := top 1
theorem scParts : Sf ["deed", "word"] ["taker"] ["deed"] (defScope sParts) := sf_mk ⟨rfl, rfl, rfl, by decide +kernel, rfl, by decide +kernel, by decide +kernel⟩ (by decide +kernel)
/-- a deed in, the list of the deeds within it out -/
def spParts : DSp := fun ds m Q => ∃ t : T, ds = [enc t] ∧ t.okT ∧ t.ks.length ≤ 100 ∧ ∀ p, m p = none → Q (.ref p) (mup m p (.lst (t.ks.map enc)))
theorem ok_parts {f : Addr} {fd : FuncData} (B : Tx mg) (d : DefAt K mg "parts_of" sParts ["deed"] f fd) : Cd P w K mg base 1 "parts_of" spParts := by
  refine d.cd (fd_of d.fn scParts.fs (fun ds m Q h => ?_) fun cdv A outer s H ds m Q hr hgd h => ?_)
  · obtain ⟨t, rfl, _⟩ := h; rfl
  · obtain ⟨t, rfl, hok, hz, h⟩ := h
    rw [enc_tl]
    conv in defBody _ => whnf
    refine db_cons (st scParts 1 <| de_ix <| v scParts 0 rfl <| de_int <| ox_t ix0 ?_)
    refine db_cons (ds_if <| dt_cmp rfl <| v scParts 1 rfl <| de_tup <| da_cons <| de_str <| da_cons <| de_str <| da_cons <| de_str <| da_cons <| de_str <| da_nil <| tu <|
      o2_inst (ss := [W.row.s, W.pick.s, W.again.s, W.clean.s]) rfl ⟨_, rfl, fun hc => ?_, fun hc => ?_⟩)
    · -- return list(deed[1:])
      rw [isNode_mem] at hc
      have e : t.tl = t.ks.map enc := by unfold T.tl; cases hw : t.w <;> rw [hw] at hc <;> first | rfl | (cases hc)
      refine db_one (ds_ret <| c_list B.list <| da_cons <| de_slt <| v scParts 0 rfl <| de_int <| xi <| xt <| da_nil <| oc_list_t fun p hp => ⟨_, Sub.refl _, ?_⟩)
      rw [show (1 : Int) = ((1 : Nat) : Int) from rfl, cut_from _ 1 (by simp), List.drop_one, List.tail_cons, e]
      exact h p hp
    · rw [isNode_mem] at hc
      refine db_nil (db_cons (ds_if <| dt_cmp rfl <| v scParts 1 rfl <| de_str <| o2_eqs ⟨_, rfl, fun h2 => ?_, fun h2 => ?_⟩))
      · -- when
        have hw := of_s .when h2
        obtain ⟨x, y, hk⟩ : ∃ x y, t.ks = [x, y] := by
          have : t.ks.length = 2 := by unfold T.okT at hok; rw [hw] at hok; exact hok
          match hh : t.ks, this with
          | [x, y], _ => exact ⟨x, y, rfl⟩
        have e : t.tl = [.str t.a, enc x, enc y] := by unfold T.tl; rw [hw, hk]; rfl
        rw [hk] at h
        rw [e]
        exact db_one (ds_ret <| de_lst <| da_cons <| de_ix <| v scParts 0 rfl <| de_int <| ox_t ix2 <| da_cons <| de_ix <| v scParts 0 rfl <| de_int <| ox_t ix3 <| da_nil <| li fun p hp => ⟨_, Sub.refl _, h p hp⟩)
      · refine db_nil (db_cons (ds_if <| dt_cmp rfl <| v scParts 1 rfl <| de_str <| o2_eqs ⟨_, rfl, fun h3 => ?_, fun h3 => ?_⟩))
        · -- catch
          have hw := of_s .catch h3
          obtain ⟨x, ks, hk⟩ : ∃ x ks, t.ks = x :: ks := by
            have : t.ks ≠ [] := by unfold T.okT at hok; rw [hw] at hok; exact hok
            match hh : t.ks, this with
            | x :: ks, _ => exact ⟨x, ks, rfl⟩
          have e : t.tl = enc x :: takD ks (ks.map enc) := by unfold T.tl; rw [hw, hk]; rfl
          rw [hk] at h hz
          rw [e]
          refine db_one (ds_ret <| de_op <| de_lst <| da_cons <| de_ix <| v scParts 0 rfl <| de_int <| ox_t ix1 <| da_nil <| li fun p hp => ?_)
          refine de_map [("taker", 2)] ks (fun t => .tup [.str t.lab, enc t]) enc scParts.fs.nd (blkOk_by (N := ["deed", "word", "taker"]) (sc := defScope sParts) (by decide +kernel)) (di_t <| de_slt <| v scParts 0 rfl <| de_int <| xi <| xt <| xt ?_)
          have e2 : cutD (D.str t.w.s :: enc x :: takD ks (ks.map enc)) (some 2) none = ks.map fun t => .tup [.str t.lab, enc t] := (cut_from _ 2 (by simp)).trans (takD_map ks)
          have hz2 : ks.length ≤ 99 := by simp at hz; omega
          refine ⟨e2, sl100 (by omega), fun _ _ _ => True.intro, fun q acc u hq hu => ?_, fun q hq => ?_⟩
          · intro s H C cl fp
            refine tb scParts.fs.nd 2 ?_
            intro s H C cl fp
            refine de_ix <| vb 2 rfl <| de_int <| ox_t ix1 ?_
            exact ⟨Sub.refl _, rfl⟩
          · refine o2_addl (mup_some mup_same hq) mup_same (sl100 (by simp; omega)) fun r hr => ?_
            have h1 := mup_none hr
            have h2 := mup_none h1.1
            exact ⟨_, Sub.mupp ((Sub.new hp).trans (Sub.new hq)), h r h2.1⟩
        · -- a leaf
          have e : t.ks = [] := by
            unfold T.okT at hok
            cases hw : t.w <;> rw [hw] at hok hc h2 h3 <;> first | exact hok | exact absurd hc (by decide) | exact absurd h2 (by decide +kernel) | exact absurd h3 (by decide +kernel)
          rw [e] at h
          exact db_nil (db_one (ds_ret <| de_lst <| da_nil <| li fun p hp => ⟨_, Sub.refl _, h p hp⟩))
end
end SC

set_option maxHeartbeats 2000000
/-! P3: _law_parts, _law_walk, walk_of. -/
namespace SC
open PySem L2 DL
section
variable {P : Program} {w : World} {K : PySem.W.Frag} {mg : Str → Option Value} {base : Heap}
/-! ### _law_parts -/
abbrev sLParts : Stmt := top 27
theorem scLParts : Sf ["deed"] ["taker"] ["deed"] (defScope sLParts) := sf_mk ⟨rfl, rfl, rfl, by decide +kernel, rfl, by decide +kernel, by decide +kernel⟩ (by decide +kernel)
theorem ok_lparts {f : Addr} {fd : FuncData} (B : Tx mg) (d : DefAt K mg "_law_parts" sLParts ["deed"] f fd) : Cd P w K mg base 1 "_law_parts" spParts := by
  refine d.cd (fd_of d.fn scLParts.fs (fun ds m Q h => ?_) fun cdv A outer s H ds m Q hr hgd h => ?_)
  · obtain ⟨t, rfl, _⟩ := h; rfl
  · obtain ⟨t, rfl, hok, hz, h⟩ := h
    rw [enc_tl]
    conv in defBody _ => whnf
    refine db_cons (ds_if <| dt_cmp rfl <| de_ix <| v scLParts 0 rfl <| de_int <| ox_t ix0 <| de_str <| o2_eqs ⟨_, rfl, fun h2 => ?_, fun h2 => ?_⟩)
    · have hw := of_s .when h2
      have e : t.tl = .str t.a :: t.ks.map enc := by unfold T.tl; rw [hw]; rfl
      refine db_one (ds_ret <| c_list B.list <| da_cons <| de_slt <| v scLParts 0 rfl <| de_int <| xi <| xt <| da_nil <| oc_list_t fun p hp => ⟨_, Sub.refl _, ?_⟩)
      have e2 : cutD (D.str t.w.s :: t.tl) (some 2) none = t.ks.map enc := by rw [e]; exact cut_from _ 2 (by simp)
      rw [e2]; exact h p hp
    · refine db_nil (db_cons (ds_if <| dt_cmp rfl <| de_ix <| v scLParts 0 rfl <| de_int <| ox_t ix0 <| de_str <| o2_eqs ⟨_, rfl, fun h3 => ?_, fun h3 => ?_⟩))
      · have hw := of_s .catch h3
        obtain ⟨x, ks, hk⟩ : ∃ x ks, t.ks = x :: ks := by
          have : t.ks ≠ [] := by unfold T.okT at hok; rw [hw] at hok; exact hok
          match hh : t.ks, this with
          | x :: ks, _ => exact ⟨x, ks, rfl⟩
        have e : t.tl = enc x :: takD ks (ks.map enc) := by unfold T.tl; rw [hw, hk]; rfl
        rw [hk] at h hz
        rw [e]
        refine db_one (ds_ret <| de_op <| de_lst <| da_cons <| de_ix <| v scLParts 0 rfl <| de_int <| ox_t ix1 <| da_nil <| li fun p hp => ?_)
        refine de_map [("taker", 1)] ks (fun t => .tup [.str t.lab, enc t]) enc scLParts.fs.nd (blkOk_by (N := ["deed", "taker"]) (sc := defScope sLParts) (by decide +kernel)) (di_t <| de_slt <| v scLParts 0 rfl <| de_int <| xi <| xt <| xt ?_)
        have e2 : cutD (D.str t.w.s :: enc x :: takD ks (ks.map enc)) (some 2) none = ks.map fun t => .tup [.str t.lab, enc t] := (cut_from _ 2 (by simp)).trans (takD_map ks)
        have hz2 : ks.length ≤ 99 := by simp at hz; omega
        refine ⟨e2, sl100 (by omega), fun _ _ _ => True.intro, fun q acc u hq hu => ?_, fun q hq => ?_⟩
        · intro s H C cl fp
          refine tb scLParts.fs.nd 1 ?_
          intro s H C cl fp
          refine de_ix <| vb 1 rfl <| de_int <| ox_t ix1 ?_
          exact ⟨Sub.refl _, rfl⟩
        · refine o2_addl (mup_some mup_same hq) mup_same (sl100 (by simp; omega)) fun r hr => ?_
          have h1 := mup_none hr
          have h2 := mup_none h1.1
          exact ⟨_, Sub.mupp ((Sub.new hp).trans (Sub.new hq)), h r h2.1⟩
      · refine db_nil (db_cons (ds_if <| dt_cmp rfl <| de_ix <| v scLParts 0 rfl <| de_int <| ox_t ix0 <| de_tup <| da_cons <| de_str <| da_cons <| de_str <| da_cons <| de_str <| da_cons <| de_str <| da_nil <| tu <|
          o2_inst (ss := [W.row.s, W.pick.s, W.again.s, W.clean.s]) rfl ⟨_, rfl, fun hc => ?_, fun hc => ?_⟩))
        · rw [isNode_mem] at hc
          have e : t.tl = t.ks.map enc := by unfold T.tl; cases hw : t.w <;> rw [hw] at hc <;> first | rfl | (cases hc)
          refine db_one (ds_ret <| c_list B.list <| da_cons <| de_slt <| v scLParts 0 rfl <| de_int <| xi <| xt <| da_nil <| oc_list_t fun p hp => ⟨_, Sub.refl _, ?_⟩)
          rw [show (1 : Int) = ((1 : Nat) : Int) from rfl, cut_from _ 1 (by simp), List.drop_one, List.tail_cons, e]
          exact h p hp
        · rw [isNode_mem] at hc
          have e : t.ks = [] := by
            unfold T.okT at hok
            cases hw : t.w <;> rw [hw] at hok hc h2 h3 <;> first | exact hok | exact absurd hc (by decide) | exact absurd h2 (by decide +kernel) | exact absurd h3 (by decide +kernel)
          rw [e] at h
          exact db_nil (db_one (ds_ret <| de_lst <| da_nil <| li fun p hp => ⟨_, Sub.refl _, h p hp⟩))

/-! ### _law_walk -/
abbrev sLWalk : Stmt := top 28
theorem scLWalk : Sf ["place", "deed", "found", "parts", "k"] [] ["place", "deed"] (defScope sLWalk) := sf_mk ⟨rfl, rfl, rfl, by decide +kernel, rfl, by decide +kernel, by decide +kernel⟩ (by decide +kernel)
def spLWalk (n : Nat) : DSp := fun ds m Q => ∃ p t, ds = [encPl p, enc t] ∧ (∀ x ∈ walkT p t, x.2.okT) ∧ (walkT p t).length ≤ n ∧ p.length + n ≤ 100 ∧ ∀ q, m q = none → Q (.ref q) (mup m q (.lst ((walkT p t).map encPT)))
theorem ok_lwalk {f : Addr} {fd : FuncData} (B : Tx mg) (cP : Cd P w K mg base 1 "_law_parts" spParts) (d : DefAt K mg "_law_walk" sLWalk ["place", "deed"] f fd) : ∀ n : Nat, Cd P w K mg base (n + 2) "_law_walk" (spLWalk n)
  | 0 => d.cd (fd_of d.fn scLWalk.fs (fun ds m Q h => by obtain ⟨p, t, rfl, _⟩ := h; rfl) fun cdv A outer s H ds m Q hr hgd h => by
      obtain ⟨p, t, rfl, _, hl, _⟩ := h
      rw [walkT_eq] at hl; cases hl)
  | n + 1 => by
    have ih := ok_lwalk B cP d n
    refine d.cd (fd_of d.fn scLWalk.fs (fun ds m Q h => by obtain ⟨p, t, rfl, _⟩ := h; rfl) fun cdv A outer s H ds m Q hr hgd h => ?_)
    obtain ⟨p, t, rfl, hok, hl, hp, h⟩ := h
    have hk : t.ks.length ≤ n := Nat.le_of_lt_succ (Nat.lt_of_lt_of_le walkT_long hl)
    conv in defBody _ => whnf
    refine db_cons (st scLWalk 2 <| de_lst <| da_cons <| de_tup <| da_cons <| v scLWalk 0 rfl <| da_cons <| v scLWalk 1 rfl <| da_nil <| tu <| da_nil <| li fun q hq => ?_)
    refine db_cons (st scLWalk 3 <| fc cP (hr.mono (by omega)) hgd (j := 1) <| da_cons <| v scLWalk 1 rfl <| da_nil ⟨t, rfl, hok _ (walkT_self _ _), by omega, fun r hr' => ?_⟩)
    have hn := mup_none hr'
    refine db_cons (ds_for p0 rfl (di_r1 rfl B.range <| c_len B.len <| da_cons <| v scLWalk 3 rfl <| da_nil <| oc_lenl (.inl mup_same) ⟨_, rfl, by omega, by simp; omega, fun i Γ' m' => (∃ k0, Γ' = [some (encPl p), some (enc t), some (.ref q), some (.ref r), k0]) ∧
        Sub (mup m q (.lst (((p, t) :: walkTs p 0 (t.ks.take i)).map encPT))) m' ∧ m' r = some (.lst (t.ks.map enc)), ⟨⟨_, rfl⟩, Sub.new hr', mup_same⟩, fun _ _ _ _ _ => True.intro, fun i d' Γ' m' hd hW => ?_, fun Γ' m' hW => ?_⟩))
    · obtain ⟨⟨k0, rfl⟩, hs, hrr⟩ := hW
      obtain ⟨hi, rfl⟩ := rgD_at hd
      obtain ⟨u, hu⟩ : ∃ u, t.ks[i]? = some u := ⟨_, List.getElem?_eq_getElem (by simpa using hi)⟩
      have hlen := walkT_kid_len (p := p) hu
      refine tg scLWalk 4 <| db_one (ds_expr <| de_extend <| v scLWalk 2 rfl ⟨q, rfl, ⟨_, hs.at⟩, ?_⟩)
      refine fc ih (hr.mono (by omega)) hgd (j := n + 2) (hkj := Nat.le_refl _) <| da_cons <| de_op <| v scLWalk 0 rfl <| de_tup <| da_cons <| v scLWalk 4 rfl <| da_nil <| tu <| o2_addt (sl100 (by simp; omega)) <| da_cons <| de_ix <| v scLWalk 3 rfl <| v scLWalk 4 rfl <| ox_l (.inl hrr) (d := enc u) ?_ <|
        da_nil ⟨p ++ [.inl (i : Int)], u, ?_, fun x hx => hok x (walkT_kid hu hx), by omega, by simp; omega, fun z hz => ?_⟩
      · rw [show (0 : Int) + (i : Int) * 1 = (i : Int) by omega]
        exact atI_get (by rw [List.getElem?_map, hu]; rfl)
      · rw [show (0 : Int) + (i : Int) * 1 = (i : Int) by omega, encPl_app]
      · have hzq : z ≠ q := (mne hs.at hz).symm
        have hzr : z ≠ r := (mne hrr hz).symm
        have hqr : r ≠ q := hn.2
        refine ⟨z, _, _, rfl, mup_some hs.at hz, mup_same, ?_, ⟨_, rfl⟩, ?_, ?_⟩
        · have e1 : ((p, t) :: walkTs p 0 (t.ks.take i) ++ walkT (p ++ [.inl (i : Int)]) u).length ≤ (walkT p t).length := by
            rw [walkT_eq p t, List.cons_append, ← walkTs_take p hu]
            simp only [List.length_cons]
            refine Nat.succ_le_succ ?_
            have e3 := walkTs_append p 0 (t.ks.take (i + 1)) (t.ks.drop (i + 1))
            rw [List.take_append_drop] at e3
            rw [e3, List.length_append]; omega
          rw [List.length_append] at e1
          rw [List.length_map, List.length_map]
          exact sl100 (by omega)
        · rw [walkTs_take p hu, ← List.map_append, ← List.cons_append]
          exact (hs.trans (Sub.new hz)).put
        · rw [mup_ne hqr, mup_some hrr hz]
    · obtain ⟨⟨k0, rfl⟩, hs, hrr⟩ := hW
      rw [rgD_len, show (((t.ks.map enc).length : Nat) : Int).toNat = t.ks.length by simp, List.take_length, ← walkT_eq] at hs
      exact db_one (ds_ret <| v scLWalk 2 rfl ⟨_, hs, h q hq⟩)
end
end SC

set_option maxHeartbeats 2000000
/-! P4: walk_of, _law_all and what is read off them. -/
namespace SC
open PySem L2 DL
/-- the sizes of a house -/
structure HouseSz (h : House) : Prop where
  ok : ∀ x ∈ walkH h, x.2.okT
  each : ∀ r ∈ h.rooms, (walkT [.inr r.1] r.2).length ≤ 45
  few : h.rooms.length ≤ 5
  some : h.rooms ≠ []
theorem flat_len {α β : Type} {f : α → List β} {c : Nat} : ∀ {l : List α}, (∀ x ∈ l, (f x).length ≤ c) → (l.flatMap f).length ≤ l.length * c
  | [], _ => by simp
  | x :: l, h => by
    have h1 := h x List.mem_cons_self
    have h2 := flat_len (f := f) (c := c) (l := l) fun y hy => h y (List.mem_cons_of_mem _ hy)
    rw [List.flatMap_cons, List.length_append, List.length_cons, Nat.succ_mul]; omega
theorem HouseSz.all {h : House} (z : HouseSz h) : (walkH h).length ≤ 225 := by
  have := flat_len (l := h.rooms) (f := fun r => walkT [.inr r.1] r.2) (c := 45) z.each
  have := z.few
  unfold walkH
  omega
def encR (r : Str × T) : D := .tup [.str r.1, enc r.2]
theorem encPl_one (x : Str) : D.tup [.str x] = encPl [.inr x] := rfl
theorem take_flat {α β : Type} {f : α → List β} {l : List α} {i : Nat} {x : α} (h : l[i]? = some x) : (l.take (i + 1)).flatMap f = (l.take i).flatMap f ++ f x := by
  rw [List.take_succ, h, Option.toList_some, List.flatMap_append, List.flatMap_cons, List.flatMap_nil, List.append_nil]
theorem flat_part {α β : Type} {f : α → List β} {l : List α} {i : Nat} {x : α} (h : l[i]? = some x) : ((l.take i).flatMap f).length + (f x).length ≤ (l.flatMap f).length := by
  have e := congrArg (List.flatMap f) (List.take_append_drop (i + 1) l)
  rw [List.flatMap_append, take_flat h] at e
  rw [← e]; simp
theorem flat_long : ∀ {stk : List PT'}, stk.length ≤ (stk.flatMap fun x => walkT x.1 x.2).length
  | [] => Nat.le_refl _
  | y :: l => by
    have hy : 0 < (walkT y.1 y.2).length := by rw [walkT_eq]; exact Nat.succ_pos _
    have := flat_long (stk := l)
    rw [List.flatMap_cons, List.length_append, List.length_cons]; omega
theorem walkT_mem_len {p : List Key} {n : Nat} : ∀ {t : T} {x : PT'}, x ∈ walkT p t → (walkT p t).length ≤ n → (walkT x.1 x.2).length ≤ n := by
  induction n generalizing p with
  | zero => intro t x _ hl; rw [walkT_eq] at hl; cases hl
  | succ n ih =>
    intro t x hx hl
    rw [walkT_eq] at hx
    rcases List.mem_cons.mp hx with rfl | hx
    · exact hl
    · obtain ⟨k, u, hu, hx2⟩ := walkTs_mem.mp hx
      rw [Nat.zero_add] at hx2
      have h1 := walkT_kid_len (p := p) hu
      have h2 := ih (p := p ++ [.inl (k : Int)]) hx2 (by omega)
      omega
theorem HouseSz.kid {h : House} (z : HouseSz h) {x : PT'} (hx : x ∈ walkH h) : x.2.ks.length ≤ 44 := by
  obtain ⟨r, hr, hx2⟩ := List.mem_flatMap.mp hx
  have := walkT_mem_len hx2 (z.each r hr)
  have h2 := walkT_long (p := x.1) (t := x.2)
  omega
theorem walkTs_plen {p : List Key} {n : Nat} : ∀ {t : T} {x : PT'}, x ∈ walkT p t → (walkT p t).length ≤ n → x.1.length < p.length + n := by
  induction n generalizing p with
  | zero => intro t x _ hl; rw [walkT_eq] at hl; cases hl
  | succ n ih =>
    intro t x hx hl
    rw [walkT_eq] at hx
    rcases List.mem_cons.mp hx with rfl | hx
    · show p.length < _; omega
    · obtain ⟨k, u, hu, hx2⟩ := walkTs_mem.mp hx
      rw [Nat.zero_add] at hx2
      have h1 := walkT_kid_len (p := p) hu
      have h2 := ih (p := p ++ [.inl (k : Int)]) hx2 (by omega)
      rw [List.length_append, List.length_singleton] at h2
      omega
theorem walkT_plen {h : House} {x : PT'} (hx : x ∈ walkH h) (he : ∀ r ∈ h.rooms, (walkT [.inr r.1] r.2).length ≤ 45) : x.1.length ≤ 45 := by
  obtain ⟨r, hr, hx2⟩ := List.mem_flatMap.mp hx
  have := walkTs_plen hx2 (he r hr)
  simp at this; omega
section
variable {P : Program} {w : World} {K : PySem.W.Frag} {mg : Str → Option Value} {base : Heap}
/-- the walk over a house -/
def spWalk : DSp := fun ds m Q => ∃ h, ds = [encH h] ∧ HouseSz h ∧ ∀ q, m q = none → Q (.ref q) (mup m q (.lst ((walkH h).map encPT)))
/-! ### _law_all -/
abbrev sLAll : Stmt := top 29
theorem scLAll : Sf ["house", "found", "name", "deed"] [] ["house"] (defScope sLAll) := sf_mk ⟨rfl, rfl, rfl, by decide +kernel, rfl, by decide +kernel, by decide +kernel⟩ (by decide +kernel)
theorem ok_lall {f : Addr} {fd : FuncData} (B : Tx mg) (cW : Cd P w K mg base 47 "_law_walk" (spLWalk 45)) (d : DefAt K mg "_law_all" sLAll ["house"] f fd) : Cd P w K mg base 48 "_law_all" spWalk := by
  refine d.cd (fd_of d.fn scLAll.fs (fun ds m Q h => by obtain ⟨p, rfl, _⟩ := h; rfl) fun cdv A outer s H ds m Q hr hgd h => ?_)
  obtain ⟨hs, rfl, hz, h⟩ := h
  have hall := hz.all
  conv in defBody _ => whnf
  refine db_cons (st scLAll 1 <| de_lst <| da_nil <| li fun q hq => ?_)
  refine db_cons (ds_for p0 rfl (di_t <| de_ix <| v scLAll 0 rfl <| de_int <| ox_t ix2 ⟨_, rfl, fun i Γ' m' => (∃ n0 d0, Γ' = [some (encH hs), some (.ref q), n0, d0]) ∧ Sub (mup m q (.lst (((hs.rooms.take i).flatMap fun r => walkT [.inr r.1] r.2).map encPT))) m',
    ⟨⟨_, _, rfl⟩, Sub.refl _⟩, fun _ _ _ _ _ => True.intro, fun i d' Γ' m' hd hW => ?_, fun Γ' m' hW => ?_⟩))
  · obtain ⟨⟨n0, d0, rfl⟩, sb⟩ := hW
    obtain ⟨r, hr2, rfl⟩ := get_map hd
    have hmem := List.mem_of_getElem? hr2
    have hsum := flat_part (f := fun r => walkT [.inr r.1] r.2) hr2
    refine tg2 scLAll 2 3 <| db_one (ds_expr <| de_extend <| v scLAll 1 rfl ⟨q, rfl, ⟨_, sb.at⟩, ?_⟩)
    refine fc cW hr hgd (hkj := Nat.le_refl _) <| da_cons <| de_tup <| da_cons <| v scLAll 2 rfl <| da_nil <| tu <| da_cons <| v scLAll 3 rfl <| da_nil ⟨[.inr r.1], r.2, rfl, fun x hx => hz.ok x ?_, hz.each r hmem, by simp, fun z hq2 => ?_⟩
    · exact List.mem_flatMap.mpr ⟨r, hmem, hx⟩
    · refine ⟨z, _, _, rfl, mup_some sb.at hq2, mup_same, ?_, ⟨_, _, rfl⟩, ?_⟩
      · rw [List.length_map, List.length_map]
        refine sl1000 (Nat.le_trans hsum ?_)
        have e : (hs.rooms.flatMap fun r => walkT [.inr r.1] r.2).length ≤ 225 := hall
        omega
      · rw [take_flat hr2, List.map_append]
        exact (sb.trans (Sub.new hq2)).put
  · obtain ⟨⟨n0, d0, rfl⟩, sb⟩ := hW
    rw [List.length_map, List.take_length] at sb
    exact db_one (ds_ret <| v scLAll 1 rfl ⟨_, sb, h q hq⟩)

/-! ### walk_of -/
abbrev sWalk : Stmt := top 2
theorem scWalk : Sf ["house", "found", "waits", "place", "deed", "parts", "k"] ["name"] ["house"] (defScope sWalk) := sf_mk ⟨rfl, rfl, rfl, by decide +kernel, rfl, by decide +kernel, by decide +kernel⟩ (by decide +kernel)
theorem stack_kids {p : List Key} {t : T} {st : List PT'} {i : Nat} {u : T} (hi : i < t.ks.length) (hu : t.ks[t.ks.length - 1 - i]? = some u) :
    (((kids p t).drop (t.ks.length - (i + 1))) ++ st) = (p ++ [.inl ((t.ks.length - 1 - i : Nat) : Int)], u) :: ((kids p t).drop (t.ks.length - i) ++ st) := by
  have e1 : t.ks.length - (i + 1) = t.ks.length - 1 - i := by omega
  have e2 : t.ks.length - i = t.ks.length - 1 - i + 1 := by omega
  have hg : (kids p t)[t.ks.length - 1 - i]? = some (p ++ [.inl ((t.ks.length - 1 - i : Nat) : Int)], u) := by rw [kids_get, hu]; rfl
  rw [e1, e2]
  have hlt : t.ks.length - 1 - i < (kids p t).length := by rw [kids_len]; omega
  rw [List.drop_eq_getElem_cons hlt]
  rw [List.getElem?_eq_getElem hlt] at hg
  rw [Option.some.inj hg, List.cons_append]
theorem ok_walk {f : Addr} {fd : FuncData} (B : Tx mg) (cP : Cd P w K mg base 1 "parts_of" spParts) (d : DefAt K mg "walk_of" sWalk ["house"] f fd) : Cd P w K mg base 2 "walk_of" spWalk := by
  refine d.cd (fd_of d.fn scWalk.fs (fun ds m Q h => by obtain ⟨p, rfl, _⟩ := h; rfl) fun cdv A outer s H ds m Q hr hgd h => ?_)
  obtain ⟨hs, rfl, hz, h⟩ := h
  have hall := hz.all
  conv in defBody _ => whnf
  refine db_cons (st scWalk 1 <| de_lst <| da_nil <| li fun q hq => ?_)
  refine db_cons (ds_map 2 [("name", 7), ("deed", 4)] hs.rooms.reverse encR (fun r => encPT ([.inr r.1], r.2)) scWalk.fs.nd (blkOk_by (N := ["house", "found", "waits", "place", "deed", "parts", "k", "name"]) (sc := defScope sWalk) (by decide +kernel)) (di_rev rfl B.reversed <| de_ix <| v scWalk 0 rfl <| de_int <| ox_t ix2 ⟨_, rfl, ?_⟩))
  refine ⟨List.map_reverse.symm, sl100 (by have := hz.few; simp; omega), fun _ _ _ => True.intro, fun p acc r hp hr2 => ?_, fun r hr2 => ?_⟩
  · intro s H C cl fp
    refine tb2 scWalk.fs.nd 7 4 ?_
    intro s H C cl fp
    refine de_tup <| da_cons <| de_tup <| da_cons <| vb 7 rfl <| da_nil <| tu <| da_cons <| vb 4 rfl <| da_nil <| tu ?_
    exact ⟨Sub.refl _, rfl⟩
  have hrq := mup_none hr2
  refine db_cons (ds_while p0 (fun n Γ' m' => ∃ (stk : List PT') (acc : List PT'), (∃ k1 k2 k3 k4, Γ' = [some (encH hs), some (.ref q), some (.ref r), k1, k2, k3, k4, none]) ∧ Sub (mup m q (.lst (acc.map encPT))) m' ∧ m' r = some (.lst (stk.reverse.map encPT)) ∧
    acc ++ stk.flatMap (fun x => walkT x.1 x.2) = walkH hs ∧ n = (stk.flatMap fun x => walkT x.1 x.2).length) _ ⟨hs.rooms.map fun r => ([.inr r.1], r.2), [], ⟨_, _, _, _, rfl⟩, Sub.new hr2, ?_, ?_, rfl⟩ fun n Γ' m' hW => ?_)
  · rw [mup_same, ← List.map_reverse, List.map_map]; rfl
  · simp [walkH, List.flatMap_map]
  obtain ⟨stk, acc, ⟨k1, k2, k3, k4, rfl⟩, sb, hst, hsum, rfl⟩ := hW
  refine dt_cmp rfl <| v scWalk 2 rfl <| de_lst <| da_nil <| li fun z hq2 => o2_nenil (u1 hr) (mup_some hst hq2) mup_same ⟨_, rfl, fun hc => ?_, fun hc => ?_⟩
  · match stk, hst, hsum, hc with
    | [], _, _, hc => cases hc
    | (p, t) :: stk, hst, hsum, _ =>
      have hin : (p, t) ∈ walkH hs := by
        rw [← hsum, List.flatMap_cons]
        exact List.mem_append_right _ (List.mem_append_left _ (walkT_self p t))
      have hlen : acc.length + 1 + t.ks.length + (stk.flatMap fun x => walkT x.1 x.2).length ≤ 225 := by
        have e := congrArg List.length hsum
        rw [List.length_append, List.flatMap_cons, List.length_append] at e
        have := walkT_long (p := p) (t := t)
        show acc.length + 1 + t.ks.length + (stk.flatMap fun x => walkT x.1 x.2).length ≤ 225
        have e3 : (walkT (p, t).fst (p, t).snd).length = (walkT p t).length := rfl
        rw [e3] at e
        omega
      have hstk : stk.length ≤ 225 := by
        have e4 := flat_long (stk := stk)
        omega
      have hst2 : mup m' z (.lst []) r = some (.lst (stk.reverse.map encPT ++ [encPT (p, t)])) := by rw [mup_some hst hq2]; simp
      have sb1 := sb.trans (Sub.new (o := .lst []) hq2)
      refine db_cons (ds_asg <| de_pop <| v scWalk 2 rfl ⟨r, _, _, rfl, hst2, tg2 scWalk 3 4 ?_⟩)
      generalize hm2 : mup (mup m' z (.lst [])) r (.lst (stk.reverse.map encPT)) = m2
      have hr3 : m2 r = some (.lst (stk.reverse.map encPT)) := by rw [← hm2, mup_same]
      have sb2 : Sub (mup m q (.lst (acc.map encPT))) m2 := by
        rw [← hm2]
        intro a o e
        by_cases ha : a = r
        · subst ha
          rw [mup_ne hrq.2, hrq.1] at e; cases e
        · rw [mup_ne ha]; exact sb1 a o e
      clear hm2
      refine db_cons (ds_expr <| de_append <| v scWalk 1 rfl ⟨q, rfl, ⟨_, sb2.at⟩, de_tup <| da_cons <| v scWalk 3 rfl <| da_cons <| v scWalk 4 rfl <| da_nil <| tu ⟨_, sb2.at, Nat.lt_of_le_of_lt (show _ ≤ 225 by rw [List.length_map]; omega) (by decide), ?_⟩⟩)
      generalize hm3 : mup m2 q (.lst (acc.map encPT ++ [D.tup [encPl p, enc t]])) = m3
      have sb3 : Sub (mup m q (.lst ((acc ++ [(p, t)]).map encPT))) m3 := by
        rw [← hm3, List.map_append]; exact sb2.put
      have hr4 : m3 r = some (.lst (stk.reverse.map encPT)) := by rw [← hm3, mup_ne hrq.2]; exact hr3
      clear hm3 sb2 hr3
      refine db_cons (st scWalk 5 <| fc cP hr hgd <| da_cons <| v scWalk 4 rfl <| da_nil ⟨t, rfl, hz.ok _ hin, by have := hz.kid hin; simp at this; omega, fun y hy => ?_⟩)
      have hyr : y ≠ r := (mne hr4 hy).symm
      have hyq : y ≠ q := (mne sb3.at hy).symm
      refine db_one (ds_for p0 rfl (di_r3 rfl B.range <| da_cons <| de_op <| c_len B.len <| da_cons <| v scWalk 5 rfl <| da_nil <| oc_lenl (.inl mup_same) <| de_int <| o2_sub <| da_cons <| de_neg <| de_int <| xi <| da_cons <| de_neg <| de_int <| xi <| da_nil ?_))
      rw [List.length_map]
      refine ⟨_, _, _, _, rfl, RgC.neg (by omega) (by omega) (by omega) (by omega), fun i Γ' m' => (∃ k4, Γ' = [some (encH hs), some (.ref q), some (.ref r), some (encPl p), some (enc t), some (.ref y), k4, none]) ∧
        Sub (mup m q (.lst ((acc ++ [(p, t)]).map encPT))) m' ∧ m' r = some (.lst (((kids p t).drop (t.ks.length - i) ++ stk).reverse.map encPT)) ∧ m' y = some (.lst (t.ks.map enc)), ⟨⟨_, rfl⟩, sb3.trans (Sub.new hy), ?_, mup_same⟩, fun _ _ _ _ _ => True.intro, fun i d' Γ' m' hd hW => ?_, fun Γ' m' hW => ?_⟩
      · rw [mup_some hr4 hy, Nat.sub_zero, ← kids_len (p := p), List.drop_length, List.nil_append]
      · obtain ⟨⟨k4, rfl⟩, sb4, hr5, hy2⟩ := hW
        obtain ⟨hi, rfl⟩ := rgD_at hd
        have hi2 : i < t.ks.length := by omega
        obtain ⟨u, hu⟩ : ∃ u, t.ks[t.ks.length - 1 - i]? = some u := ⟨_, List.getElem?_eq_getElem (by omega)⟩
        have ek : ((t.ks.length : Nat) : Int) - 1 + (i : Int) * -1 = ((t.ks.length - 1 - i : Nat) : Int) := by omega
        rw [ek]
        refine tg scWalk 6 <| db_one (ds_expr <| de_append <| v scWalk 2 rfl ⟨r, rfl, ⟨_, hr5⟩, ?_⟩)
        refine de_tup <| da_cons <| de_op <| v scWalk 3 rfl <| de_tup <| da_cons <| v scWalk 6 rfl <| da_nil <| tu <| o2_addt ?_ <| da_cons <| de_ix <| v scWalk 5 rfl <| v scWalk 6 rfl <| ox_l (.inl hy2) (atI_map enc (atI_get hu)) <| da_nil <| tu ?_
        · have : p.length ≤ 45 := walkT_plen hin hz.each
          simp; exact sl100 (by omega)
        · rw [encPl_app]
          refine ⟨_, hr5, Nat.lt_of_le_of_lt (show _ ≤ 1000 by simp [kids_len]; omega) (by decide), ⟨_, rfl⟩, ?_, ?_, ?_⟩
          · intro a o e
            by_cases ha : a = r
            · subst ha
              rw [mup_ne hrq.2, hrq.1] at e; cases e
            · rw [mup_ne ha]; exact sb4 a o e
          · rw [mup_same, stack_kids hi2 hu]
            simp [encPT]
          · rw [mup_ne hyr]; exact hy2
      · obtain ⟨⟨k4, rfl⟩, sb4, hr5, hy2⟩ := hW
        rw [rgD_len, show t.ks.length - ((t.ks.length : Int) - 1 - -1).toNat = 0 by omega, List.drop_zero] at hr5
        refine ⟨_, ?_, kids p t ++ stk, acc ++ [(p, t)], ⟨_, _, _, _, rfl⟩, sb4, hr5, ?_, rfl⟩
        · rw [List.flatMap_append, List.flatMap_cons, List.length_append, List.length_append]
          have e := congrArg List.length (walkT_kids p t)
          rw [List.length_cons] at e
          have e3 : (walkT (p, t).fst (p, t).snd).length = (walkT p t).length := rfl
          rw [e3]
          omega
        · rw [← hsum, List.flatMap_append, List.flatMap_cons, List.append_assoc, walkT_kids p t]
          simp
  · have e : stk = [] := by
      cases stk with
      | nil => rfl
      | cons y l => simp at hc
    subst e
    rw [List.flatMap_nil, List.append_nil] at hsum
    rw [hsum] at sb
    exact db_one (ds_ret <| v scWalk 1 rfl ⟨_, sb.trans (Sub.new hq2), h q hq⟩)
end
end SC

set_option maxHeartbeats 2000000
/-! M5: the meets of a house, as data. -/
namespace SC
open PySem L2 DL
def wordsOf : W → List Str
  | .pass => ["pass"]
  | .catch => ["by"]
  | .clean => ["kept", "lost"]
  | .call => ["out"]
  | _ => []
def mW (x : Str) (p s : List Key) : D := .tup [.str x, encPl p, encPl s]
def mTake (p : List Key) (k : Nat) (s : List Key) : D := .tup [.str "take", encPl p, .int k, encPl s]
def mSlip (p : List Key) : D := .tup [.str "slip", encPl p]
def mEnd (p : List Key) : D := .tup [.str "end", encPl p]
def takes (t : T) : Nat := if t.w = .catch then t.ks.length - 1 else 0
def meetsAt (p : List Key) (t : T) (sl : List (List Key)) : List D :=
  if t.w = .slip then [mSlip p] else (wordsOf t.w).flatMap (fun x => sl.map (mW x p)) ++ (List.range (takes t)).flatMap fun k => sl.map (mTake p k)
def meetsH (h : House) : List D := (slipsH h).map mEnd ++ (walkH h).flatMap fun x => meetsAt x.1 x.2 (slipsH h)
def lawAt (p : List Key) (t : T) (s : List Key) : List D := (wordsOf t.w).map (fun x => mW x p s) ++ (List.range (takes t)).map fun k => mTake p k s
def lawMeetsH (h : House) : List D := ((slipsH h).map mEnd ++ (slipsH h).map mSlip) ++ (walkH h).flatMap fun x => (slipsH h).flatMap fun s => lawAt x.1 x.2 s
def deedsH (h : House) : List (List Key × D) := (walkH h).foldl (fun acc x => putD acc x.1 (enc x.2)) []
theorem slips_len {h : House} (z : HouseSz h) : (slipsH h).length ≤ 225 := by
  unfold slipsH
  rw [List.length_map]
  exact Nat.le_trans (List.length_filter_le _ _) z.all
theorem filterMap_slips (l : List PT') : l.filterMap (fun x => if x.2.w = .slip then some (encPl x.1) else none) = ((l.filter fun x => x.2.w == .slip).map (·.1)).map encPl := by
  induction l with
  | nil => rfl
  | cons x l ih =>
    rw [List.filterMap_cons, List.filter_cons]
    by_cases h : x.2.w = .slip
    · rw [if_pos h, if_pos (by simp [h]), List.map_cons, List.map_cons]; simp only [ih]
    · rw [if_neg h, if_neg (by simp [h])]; simp only [ih]
theorem wordsOf_len (w : W) : (wordsOf w).length ≤ 2 := by cases w <;> decide
theorem takes_len {t : T} (h : t.ks.length ≤ 44) : takes t ≤ 43 := by unfold takes; split <;> omega
theorem meetsAt_len {p : List Key} {t : T} {sl : List (List Key)} (h : t.ks.length ≤ 44) (hs : sl.length ≤ 225) : (meetsAt p t sl).length ≤ 45 * 225 := by
  unfold meetsAt
  split
  · exact (by decide : 1 ≤ 45 * 225)
  · have h1 := flat_len (l := wordsOf t.w) (f := fun x => sl.map (mW x p)) (c := 225) (fun _ _ => by simpa using hs)
    have h2 := flat_len (l := List.range (takes t)) (f := fun k => sl.map (mTake p k)) (c := 225) (fun _ _ => by simpa using hs)
    have h3 := wordsOf_len t.w
    have h4 := takes_len h
    rw [List.length_range] at h2
    rw [List.length_append]
    have h5 : (wordsOf t.w).length * 225 ≤ 2 * 225 := Nat.mul_le_mul_right _ h3
    have h6 : takes t * 225 ≤ 43 * 225 := Nat.mul_le_mul_right _ h4
    omega
theorem lawAt_len {p : List Key} {t : T} {s : List Key} (h : t.ks.length ≤ 44) : (lawAt p t s).length ≤ 45 := by
  unfold lawAt
  have h3 := wordsOf_len t.w
  have h4 := takes_len h
  rw [List.length_append, List.length_map, List.length_map, List.length_range]
  omega
/-- what a deed's text is long -/
theorem catch_len {t : T} (hw : t.w = .catch) (hok : t.okT) : ((D.str t.w.s :: t.tl).length : Int) - 2 = (takes t : Nat) := by
  obtain ⟨x, ks, hk⟩ : ∃ x ks, t.ks = x :: ks := by
    have : t.ks ≠ [] := by unfold T.okT at hok; rw [hw] at hok; exact hok
    match hh : t.ks, this with
    | x :: ks, _ => exact ⟨x, ks, rfl⟩
  have e : t.tl = enc x :: takD ks (ks.map enc) := by unfold T.tl; rw [hw, hk]; rfl
  rw [e, List.length_cons, List.length_cons, takD_len]
  unfold takes
  rw [if_pos hw, hk, List.length_cons]
  omega
/-! ### the two lists of meets hold the same -/
theorem perm_flat_app {α β : Type} (f g : α → List β) : ∀ l : List α, (l.flatMap fun x => f x ++ g x).Perm (l.flatMap f ++ l.flatMap g)
  | [] => by simp
  | x :: l => by
    rw [List.flatMap_cons, List.flatMap_cons, List.flatMap_cons]
    refine ((perm_flat_app f g l).append_left _).trans ?_
    rw [List.append_assoc, List.append_assoc]
    refine List.Perm.append_left _ ?_
    rw [← List.append_assoc, ← List.append_assoc]
    exact List.Perm.append_right _ List.perm_append_comm
theorem perm_flat {α β : Type} {f g : α → List β} : ∀ {l : List α}, (∀ x ∈ l, (f x).Perm (g x)) → (l.flatMap f).Perm (l.flatMap g)
  | [], _ => .nil
  | x :: l, h => by
    rw [List.flatMap_cons, List.flatMap_cons]
    exact (h x List.mem_cons_self).append (perm_flat fun y hy => h y (List.mem_cons_of_mem _ hy))
theorem perm_swap {α β γ : Type} (f : α → β → γ) (bs : List β) : ∀ as : List α, (as.flatMap fun a => bs.map (f a)).Perm (bs.flatMap fun b => as.map fun a => f a b)
  | [] => by simp
  | a :: as => by
    rw [List.flatMap_cons]
    refine ((perm_swap f bs as).append_left _).trans ?_
    have h := perm_flat_app (fun b => [f a b]) (fun b => as.map fun a => f a b) bs
    have e : (bs.flatMap fun b => [f a b]) = bs.map (f a) := by
      clear h
      induction bs with
      | nil => rfl
      | cons b bs ih => rw [List.flatMap_cons, List.map_cons, ih]; rfl
    rw [e] at h
    exact h.symm
theorem wordsOf_slip {t : T} (h : t.w = .slip) : wordsOf t.w = [] ∧ takes t = 0 := by
  rw [h]; exact ⟨rfl, by unfold takes; rw [h]; rfl⟩
theorem at_perm {p : List Key} {t : T} {sl : List (List Key)} : (meetsAt p t sl).Perm ((if t.w = .slip then [mSlip p] else []) ++ sl.flatMap fun s => lawAt p t s) := by
  unfold meetsAt
  by_cases h : t.w = .slip
  · rw [if_pos h, if_pos h]
    have e : (sl.flatMap fun s => lawAt p t s) = [] := by
      have : ∀ s, lawAt p t s = [] := fun s => by unfold lawAt; rw [(wordsOf_slip h).1, (wordsOf_slip h).2]; rfl
      simp [this]
    rw [e, List.append_nil]
  · rw [if_neg h, if_neg h, List.nil_append]
    refine ((perm_swap (fun x s => mW x p s) sl (wordsOf t.w)).append (perm_swap (fun k s => mTake p k s) sl (List.range (takes t)))).trans ?_
    exact (perm_flat_app _ _ sl).symm
theorem slips_flat (l : List PT') : (l.flatMap fun x => if x.2.w = .slip then [mSlip x.1] else []) = ((l.filter fun x => x.2.w == .slip).map (·.1)).map mSlip := by
  induction l with
  | nil => rfl
  | cons x l ih =>
    rw [List.flatMap_cons, List.filter_cons]
    by_cases h : x.2.w = .slip
    · rw [if_pos h, if_pos (by simp [h]), List.map_cons, List.map_cons, ih]; rfl
    · rw [if_neg h, if_neg (by simp [h]), ih]; rfl
theorem meets_perm (h : House) : (meetsH h).Perm (lawMeetsH h) := by
  unfold meetsH lawMeetsH
  rw [List.append_assoc]
  refine List.Perm.append_left _ ?_
  refine (perm_flat fun x _ => at_perm).trans ?_
  refine (perm_flat_app _ _ _).trans ?_
  rw [slips_flat]
  exact List.Perm.refl _
end SC

set_option maxHeartbeats 400000
/-! M6: texts of data; unlike data have unlike texts. -/
namespace SC
open PySem L2 DL
def cL (s : Str) : List Nat := s.cps.toList
theorem cL_app (a b : Str) : cL (a ++ b) = cL a ++ cL b := by show (a.cps ++ b.cps).toList = _; simp [cL]
theorem cL_inj {a b : Str} (h : cL a = cL b) : a = b := by
  cases a; cases b
  have := Array.toList_inj.mp h
  exact congrArg _ this
def lett (c : Nat) : Bool := decide (97 ≤ c) && decide (c ≤ 122)
def letters (x : Str) : Bool := (cL x).all lett
def digit (c : Nat) : Bool := decide (48 ≤ c) && decide (c ≤ 57)
/-- texts with ", " between -/
def jj : List (List Nat) → List Nat
  | [] => []
  | [x] => x
  | x :: rest => x ++ 44 :: 32 :: jj rest
theorem cL_join : ∀ ts : List Str, cL (Str.join ", " ts) = jj (ts.map cL)
  | [] => rfl
  | [x] => rfl
  | x :: y :: l => by
    show cL (x ++ ", " ++ Str.join ", " (y :: l)) = _
    rw [cL_app, cL_app, cL_join (y :: l)]
    show cL x ++ [44, 32] ++ _ = _
    simp [jj]
theorem jj_snoc (x y : List Nat) : ∀ l, jj (x :: l ++ [y]) = jj (x :: l) ++ 44 :: 32 :: y
  | [] => rfl
  | z :: l => by
    show x ++ 44 :: 32 :: jj (z :: l ++ [y]) = (x ++ 44 :: 32 :: jj (z :: l)) ++ 44 :: 32 :: y
    rw [jj_snoc z y l]; simp
theorem cL_tuple (ts : List Str) : cL (tupleText ts) = 40 :: (jj (ts.map cL) ++ if ts.length == 1 then [44, 41] else [41]) := by
  unfold tupleText
  rw [cL_app, cL_app, cL_join]
  split <;> rfl
theorem textFrom_cL : ∀ (ts : List Str) (k : Nat) (acc : Str), cL (textFrom (k + 1) acc ts) = cL acc ++ ts.flatMap fun t => 44 :: 32 :: cL t
  | [], k, acc => by simp [textFrom]
  | t :: ts, k, acc => by
    show cL (textFrom (k + 1 + 1) (acc ++ (if k + 1 > 0 then ", " else "" : String) ++ t) ts) = _
    rw [textFrom_cL ts (k + 1), cL_app, cL_app, if_pos (Nat.succ_pos k)]
    show cL acc ++ [44, 32] ++ cL t ++ _ = _
    simp
theorem jj_flat (x : List Nat) : ∀ l : List (List Nat), jj (x :: l) = x ++ l.flatMap fun t => 44 :: 32 :: t
  | [] => by simp [jj]
  | y :: l => by
    show x ++ 44 :: 32 :: jj (y :: l) = _
    rw [jj_flat y l]; simp
theorem cL_list (ts : List Str) : cL (listText ts) = 91 :: (jj (ts.map cL) ++ [93]) := by
  unfold listText
  rw [cL_app]
  cases ts with
  | nil => rfl
  | cons t ts =>
    show cL (textFrom 1 ("[" ++ (if 0 > 0 then ", " else "" : String) ++ t) ts) ++ _ = _
    rw [textFrom_cL ts 0, cL_app, cL_app, if_neg (Nat.lt_irrefl 0), List.map_cons, jj_flat]
    show [91] ++ [] ++ cL t ++ _ ++ [93] = _
    simp [List.flatMap_map]
theorem lett_get {c : Nat} (h : lett c = true) : 97 ≤ c ∧ c ≤ 122 := by unfold lett at h; simpa using h
theorem rc_lett {c : Nat} (h : lett c = true) : Builtin.Str.reprChar 39 c = [c] := by
  obtain ⟨h1, h2⟩ := lett_get h
  have : ∀ k : Fin 123, 97 ≤ k.val → Builtin.Str.reprChar 39 k.val = [k.val] := by decide +kernel
  exact this ⟨c, by omega⟩ h1
theorem fold_lett : ∀ (l : List Nat) (acc : Array Nat), l.all lett = true → (l.foldl (fun out c => out ++ (Builtin.Str.reprChar 39 c).toArray) acc).toList = acc.toList ++ l
  | [], acc, _ => by simp
  | c :: l, acc, h => by
    simp only [List.all_cons, Bool.and_eq_true] at h
    rw [List.foldl_cons, fold_lett l _ h.2, rc_lett h.1]; simp
theorem cL_str {x : Str} (h : letters x = true) : cL (reprText x) = 39 :: (cL x ++ [39]) := by
  have hq : reprQuote x = 39 := by
    unfold reprQuote
    have : x.cps.contains 39 = false := by
      rw [← Bool.not_eq_true]
      intro hc
      have h1 : (39 : Nat) ∈ x.cps.toList := by
        rw [Array.contains_iff_mem] at hc
        exact Array.mem_toList_iff.mpr hc
      have := List.all_eq_true.mp h 39 h1
      exact absurd this (by decide)
    rw [this]; rfl
  unfold reprText
  rw [hq]
  show ((x.cps.foldl (fun out c => out ++ (Builtin.Str.reprChar 39 c).toArray) #[39]).push 39).toList = _
  rw [Array.toList_push, ← Array.foldl_toList, fold_lett x.cps.toList _ h]; rfl
def dT (n : Nat) : List Nat := cL (toString (n : Int) : String)
def dV (l : List Nat) : Nat := l.foldl (fun a c => a * 10 + (c - 48)) 0
theorem dT_all : ∀ n : Fin 100, ((dT n.val).all digit && decide (dT n.val ≠ []) && decide (dV (dT n.val) = n.val)) = true := by decide +kernel
theorem dT_ok {n : Nat} (h : n < 100) : (dT n).all digit = true ∧ dT n ≠ [] ∧ dV (dT n) = n := by
  have := dT_all ⟨n, h⟩
  simp only [Bool.and_eq_true, decide_eq_true_eq] at this
  exact ⟨this.1.1, this.1.2, this.2⟩
mutual
/-- data of tuples, lists, small numbers, words of letters, truths, None, the empty dict -/
def good : PyData → Bool
  | .none => true
  | .bool _ => true
  | .int i => decide (0 ≤ i) && decide (i < 100)
  | .str x => letters x
  | .list xs => goods xs
  | .tuple xs => goods xs
  | .dict kvs => kvs.isEmpty
def goods : List PyData → Bool
  | [] => true
  | x :: xs => good x && goods xs
end
/-- what may stand behind a thing's text -/
def nd (r : List Nat) : Prop := ∀ c t, r = c :: t → digit c = false
theorem nd_44 {t : List Nat} : nd (44 :: t) := fun c u e => by cases e; rfl
theorem nd_41 {t : List Nat} : nd (41 :: t) := fun c u e => by cases e; rfl
theorem nd_93 {t : List Nat} : nd (93 :: t) := fun c u e => by cases e; rfl
theorem nd_nil : nd [] := fun c u e => by cases e
theorem dig_cut : ∀ {a b r r' : List Nat}, a.all digit = true → b.all digit = true → nd r → nd r' → a ++ r = b ++ r' → a = b ∧ r = r'
  | [], [], r, r', _, _, _, _, h => ⟨rfl, h⟩
  | [], c :: b, r, r', _, hb, hr, _, h => by
    have h1 := hr c (b ++ r') h
    simp only [List.all_cons, Bool.and_eq_true] at hb
    rw [hb.1] at h1; cases h1
  | c :: a, [], r, r', ha, _, _, hr', h => by
    have h1 := hr' c (a ++ r) h.symm
    simp only [List.all_cons, Bool.and_eq_true] at ha
    rw [ha.1] at h1; cases h1
  | c :: a, e :: b, r, r', ha, hb, hr, hr', h => by
    simp only [List.all_cons, Bool.and_eq_true] at ha hb
    simp only [List.cons_append, List.cons.injEq] at h
    obtain ⟨h1, h2⟩ := dig_cut ha.2 hb.2 hr hr' h.2
    exact ⟨by rw [h.1, h1], h2⟩
theorem let_cut : ∀ {a b r r' : List Nat}, a.all lett = true → b.all lett = true → a ++ 39 :: r = b ++ 39 :: r' → a = b ∧ r = r'
  | [], [], r, r', _, _, h => by simp at h; exact ⟨rfl, h⟩
  | [], c :: b, r, r', _, hb, h => by
    simp only [List.all_cons, Bool.and_eq_true] at hb
    simp only [List.nil_append, List.cons_append, List.cons.injEq] at h
    rw [← h.1] at hb; exact absurd hb.1 (by decide)
  | c :: a, [], r, r', ha, _, h => by
    simp only [List.all_cons, Bool.and_eq_true] at ha
    simp only [List.nil_append, List.cons_append, List.cons.injEq] at h
    rw [h.1] at ha; exact absurd ha.1 (by decide)
  | c :: a, e :: b, r, r', ha, hb, h => by
    simp only [List.all_cons, Bool.and_eq_true] at ha hb
    simp only [List.cons_append, List.cons.injEq] at h
    obtain ⟨h1, h2⟩ := let_cut ha.2 hb.2 h.2
    exact ⟨by rw [h.1, h1], h2⟩
/-- the first sign says what kind of thing it is -/
def kindOf : PyData → Nat
  | .none => 0 | .bool true => 1 | .bool false => 2 | .int _ => 3 | .str _ => 4 | .list _ => 5 | .tuple _ => 6 | .dict _ => 7
def kindCh (c : Nat) : Nat := if c = 78 then 0 else if c = 84 then 1 else if c = 70 then 2 else if c = 39 then 4 else if c = 91 then 5 else if c = 40 then 6 else if c = 123 then 7 else 3
def sL (a : PyData) : List Nat := cL a.shown
def sLs (xs : List PyData) : List (List Nat) := (PyData.shownAll xs).map cL
theorem sLs_cons (x : PyData) (xs : List PyData) : sLs (x :: xs) = sL x :: sLs xs := by unfold sLs sL; rw [PyData.shownAll]; rfl
theorem sLs_len : ∀ xs : List PyData, (sLs xs).length = xs.length
  | [] => rfl
  | x :: xs => by rw [sLs_cons, List.length_cons, sLs_len xs, List.length_cons]
theorem sL_tuple (xs : List PyData) : sL (.tuple xs) = 40 :: (jj (sLs xs) ++ if xs.length == 1 then [44, 41] else [41]) := by
  unfold sL
  rw [PyData.shown, cL_tuple]
  have : (PyData.shownAll xs).length = xs.length := by rw [← sLs_len xs]; unfold sLs; rw [List.length_map]
  rw [this]; rfl
theorem sL_list (xs : List PyData) : sL (.list xs) = 91 :: (jj (sLs xs) ++ [93]) := by unfold sL; rw [PyData.shown, cL_list]; rfl
theorem sL_int {i : Int} (h : (decide (0 ≤ i) && decide (i < 100)) = true) : sL (.int i) = dT i.toNat ∧ i.toNat < 100 := by
  simp only [Bool.and_eq_true, decide_eq_true_eq] at h
  refine ⟨?_, by omega⟩
  unfold sL dT
  rw [PyData.shown, Int.toNat_of_nonneg h.1]
theorem sL_head {a : PyData} (h : good a = true) : ∃ c t, sL a = c :: t ∧ kindCh c = kindOf a ∧ c ≠ 41 ∧ c ≠ 93 ∧ c ≠ 44 := by
  cases a with
  | none => exact ⟨78, _, rfl, rfl, by decide, by decide, by decide⟩
  | bool b => cases b with
    | true => exact ⟨84, _, rfl, rfl, by decide, by decide, by decide⟩
    | false => exact ⟨70, _, rfl, rfl, by decide, by decide, by decide⟩
  | int i =>
    rw [good] at h
    obtain ⟨e, hl⟩ := sL_int h
    obtain ⟨h1, h2, _⟩ := dT_ok hl
    rw [e]
    cases hd : dT i.toNat with
    | nil => exact absurd hd h2
    | cons c t =>
      rw [hd] at h1
      simp only [List.all_cons, Bool.and_eq_true] at h1
      have hc : 48 ≤ c ∧ c ≤ 57 := by have := h1.1; unfold digit at this; simpa using this
      refine ⟨c, t, rfl, ?_, by omega, by omega, by omega⟩
      unfold kindCh
      rw [if_neg (by omega), if_neg (by omega), if_neg (by omega), if_neg (by omega), if_neg (by omega), if_neg (by omega), if_neg (by omega)]; rfl
  | str x =>
    rw [good] at h
    exact ⟨39, _, by unfold sL; rw [PyData.shown]; exact cL_str h, rfl, by decide, by decide, by decide⟩
  | list xs => exact ⟨91, _, sL_list xs, rfl, by decide, by decide, by decide⟩
  | tuple xs => exact ⟨40, _, sL_tuple xs, rfl, by decide, by decide, by decide⟩
  | dict kvs =>
    rw [good] at h
    obtain rfl : kvs = [] := List.isEmpty_iff.mp h
    exact ⟨123, _, rfl, rfl, by decide, by decide, by decide⟩
mutual
theorem good_inj : ∀ {a b : PyData} {r r' : List Nat}, good a = true → good b = true → nd r → nd r' → sL a ++ r = sL b ++ r' → a = b ∧ r = r'
  | a, b, r, r', ha, hb, hr, hr', h => by
    have hk : kindOf a = kindOf b := by
      obtain ⟨c, t, e1, k1, _⟩ := sL_head ha
      obtain ⟨c', t', e2, k2, _⟩ := sL_head hb
      rw [e1, e2] at h
      simp only [List.cons_append, List.cons.injEq] at h
      rw [← k1, ← k2, h.1]
    cases a with
    | none =>
      cases b <;> first | (cases hk; done) | skip
      case none => exact ⟨rfl, List.append_cancel_left h⟩
      case bool c => cases c <;> cases hk
    | bool x =>
      cases b with
      | bool y =>
        cases x <;> cases y <;> first | (cases hk; done) | exact ⟨rfl, List.append_cancel_left h⟩
      | _ => cases x <;> cases hk
    | int i =>
      cases b with
      | int j =>
        rw [good] at ha hb
        obtain ⟨e1, l1⟩ := sL_int ha
        obtain ⟨e2, l2⟩ := sL_int hb
        obtain ⟨a1, a2, a3⟩ := dT_ok l1
        obtain ⟨b1, b2, b3⟩ := dT_ok l2
        rw [e1, e2] at h
        obtain ⟨h1, h2⟩ := dig_cut a1 b1 hr hr' h
        have : i.toNat = j.toNat := by rw [← a3, ← b3, h1]
        simp only [Bool.and_eq_true, decide_eq_true_eq] at ha hb
        exact ⟨by rw [show i = j by omega], h2⟩
      | bool y => cases y <;> cases hk
      | _ => cases hk
    | str x =>
      cases b with
      | str y =>
        rw [good] at ha hb
        unfold sL at h
        rw [PyData.shown, PyData.shown, cL_str ha, cL_str hb] at h
        simp only [List.cons_append, List.append_assoc, List.cons.injEq, true_and, List.nil_append] at h
        obtain ⟨h1, h2⟩ := let_cut ha hb h
        exact ⟨by rw [cL_inj h1], h2⟩
      | bool y => cases y <;> cases hk
      | _ => cases hk
    | list xs =>
      cases b with
      | list ys =>
        rw [good] at ha hb
        rw [sL_list, sL_list] at h
        simp only [List.cons_append, List.append_assoc, List.cons.injEq, true_and, List.nil_append] at h
        obtain ⟨h1, h2⟩ := goods_inj (.inr rfl) ha hb h
        exact ⟨by rw [h1], h2⟩
      | bool y => cases y <;> cases hk
      | _ => cases hk
    | tuple xs =>
      cases b with
      | tuple ys =>
        rw [good] at ha hb
        rw [sL_tuple, sL_tuple] at h
        simp only [List.cons_append, List.append_assoc, List.cons.injEq, true_and] at h
        obtain ⟨h1, h2⟩ := tups_inj ha hb h
        exact ⟨by rw [h1], h2⟩
      | bool y => cases y <;> cases hk
      | _ => cases hk
    | dict kvs =>
      cases b with
      | dict kws =>
        rw [good] at ha hb
        obtain rfl : kvs = [] := List.isEmpty_iff.mp ha
        obtain rfl : kws = [] := List.isEmpty_iff.mp hb
        exact ⟨rfl, List.append_cancel_left h⟩
      | bool y => cases y <;> cases hk
      | _ => cases hk
/-- the rest of a row, up to ) or ] -/
theorem tail_inj : ∀ {xs ys : List PyData} {c : Nat} {r r' : List Nat}, c = 41 ∨ c = 93 → goods xs = true → goods ys = true → ((sLs xs).flatMap fun t => 44 :: 32 :: t) ++ c :: r = ((sLs ys).flatMap fun t => 44 :: 32 :: t) ++ c :: r' → xs = ys ∧ r = r'
  | [], [], c, r, r', _, _, _, h => by
    have : c :: r = c :: r' := h
    exact ⟨rfl, (List.cons.inj this).2⟩
  | [], y :: ys, c, r, r', hc, _, hy, h => by
    rw [sLs_cons, List.flatMap_cons] at h
    have h1 : c :: r = 44 :: _ := h
    have h2 := (List.cons.inj h1).1
    rcases hc with rfl | rfl <;> cases h2
  | x :: xs, [], c, r, r', hc, hx, _, h => by
    rw [sLs_cons, List.flatMap_cons] at h
    have h1 : 44 :: _ = c :: r' := h
    have h2 := (List.cons.inj h1).1
    rcases hc with rfl | rfl <;> cases h2
  | x :: xs, y :: ys, c, r, r', hc, hx, hy, h => by
    rw [goods, Bool.and_eq_true] at hx hy
    rw [sLs_cons, sLs_cons, List.flatMap_cons, List.flatMap_cons] at h
    simp only [List.cons_append, List.append_assoc, List.cons.injEq, true_and] at h
    have ndt : ∀ (zs : List PyData) (r : List Nat), nd (((sLs zs).flatMap fun t => 44 :: 32 :: t) ++ c :: r) := fun zs r => by
      cases zs with
      | nil => rcases hc with rfl | rfl; exact nd_41; exact nd_93
      | cons z zs => rw [sLs_cons, List.flatMap_cons]; exact nd_44
    obtain ⟨h1, h2⟩ := good_inj hx.1 hy.1 (ndt xs r) (ndt ys r') h
    obtain ⟨h3, h4⟩ := tail_inj hc hx.2 hy.2 h2
    exact ⟨by rw [h1, h3], h4⟩
/-- rows that end by ) or ] -/
theorem goods_inj : ∀ {xs ys : List PyData} {c : Nat} {r r' : List Nat}, c = 41 ∨ c = 93 → goods xs = true → goods ys = true → jj (sLs xs) ++ c :: r = jj (sLs ys) ++ c :: r' → xs = ys ∧ r = r'
  | [], [], c, r, r', _, _, _, h => by
    have : c :: r = c :: r' := h
    exact ⟨rfl, (List.cons.inj this).2⟩
  | [], y :: ys, c, r, r', hc, _, hy, h => by
    rw [goods, Bool.and_eq_true] at hy
    obtain ⟨e, t, e1, _, n1, n2, _⟩ := sL_head hy.1
    rw [sLs_cons, jj_flat, e1] at h
    have h1 : c :: r = e :: _ := h
    have h2 := (List.cons.inj h1).1
    rcases hc with rfl | rfl
    · exact absurd h2.symm n1
    · exact absurd h2.symm n2
  | x :: xs, [], c, r, r', hc, hx, _, h => by
    rw [goods, Bool.and_eq_true] at hx
    obtain ⟨e, t, e1, _, n1, n2, _⟩ := sL_head hx.1
    rw [sLs_cons, jj_flat, e1] at h
    have h1 : e :: _ = c :: r' := h
    have h2 := (List.cons.inj h1).1
    rcases hc with rfl | rfl
    · exact absurd h2 n1
    · exact absurd h2 n2
  | x :: xs, y :: ys, c, r, r', hc, hx, hy, h => by
    rw [goods, Bool.and_eq_true] at hx hy
    rw [sLs_cons, sLs_cons, jj_flat, jj_flat, List.append_assoc, List.append_assoc] at h
    have ndt : ∀ (zs : List PyData) (r : List Nat), nd (((sLs zs).flatMap fun t => 44 :: 32 :: t) ++ c :: r) := fun zs r => by
      cases zs with
      | nil => rcases hc with rfl | rfl; exact nd_41; exact nd_93
      | cons z zs => rw [sLs_cons, List.flatMap_cons]; exact nd_44
    obtain ⟨h1, h2⟩ := good_inj hx.1 hy.1 (ndt xs r) (ndt ys r') h
    obtain ⟨h3, h4⟩ := tail_inj hc hx.2 hy.2 h2
    exact ⟨by rw [h1, h3], h4⟩
/-- rows that end by ), with the comma of a row of one -/
theorem tups_inj : ∀ {xs ys : List PyData} {r r' : List Nat}, goods xs = true → goods ys = true →
    jj (sLs xs) ++ ((if xs.length == 1 then [44, 41] else [41]) ++ r) = jj (sLs ys) ++ ((if ys.length == 1 then [44, 41] else [41]) ++ r') → xs = ys ∧ r = r'
  | [], [], r, r', _, _, h => by
    have : 41 :: r = 41 :: r' := h
    exact ⟨rfl, (List.cons.inj this).2⟩
  | [], y :: ys, r, r', _, hy, h => by
    rw [goods, Bool.and_eq_true] at hy
    obtain ⟨e, t, e1, _, n1, n2, _⟩ := sL_head hy.1
    rw [sLs_cons, jj_flat, e1] at h
    have h1 : 41 :: r = e :: _ := h
    exact absurd (List.cons.inj h1).1.symm n1
  | x :: xs, [], r, r', hx, _, h => by
    rw [goods, Bool.and_eq_true] at hx
    obtain ⟨e, t, e1, _, n1, n2, _⟩ := sL_head hx.1
    rw [sLs_cons, jj_flat, e1] at h
    have h1 : e :: _ = 41 :: r' := h
    exact absurd (List.cons.inj h1).1 n1
  | [x], [y], r, r', hx, hy, h => by
    rw [goods, Bool.and_eq_true] at hx hy
    have h1 : sL x ++ 44 :: 41 :: r = sL y ++ 44 :: 41 :: r' := h
    obtain ⟨h1, h2⟩ := good_inj hx.1 hy.1 nd_44 nd_44 h1
    exact ⟨by rw [h1], (List.cons.inj (List.cons.inj h2).2).2⟩
  | [x], y :: z :: ys, r, r', hx, hy, h => by
    rw [goods, Bool.and_eq_true] at hx hy
    rw [sLs_cons y, jj_flat, sLs_cons z, List.flatMap_cons, List.append_assoc] at h
    have h1 : sL x ++ 44 :: 41 :: r = sL y ++ 44 :: 32 :: _ := h
    obtain ⟨_, h2⟩ := good_inj hx.1 hy.1 nd_44 nd_44 h1
    have := (List.cons.inj (List.cons.inj h2).2).1
    cases this
  | x :: z :: xs, [y], r, r', hx, hy, h => by
    rw [goods, Bool.and_eq_true] at hx hy
    rw [sLs_cons x, jj_flat, sLs_cons z, List.flatMap_cons, List.append_assoc] at h
    have h1 : sL x ++ 44 :: 32 :: _ = sL y ++ 44 :: 41 :: r' := h
    obtain ⟨_, h2⟩ := good_inj hx.1 hy.1 nd_44 nd_44 h1
    have := (List.cons.inj (List.cons.inj h2).2).1
    cases this
  | x :: z :: xs, y :: u :: ys, r, r', hx, hy, h => by
    rw [goods, Bool.and_eq_true] at hx hy
    have hx2 := hx.2
    have hy2 := hy.2
    have h0 : jj (sLs (x :: z :: xs)) ++ 41 :: r = jj (sLs (y :: u :: ys)) ++ 41 :: r' := h
    rw [sLs_cons x, sLs_cons y, jj_flat, jj_flat, List.append_assoc, List.append_assoc] at h0
    have ndt : ∀ (z : PyData) (zs : List PyData) (r : List Nat), nd (((sLs (z :: zs)).flatMap fun t => 44 :: 32 :: t) ++ 41 :: r) := fun z zs r => by
      rw [sLs_cons, List.flatMap_cons]; exact nd_44
    obtain ⟨h1, h2⟩ := good_inj hx.1 hy.1 (ndt z xs r) (ndt u ys r') h0
    obtain ⟨h3, h4⟩ := tail_inj (.inl rfl) hx2 hy2 h2
    exact ⟨by rw [h1, h3], h4⟩
end
/-- unlike data have unlike texts -/
theorem shown_inj {a b : PyData} (ha : good a = true) (hb : good b = true) (h : a.shown = b.shown) : a = b := by
  have : sL a ++ [] = sL b ++ [] := by unfold sL; rw [h]
  exact (good_inj ha hb nd_nil nd_nil this).1
end SC

set_option maxHeartbeats 400000
/-! M7: things that may be told. -/
namespace SC
open PySem L2 DL
mutual
def pok : PyData → Bool
  | .none => true
  | .bool _ => true
  | .int i => decide (0 ≤ i) && decide (i < 100)
  | .str x => letters x && decide (x.length ≤ 8)
  | .list xs => decide (xs.length ≤ 50) && poks xs
  | .tuple xs => decide (xs.length ≤ 50) && poks xs
  | .dict kvs => kvs.isEmpty
def poks : List PyData → Bool
  | [] => true
  | x :: xs => pok x && poks xs
end
mutual
theorem pok_good : ∀ {p : PyData}, pok p = true → good p = true
  | .none, _ => rfl
  | .bool _, _ => rfl
  | .int i, h => h
  | .str x, h => by rw [pok, Bool.and_eq_true] at h; exact h.1
  | .list xs, h => by rw [pok, Bool.and_eq_true] at h; rw [good]; exact poks_goods h.2
  | .tuple xs, h => by rw [pok, Bool.and_eq_true] at h; rw [good]; exact poks_goods h.2
  | .dict kvs, h => h
theorem poks_goods : ∀ {xs : List PyData}, poks xs = true → goods xs = true
  | [], _ => rfl
  | x :: xs, h => by
    rw [poks, Bool.and_eq_true] at h
    rw [goods, pok_good h.1, poks_goods h.2]; rfl
end
mutual
theorem good_showable : ∀ {p : PyData}, good p = true → p.showable = true
  | .none, _ => rfl
  | .bool _, _ => rfl
  | .int i, h => by
    rw [good, Bool.and_eq_true, decide_eq_true_eq, decide_eq_true_eq] at h
    rw [PyData.showable, decide_eq_true_eq]
    have := Nat.log2_le_self i.natAbs
    omega
  | .str x, h => rfl
  | .list xs, h => by rw [good] at h; rw [PyData.showable]; exact goods_showable h
  | .tuple xs, h => by rw [good] at h; rw [PyData.showable]; exact goods_showable h
  | .dict kvs, h => by
    rw [good] at h
    obtain rfl : kvs = [] := List.isEmpty_iff.mp h
    rfl
theorem goods_showable : ∀ {xs : List PyData}, goods xs = true → PyData.showableAll xs = true
  | [], _ => rfl
  | x :: xs, h => by
    rw [goods, Bool.and_eq_true] at h
    rw [PyData.showableAll, good_showable h.1, goods_showable h.2]; rfl
end
/-- a bound on texts, by the depth -/
def bnd : Nat → Nat
  | 0 => 10
  | n + 1 => 50 * (bnd n + 2) + 3
theorem bnd_mono {a b : Nat} (h : a ≤ b) : bnd a ≤ bnd b := by
  induction h with
  | refl => exact Nat.le_refl _
  | step h ih => exact Nat.le_trans ih (by rw [bnd]; omega)
theorem jj_len {c : Nat} : ∀ {l : List (List Nat)}, (∀ t ∈ l, t.length ≤ c) → (jj l).length ≤ l.length * (c + 2)
  | [], _ => Nat.zero_le _
  | [x], h => by
    have := h x List.mem_cons_self
    show x.length ≤ _
    rw [List.length_singleton]; omega
  | x :: y :: l, h => by
    have h1 := h x List.mem_cons_self
    have h2 := jj_len (l := y :: l) fun t ht => h t (List.mem_cons_of_mem _ ht)
    show (x ++ 44 :: 32 :: jj (y :: l)).length ≤ _
    rw [List.length_append, List.length_cons, List.length_cons, List.length_cons, Nat.succ_mul]
    omega
theorem dT_len : ∀ n : Fin 100, (dT n.val).length ≤ 2 := by decide +kernel
mutual
theorem pok_len : ∀ {p : PyData} {k : Nat}, pok p = true → p.depth ≤ k → (sL p).length ≤ bnd k
  | .none, k, _, _ => Nat.le_trans (show 4 ≤ bnd 0 by decide) (bnd_mono (Nat.zero_le _))
  | .bool true, k, _, _ => Nat.le_trans (show 4 ≤ bnd 0 by decide) (bnd_mono (Nat.zero_le _))
  | .bool false, k, _, _ => Nat.le_trans (show 5 ≤ bnd 0 by decide) (bnd_mono (Nat.zero_le _))
  | .int i, k, h, _ => by
    rw [pok] at h
    obtain ⟨e, hl⟩ := sL_int h
    rw [e]
    exact Nat.le_trans (Nat.le_trans (dT_len ⟨_, hl⟩) (by decide : 2 ≤ bnd 0)) (bnd_mono (Nat.zero_le _))
  | .str x, k, h, _ => by
    rw [pok, Bool.and_eq_true, decide_eq_true_eq] at h
    unfold sL
    rw [PyData.shown, cL_str h.1, List.length_cons, List.length_append, List.length_singleton]
    have : (cL x).length = x.length := Array.length_toList ..
    exact Nat.le_trans (show _ ≤ bnd 0 by rw [this]; show _ ≤ 10; omega) (bnd_mono (Nat.zero_le _))
  | .list xs, k, h, hd => by
    rw [pok, Bool.and_eq_true, decide_eq_true_eq] at h
    rw [PyData.depth] at hd
    cases k with
    | zero => omega
    | succ k =>
      have h1 := jj_len (poks_len h.2 (k := k) (by omega))
      rw [sL_list, List.length_cons, List.length_append, List.length_singleton, bnd]
      rw [sLs_len] at h1
      have h2 : xs.length * (bnd k + 2) ≤ 50 * (bnd k + 2) := Nat.mul_le_mul_right _ h.1
      omega
  | .tuple xs, k, h, hd => by
    rw [pok, Bool.and_eq_true, decide_eq_true_eq] at h
    rw [PyData.depth] at hd
    cases k with
    | zero => omega
    | succ k =>
      have h1 := jj_len (poks_len h.2 (k := k) (by omega))
      rw [sL_tuple, List.length_cons, List.length_append, bnd]
      rw [sLs_len] at h1
      have h2 : xs.length * (bnd k + 2) ≤ 50 * (bnd k + 2) := Nat.mul_le_mul_right _ h.1
      have h3 : (if xs.length == 1 then [44, 41] else [41] : List Nat).length ≤ 2 := by split <;> decide
      omega
  | .dict kvs, k, h, _ => by
    rw [pok] at h
    obtain rfl : kvs = [] := List.isEmpty_iff.mp h
    exact Nat.le_trans (show 2 ≤ bnd 0 by decide) (bnd_mono (Nat.zero_le _))
theorem poks_len : ∀ {xs : List PyData} {k : Nat}, poks xs = true → PyData.depthAll xs ≤ k → ∀ t ∈ sLs xs, t.length ≤ bnd k
  | [], k, _, _ => fun t ht => by cases ht
  | x :: xs, k, h, hd => fun t ht => by
    rw [poks, Bool.and_eq_true] at h
    rw [PyData.depthAll] at hd
    rw [sLs_cons] at ht
    rcases List.mem_cons.mp ht with rfl | ht
    · exact pok_len h.1 (by omega)
    · exact poks_len h.2 (by omega) t ht
end
/-- what repr asks for -/
theorem pok_repr {p : PyData} (h : pok p = true) (hd : p.depth ≤ 3) : p.showable = true ∧ p.depth ≤ 60 ∧ p.shown.length ≤ sizeLine := by
  refine ⟨good_showable (pok_good h), by omega, ?_⟩
  have h1 := pok_len h hd
  have h2 : (sL p).length = p.shown.length := Array.length_toList ..
  rw [h2] at h1
  exact Nat.le_trans h1 (by decide +kernel)
mutual
/-- the library's data of a thing without addresses -/
def pdOf : D → PyData
  | .non => .none
  | .bl b => .bool b
  | .int i => .int i
  | .str x => .str x
  | .tup l => .tuple (pdOfs l)
  | .ref _ => .none
def pdOfs : List D → List PyData
  | [] => []
  | x :: xs => pdOf x :: pdOfs xs
end
theorem pdOfs_map : ∀ l : List D, pdOfs l = l.map pdOf
  | [] => rfl
  | x :: xs => by rw [pdOfs, pdOfs_map xs, List.map_cons]
mutual
theorem rp_of {b : Bool} {m : M} : ∀ {d : D}, pure' d = true → RP b m d (pdOf d)
  | .non, _ => .non
  | .bl c, _ => .bl c
  | .int i, _ => .int i
  | .str x, _ => .str x
  | .tup l, h => .tup (rps_of (by rw [pure'] at h; exact h))
  | .ref _, h => by cases h
theorem rps_of {b : Bool} {m : M} : ∀ {l : List D}, pures l = true → RPs b m l (pdOfs l)
  | [], _ => .nil
  | x :: xs, h => by
    rw [pures, Bool.and_eq_true] at h
    exact .cons (rp_of h.1) (rps_of h.2)
end
mutual
theorem pdOf_inj : ∀ {d e : D}, pure' d = true → pure' e = true → pdOf d = pdOf e → d = e
  | .non, e, _, he, h => by cases e <;> simp_all [pdOf, pure']
  | .bl c, e, _, he, h => by cases e <;> simp_all [pdOf, pure']
  | .int i, e, _, he, h => by cases e <;> simp_all [pdOf, pure']
  | .str x, e, _, he, h => by cases e <;> simp_all [pdOf, pure']
  | .tup l, e, hd, he, h => by
    cases e with
    | tup k =>
      rw [pure'] at hd he
      rw [pdOf, pdOf, PyData.tuple.injEq] at h
      rw [pdOfs_inj hd he h]
    | _ => simp_all [pdOf, pure']
  | .ref _, e, hd, _, _ => by cases hd
theorem pdOfs_inj : ∀ {d e : List D}, pures d = true → pures e = true → pdOfs d = pdOfs e → d = e
  | [], [], _, _, _ => rfl
  | [], y :: ys, _, _, h => by simp [pdOfs] at h
  | x :: xs, [], _, _, h => by simp [pdOfs] at h
  | x :: xs, y :: ys, hd, he, h => by
    rw [pures, Bool.and_eq_true] at hd he
    rw [pdOfs, pdOfs, List.cons.injEq] at h
    rw [pdOf_inj hd.1 he.1 h.1, pdOfs_inj hd.2 he.2 h.2]
end
mutual
theorem deq_refl : ∀ {d : D}, pure' d = true → deq d d = true
  | .non, _ => rfl
  | .bl c, _ => by cases c <;> rfl
  | .int i, _ => by simp [deq]
  | .str x, _ => by simp [deq]
  | .tup l, h => by rw [pure'] at h; rw [deq]; exact deqs_refl h
  | .ref _, h => by cases h
theorem deqs_refl : ∀ {l : List D}, pures l = true → deqs l l = true
  | [], _ => rfl
  | x :: xs, h => by
    rw [pures, Bool.and_eq_true] at h
    rw [deqs, deq_refl h.1, deqs_refl h.2]; rfl
end
mutual
/-- without truths, == is sameness -/
theorem deq_kin : ∀ {d e : D}, kinR d = true → kinR e = true → deq d e = true → d = e
  | .int i, e, _, he, h => by cases e <;> simp_all [deq, kinR]
  | .str x, e, _, he, h => by cases e <;> simp_all [deq, kinR]
  | .tup l, e, hd, he, h => by
    cases e with
    | tup k =>
      rw [kinR] at hd he
      rw [deq] at h
      rw [deqs_kin hd he h]
    | _ => simp_all [deq, kinR]
theorem deqs_kin : ∀ {d e : List D}, kinRs d = true → kinRs e = true → deqs d e = true → d = e
  | [], [], _, _, _ => rfl
  | [], y :: ys, _, _, h => by simp [deqs] at h
  | x :: xs, [], _, _, h => by simp [deqs] at h
  | x :: xs, y :: ys, hd, he, h => by
    rw [kinRs, Bool.and_eq_true] at hd he
    rw [deqs, Bool.and_eq_true] at h
    rw [deq_kin hd.1 he.1 h.1, deqs_kin hd.2 he.2 h.2]
end
mutual
theorem kin_pure : ∀ {d : D}, kinR d = true → pure' d = true
  | .int i, _ => rfl
  | .str x, _ => rfl
  | .tup l, h => by rw [kinR] at h; rw [pure']; exact kins_pure h
theorem kins_pure : ∀ {l : List D}, kinRs l = true → pures l = true
  | [], _ => rfl
  | x :: xs, h => by
    rw [kinRs, Bool.and_eq_true] at h
    rw [pures, kin_pure h.1, kins_pure h.2]; rfl
end
end SC

set_option maxHeartbeats 400000
/-! M8: the meets of a house may be told. -/
namespace SC
open PySem L2 DL
def nmOk (x : Str) : Bool := letters x && decide (x.length ≤ 8)
def keyOk : Key → Bool
  | .inl i => decide (0 ≤ i) && decide (i < 100)
  | .inr x => nmOk x
structure PlOk (p : List Key) : Prop where
  len : p.length ≤ 46
  key : p.all keyOk = true
/-- sizes, and names of letters -/
structure HouseNm (h : House) : Prop where
  sz : HouseSz h
  nm : ∀ r ∈ h.rooms, nmOk r.1 = true
theorem walk_key {p : List Key} {n : Nat} : ∀ {t : T} {x : PT'}, x ∈ walkT p t → (walkT p t).length ≤ n → n ≤ 45 → p.all keyOk = true → x.1.all keyOk = true := by
  induction n generalizing p with
  | zero => intro t x _ hl; rw [walkT_eq] at hl; cases hl
  | succ n ih =>
    intro t x hx hl hn hp
    rw [walkT_eq] at hx
    rcases List.mem_cons.mp hx with rfl | hx
    · exact hp
    · obtain ⟨k, u, hu, hx2⟩ := walkTs_mem.mp hx
      rw [Nat.zero_add] at hx2
      have h1 := walkT_kid_len (p := p) hu
      have h3 := walkT_long (p := p) (t := t)
      have hk : k < t.ks.length := (List.getElem?_eq_some_iff.mp hu).1
      refine ih (p := p ++ [.inl (k : Int)]) hx2 (by omega) (by omega) ?_
      rw [List.all_append, hp]
      show (true && ((decide ((0 : Int) ≤ k) && decide ((k : Int) < 100)) && true)) = true
      rw [decide_eq_true (by omega), decide_eq_true (by omega)]; rfl
theorem HouseNm.pl {h : House} (z : HouseNm h) {x : PT'} (hx : x ∈ walkH h) : PlOk x.1 := by
  refine ⟨by have := walkT_plen hx z.sz.each; omega, ?_⟩
  obtain ⟨r, hr, hx2⟩ := List.mem_flatMap.mp hx
  refine walk_key hx2 (z.sz.each r hr) (Nat.le_refl _) ?_
  show (nmOk r.1 && true) = true
  rw [z.nm r hr]; rfl
theorem slip_walk {h : House} {s : List Key} (hs : s ∈ slipsH h) : ∃ t, (s, t) ∈ walkH h ∧ t.w = .slip := by
  unfold slipsH at hs
  obtain ⟨x, hx, rfl⟩ := List.mem_map.mp hs
  have := List.mem_filter.mp hx
  exact ⟨x.2, this.1, by simpa using this.2⟩
theorem HouseNm.slip {h : House} (z : HouseNm h) {s : List Key} (hs : s ∈ slipsH h) : PlOk s := by
  obtain ⟨t, ht, _⟩ := slip_walk hs
  exact z.pl ht
mutual
theorem dep_pd : ∀ {d : D}, dep d ≤ (pdOf d).depth
  | .non => Nat.le_refl _
  | .bl _ => Nat.le_refl _
  | .int _ => Nat.le_refl _
  | .str _ => Nat.le_refl _
  | .tup l => by rw [dep, pdOf, PyData.depth]; exact Nat.succ_le_succ deps_pd
  | .ref _ => Nat.le_refl _
theorem deps_pd : ∀ {l : List D}, deps l ≤ PyData.depthAll (pdOfs l)
  | [] => Nat.le_refl _
  | x :: xs => by
    rw [deps, pdOfs, PyData.depthAll]
    have h1 := dep_pd (d := x)
    have h2 := deps_pd (l := xs)
    omega
end
/-- a thing of words, small numbers and tuples -/
structure ThOk (k : Nat) (d : D) : Prop where
  kin : kinR d = true
  pok : pok (pdOf d) = true
  dep : (pdOf d).depth ≤ k
theorem ThOk.str {x : Str} (h : nmOk x = true) : ThOk 0 (.str x) := ⟨rfl, h, Nat.le_refl _⟩
theorem ThOk.mono {j k : Nat} {d : D} (h : ThOk j d) (hj : j ≤ k) : ThOk k d := ⟨h.kin, h.pok, Nat.le_trans h.dep hj⟩
theorem ThOk.int {i : Int} (h : 0 ≤ i) (h2 : i < 100) : ThOk 0 (.int i) := ⟨rfl, by show (decide _ && decide _) = true; rw [decide_eq_true h, decide_eq_true h2]; rfl, Nat.le_refl _⟩
theorem thoks {k : Nat} : ∀ {l : List D}, (∀ d ∈ l, ThOk k d) → kinRs l = true ∧ poks (pdOfs l) = true ∧ PyData.depthAll (pdOfs l) ≤ k
  | [], _ => ⟨rfl, rfl, Nat.zero_le _⟩
  | x :: xs, h => by
    have h1 := h x List.mem_cons_self
    obtain ⟨a, b, c⟩ := thoks (l := xs) fun d hd => h d (List.mem_cons_of_mem _ hd)
    refine ⟨by rw [kinRs, h1.kin, a]; rfl, by rw [pdOfs, poks, h1.pok, b]; rfl, ?_⟩
    rw [pdOfs, PyData.depthAll]
    have := h1.dep
    omega
theorem ThOk.tup {k : Nat} {l : List D} (hl : l.length ≤ 50) (h : ∀ d ∈ l, ThOk k d) : ThOk (k + 1) (.tup l) := by
  obtain ⟨a, b, c⟩ := thoks h
  refine ⟨by rw [kinR]; exact a, ?_, ?_⟩
  · rw [pdOf, SC.pok, b, pdOfs_map, List.length_map, decide_eq_true hl]; rfl
  · rw [pdOf, PyData.depth]; omega
theorem PlOk.th {p : List Key} (h : PlOk p) : ThOk 1 (encPl p) := by
  refine ThOk.tup (by have := h.len; simp; omega) fun d hd => ?_
  obtain ⟨k, hk, rfl⟩ := List.mem_map.mp hd
  have := List.all_eq_true.mp h.key k hk
  cases k with
  | inl i =>
    have h2 : (decide (0 ≤ i) && decide (i < 100)) = true := this
    rw [Bool.and_eq_true, decide_eq_true_eq, decide_eq_true_eq] at h2
    exact ThOk.int h2.1 h2.2
  | inr x => exact ThOk.str this
theorem th2 {a b : D} {k : Nat} (ha : ThOk k a) (hb : ThOk k b) : ThOk (k + 1) (.tup [a, b]) := ThOk.tup (by decide : 2 ≤ 50) fun d hd => by
  simp at hd
  rcases hd with rfl | rfl <;> assumption
theorem th3 {a b c : D} {k : Nat} (ha : ThOk k a) (hb : ThOk k b) (hc : ThOk k c) : ThOk (k + 1) (.tup [a, b, c]) := ThOk.tup (by decide : 3 ≤ 50) fun d hd => by
  simp at hd
  rcases hd with rfl | rfl | rfl <;> assumption
theorem th4 {a b c e : D} {k : Nat} (ha : ThOk k a) (hb : ThOk k b) (hc : ThOk k c) (he : ThOk k e) : ThOk (k + 1) (.tup [a, b, c, e]) := ThOk.tup (by decide : 4 ≤ 50) fun d hd => by
  simp at hd
  rcases hd with rfl | rfl | rfl | rfl <;> assumption
theorem word_ok {w : W} {x : Str} (h : x ∈ wordsOf w) : nmOk x = true := by
  cases w <;> simp [wordsOf] at h
  all_goals first | (subst h; decide +kernel) | (rcases h with rfl | rfl <;> decide +kernel)
/-- what a meet is -/
inductive IsMt (h : House) : D → Prop
  | fin {s : List Key} : s ∈ slipsH h → IsMt h (mEnd s)
  | slip {s : List Key} : s ∈ slipsH h → IsMt h (mSlip s)
  | wd {x : PT'} {w : Str} {s : List Key} : x ∈ walkH h → w ∈ wordsOf x.2.w → s ∈ slipsH h → IsMt h (mW w x.1 s)
  | take {x : PT'} {k : Nat} {s : List Key} : x ∈ walkH h → k < takes x.2 → s ∈ slipsH h → IsMt h (mTake x.1 k s)
theorem walk_slip {h : House} {x : PT'} (hx : x ∈ walkH h) (hw : x.2.w = .slip) : x.1 ∈ slipsH h := by
  unfold slipsH
  exact List.mem_map.mpr ⟨x, List.mem_filter.mpr ⟨hx, by simp [hw]⟩, rfl⟩
theorem meets_iff {h : House} {d : D} : d ∈ lawMeetsH h ↔ IsMt h d := by
  unfold lawMeetsH
  constructor
  · intro hd
    rcases List.mem_append.mp hd with hd | hd
    · rcases List.mem_append.mp hd with hd | hd
      · obtain ⟨s, hs, rfl⟩ := List.mem_map.mp hd; exact .fin hs
      · obtain ⟨s, hs, rfl⟩ := List.mem_map.mp hd; exact .slip hs
    · obtain ⟨x, hx, hd⟩ := List.mem_flatMap.mp hd
      obtain ⟨s, hs, hd⟩ := List.mem_flatMap.mp hd
      unfold lawAt at hd
      rcases List.mem_append.mp hd with hd | hd
      · obtain ⟨w, hw, rfl⟩ := List.mem_map.mp hd; exact .wd hx hw hs
      · obtain ⟨k, hk, rfl⟩ := List.mem_map.mp hd; exact .take hx (List.mem_range.mp hk) hs
  · rintro (hs | hs | ⟨hx, hw, hs⟩ | ⟨hx, hk, hs⟩)
    · exact List.mem_append_left _ (List.mem_append_left _ (List.mem_map_of_mem hs))
    · exact List.mem_append_left _ (List.mem_append_right _ (List.mem_map_of_mem hs))
    · refine List.mem_append_right _ (List.mem_flatMap.mpr ⟨_, hx, List.mem_flatMap.mpr ⟨_, hs, ?_⟩⟩)
      exact List.mem_append_left _ (List.mem_map.mpr ⟨_, hw, rfl⟩)
    · refine List.mem_append_right _ (List.mem_flatMap.mpr ⟨_, hx, List.mem_flatMap.mpr ⟨_, hs, ?_⟩⟩)
      exact List.mem_append_right _ (List.mem_map.mpr ⟨_, List.mem_range.mpr hk, rfl⟩)
theorem meets_iff2 {h : House} {d : D} : d ∈ meetsH h ↔ IsMt h d := (meets_perm h).mem_iff.trans meets_iff
theorem IsMt.th {h : House} (z : HouseNm h) {d : D} (m : IsMt h d) : ThOk 2 d := by
  cases m with
  | fin hs => exact th2 ((ThOk.str (by decide +kernel)).mono (by decide)) (z.slip hs).th
  | slip hs => exact th2 ((ThOk.str (by decide +kernel)).mono (by decide)) (z.slip hs).th
  | wd hx hw hs => exact th3 ((ThOk.str (word_ok hw)).mono (by decide)) (z.pl hx).th (z.slip hs).th
  | take hx hk hs =>
    have := takes_len (z.sz.kid hx)
    exact th4 ((ThOk.str (by decide +kernel)).mono (by decide)) (z.pl hx).th ((ThOk.int (by omega) (by omega)).mono (by decide)) (z.slip hs).th
theorem IsMt.tup {h : House} {d : D} (m : IsMt h d) : ∃ as, d = .tup as := by cases m <;> exact ⟨_, rfl⟩
end SC

set_option maxHeartbeats 400000
/-! P10: _law_tape, _law_names. -/
namespace SC
open PySem L2 DL
/-- names that do for rooms, kinds, marks, words -/
def okNm (x : Str) : Bool := nmOk x && decide (x ≠ "") && decide (x ≠ "zzz")
structure NamesOk (l : List Str) : Prop where
  nd : l.Nodup
  ok : ∀ x ∈ l, okNm x = true
theorem NamesOk.rev {l : List Str} (h : NamesOk l) : NamesOk l.reverse := ⟨(List.reverse_perm l).nodup_iff.mpr h.nd, fun x hx => h.ok x (List.mem_reverse.mp hx)⟩
theorem names_of {f : Nat → Str} {n : Nat} (hn : n ≤ 8) (h : ∀ j : Fin 8, okNm (f j.val) = true ∧ ∀ k : Fin 8, f j.val = f k.val → j = k) : NamesOk ((List.range n).map f) := by
  refine ⟨?_, fun x hx => ?_⟩
  · rw [List.nodup_iff_pairwise_ne, List.pairwise_map]
    refine List.Pairwise.imp_of_mem (fun {a b} ha hb hab e => ?_) List.pairwise_lt_range
    have h1 := List.mem_range.mp ha
    have h2 := List.mem_range.mp hb
    have := (h ⟨a, by omega⟩).2 ⟨b, by omega⟩ e
    simp at this
    omega
  · obtain ⟨k, hk, rfl⟩ := List.mem_map.mp hx
    have := List.mem_range.mp hk
    exact (h ⟨k, by omega⟩).1
def lt1 (c : Nat) : Str := ⟨#[c]⟩
def abc : Str := "abcdefghijklmnopqrstuvwxyz"
theorem abc_at : ∀ i : Fin 26, abc.cps.toList[i.val]? = some (97 + i.val) := by decide +kernel
def nm0 (t k : Nat) : Str := cutS (lt1 (97 + t) ++ "kovistu") none (some ((k : Int) + 1))
def wds : List Str := ["say", "slip", "pass", "of", "with", "else", "kinds", "marks", "front", "pick", "row", "done", "end"]
def nm1 (t k : Nat) : Str := wds.getD ((t + k) % 13) ""
def nm2 (a t k : Nat) : Str := cutS "melon" none (some (a : Int)) ++ lt1 (97 + (t + k) % 26) ++ cutS "melon" (some ((a : Int) + 1)) none
theorem nm0_ok : ∀ t : Fin 26, ∀ j : Fin 8, okNm (nm0 t.val j.val) = true ∧ ∀ k : Fin 8, nm0 t.val j.val = nm0 t.val k.val → j = k := by decide +kernel
theorem nm1_ok : ∀ t : Fin 26, ∀ j : Fin 8, okNm (nm1 t.val j.val) = true ∧ ∀ k : Fin 8, nm1 t.val j.val = nm1 t.val k.val → j = k := by decide +kernel
theorem nm2_ok : ∀ a : Fin 5, ∀ t : Fin 26, ∀ j : Fin 8, okNm (nm2 a.val t.val j.val) = true ∧ ∀ k : Fin 8, nm2 a.val t.val j.val = nm2 a.val t.val k.val → j = k := by decide +kernel
theorem rgD01 (n : Nat) : rgD 0 1 n = (List.range n).map fun k => D.int (k : Nat) := by simp [rgD]
section
variable {P : Program} {w : World} {K : PySem.W.Frag} {mg : Str → Option Value} {base : Heap}
/-! ### _law_tape -/
abbrev sTape : Stmt := top 18
theorem scTape : Sf ["script", "k", "cell", "p", "one", "two", "three", "four"] [] ["script", "k"] (defScope sTape) := sf_mk ⟨rfl, rfl, rfl, by decide +kernel, rfl, by decide +kernel, by decide +kernel⟩ (by decide +kernel)
def spTape : DSp := fun ds m Q => ∃ q ns k, ds = [.ref q, .int k] ∧ m q = some (.rd (List.map D.int ns)) ∧ 0 ≤ k ∧ ∀ p t, m p = none → Q (.ref p) (mup m p (.lst [.int t]))
theorem md_lt (x : Int) : 0 ≤ x % 2305843009213693951 ∧ x % 2305843009213693951 < 2 ^ 64 := ⟨Int.emod_nonneg _ (by decide), Int.lt_trans (Int.emod_lt_of_pos _ (by decide)) (by decide)⟩
theorem cm_l {i j : Int} (h : 0 ≤ i) (h2 : i < 2 ^ 64) : CMul i j := .inl ⟨by omega, h2⟩
theorem cm_r {i j : Int} (h : 0 ≤ j) (h2 : j < 2 ^ 64) : CMul i j := .inr ⟨by omega, h2⟩
theorem ok_tape {f : Addr} {fd : FuncData} (B : Tx mg) (cC : Cd P w K mg base 1 "_law_cell_at" spCell) (d : DefAt K mg "_law_tape" sTape ["script", "k"] f fd) : Cd P w K mg base 2 "_law_tape" spTape := by
  refine d.cd (fd_of d.fn scTape.fs (fun ds m Q h => by obtain ⟨q, t, n, rfl, _⟩ := h; rfl) fun cdv A outer s H ds m Q hr hgd h => ?_)
  obtain ⟨q, ns, k, rfl, hq, h0, h⟩ := h
  conv in defBody _ => whnf
  refine stc scTape 2 <| fc cC hr hgd (hkj := Nat.le_refl _) <| da_cons <| v scTape 0 rfl <| da_cons <| v scTape 1 rfl <| da_nil ⟨q, ns, k, rfl, hq, h0, fun c => ?_⟩
  refine if0 <| dt_cmp rfl <| v scTape 2 rfl <| de_int <| o2_eqi ⟨_, rfl, fun _ => ?_, fun _ => ?_⟩
  · refine rt1 (de_lst <| da_cons <| de_int <| da_nil <| li fun p hp => ⟨_, Sub.refl _, h p 0 hp⟩)
  refine if0 <| dt_cmp rfl <| v scTape 2 rfl <| de_op <| de_int <| de_int <| o2_pow ⟨by decide, by decide, by decide⟩ <| o2_ge ⟨_, rfl, fun _ => ?_, fun _ => ?_⟩
  · refine rt1 (de_lst <| da_cons <| de_op <| v scTape 2 rfl <| de_op <| de_int <| de_int <| o2_pow ⟨by decide, by decide, by decide⟩ <| o2_sub <| da_nil <| li fun p hp => ⟨_, Sub.refl _, h p _ hp⟩)
  refine stc scTape 3 <| de_int ?_
  refine stc scTape 4 <| de_op <| de_op <| de_op <| de_op <| v scTape 2 rfl <| de_int <| o2_mul (cm_r (by decide) (by decide)) <| de_op <| de_int <| v scTape 1 rfl <| o2_mul (cm_l (by decide) (by decide)) <| o2_add <| de_int <| o2_add <| v scTape 3 rfl <| o2_mod (by decide) ?_
  obtain ⟨a1, a2⟩ := md_lt (c * 48271 + 69621 * k + 11)
  generalize (c * 48271 + 69621 * k + 11) % 2305843009213693951 = one at *
  refine stc scTape 5 <| de_op <| de_op <| de_op <| de_op <| v scTape 4 rfl <| v scTape 4 rfl <| o2_mul (cm_l a1 a2) <| de_op <| de_int <| v scTape 1 rfl <| o2_mul (cm_l (by decide) (by decide)) <| o2_add <| v scTape 4 rfl <| o2_add <| v scTape 3 rfl <| o2_mod (by decide) ?_
  obtain ⟨b1, b2⟩ := md_lt (one * one + 40692 * k + one)
  generalize (one * one + 40692 * k + one) % 2305843009213693951 = two at *
  refine stc scTape 6 <| de_op <| de_op <| de_op <| v scTape 5 rfl <| v scTape 5 rfl <| o2_mul (cm_l b1 b2) <| v scTape 4 rfl <| o2_add <| v scTape 3 rfl <| o2_mod (by decide) ?_
  obtain ⟨c1, c2⟩ := md_lt (two * two + one)
  generalize (two * two + one) % 2305843009213693951 = three at *
  refine stc scTape 7 <| de_op <| de_op <| de_op <| v scTape 6 rfl <| v scTape 6 rfl <| o2_mul (cm_l c1 c2) <| v scTape 5 rfl <| o2_add <| v scTape 3 rfl <| o2_mod (by decide) ?_
  generalize (three * three + two) % 2305843009213693951 = four at *
  refine rt1 (de_lst <| da_cons ?_)
  refine de_op <| de_op <| de_op <| de_op <| de_op <| de_op <| v scTape 4 rfl <| v scTape 3 rfl <| o2_mul (cm_r (by decide) (by decide)) <| v scTape 5 rfl <| o2_add <| v scTape 3 rfl <| o2_mul (cm_r (by decide) (by decide)) <| v scTape 6 rfl <| o2_add <| v scTape 3 rfl <| o2_mul (cm_r (by decide) (by decide)) <| v scTape 7 rfl <| o2_add ?_
  exact da_nil <| li fun p hp => ⟨_, Sub.refl _, h p _ hp⟩
end
end SC

set_option maxHeartbeats 400000
/-! P11: _law_names. -/
namespace SC
open PySem L2 DL
theorem mup_noneS {m m' : M} (s : Sub m m') {x : Addr} (hx : m' x = none) : m x = none := by
  cases hmx : m x with
  | none => rfl
  | some o => rw [s x o hmx] at hx; cases hx
def strE : Expr → Option Str
  | .Constant (.str x) _ _ => some x
  | _ => none
/-- a row of texts -/
theorem da_strs {X : Cx} {Γ : G} {m : M} : ∀ {es : List Expr} (ss : List Str) {QL : List D → M → Prop}, es.map strE = ss.map some → QL (ss.map D.str) m → DA X es Γ m QL
  | [], [], _, _, q => da_nil q
  | [], _ :: _, _, h, _ => by cases h
  | _ :: _, [], _, h, _ => by cases h
  | e :: es, x :: ss, QL, h, q => by
    rw [List.map_cons, List.map_cons, List.cons.injEq] at h
    obtain ⟨h1, h2⟩ := h
    unfold strE at h1
    split at h1
    · cases h1
      exact da_cons (de_str (da_strs ss h2 q)) rfl
    · cases h1
section
variable {P : Program} {w : World} {K : PySem.W.Frag} {mg : Str → Option Value} {base : Heap}
abbrev sNames : Stmt := top 20
abbrev nNames : List Str := ["tape", "many", "letters", "way", "turn", "back", "stem", "names", "words", "at", "k"]
theorem scNames : Sf ["tape", "many", "letters", "way", "turn", "back", "stem", "names", "words", "at"] ["k"] ["tape", "many"] (defScope sNames) := sf_mk ⟨rfl, rfl, rfl, by decide +kernel, rfl, by decide +kernel, by decide +kernel⟩ (by decide +kernel)
theorem db_joinN {X : Cx} {st : Stmt} {sts : List Stmt} {Γ : G} {m : M} {E : DEnds} (W : G → M → Prop) (h : DS X st Γ m { E with nx := W }) (k : ∀ Γ' m', W Γ' m' → DB X sts Γ' m' E) : DB X (st :: sts) Γ m E :=
  db_cons (h.imp k (fun _ _ q => q) (fun _ _ q => q) (fun _ _ q => q))
def spNames : DSp := fun ds m Q => ∃ tp t many, ds = [.ref tp, .int many] ∧ m tp = some (.lst [.int t]) ∧ 0 ≤ many ∧ many ≤ 8 ∧
  ∀ q t' (names : List Str), m q = none → names.length = many.toNat → NamesOk names → Q (.ref q) (mup (mup m tp (.lst [.int t'])) q (.lst (names.map D.str)))
theorem abc_ix {c : Int} (h0 : 0 ≤ c) (h1 : c < 26) : atI abc.cps.toList c = some (97 + c.toNat) := by
  have := abc_at ⟨c.toNat, by omega⟩
  have h := atI_nat (xs := abc.cps.toList) (j := c.toNat) this
  rwa [Int.toNat_of_nonneg h0] at h
theorem ml1 : ∀ a : Fin 5, (cutS "melon" none (some ((a.val : Nat) : Int))).length ≤ 5 := by decide +kernel
theorem ml2 : ∀ a : Fin 5, (cutS "melon" (some (((a.val : Nat) : Int) + 1)) none).length ≤ 5 := by decide +kernel
theorem slen_app (a b : Str) : (a ++ b).length = a.length + b.length := strLen_append a b
theorem wds_at : ∀ i : Fin 13, wds[i.val]? = some (wds.getD i.val "") := by decide +kernel
theorem ok_names {f : Addr} {fd : FuncData} (B : Tx mg) (cD : Cd P w K mg base 1 "_law_digit" spDigit) (d : DefAt K mg "_law_names" sNames ["tape", "many"] f fd) : Cd P w K mg base 2 "_law_names" spNames := by
  refine d.cd (fd_of d.fn scNames.fs (fun ds m Q h => by obtain ⟨q, t, n, rfl, _⟩ := h; rfl) fun cdv A outer s H ds m Q hr hgd h => ?_)
  obtain ⟨tp, t, many, rfl, htp, hm0, hm8, h⟩ := h
  conv in defBody _ => whnf
  refine stc scNames 2 <| de_str ?_
  refine stc scNames 3 <| fc cD hr hgd (hkj := Nat.le_refl _) <| da_cons <| v scNames 0 rfl <| da_cons <| de_int <| da_nil ⟨tp, t, 3, rfl, htp, by decide, by decide, fun way t1 w0 w1 => ?_⟩
  refine stc scNames 4 <| fc cD hr hgd (hkj := Nat.le_refl _) <| da_cons <| v scNames 0 rfl <| da_cons <| de_int <| da_nil ⟨tp, t1, 26, rfl, mup_same, by decide, by decide, fun turn t2 u0 u1 => ?_⟩
  refine stc scNames 5 <| de_op <| de_int <| de_op <| de_int <| fc cD hr hgd (hkj := Nat.le_refl _) <| da_cons <| v scNames 0 rfl <| da_cons <| de_int <| da_nil ⟨tp, t2, 2, rfl, mup_same, by decide, by decide, fun bk t3 b0 b1 => ?_⟩
  refine o2_mul (cm_l (by decide) (by decide)) <| o2_sub ?_
  rw [mup_mup, mup_mup]
  refine db_joinN (fun Γ' m' => ∃ (g1 g2 g3 g4 : Option D) (q : Addr) (names : List Str) (t' : Int), Γ' = [some (.ref tp), some (.int many), some (.str abc), some (.int way), some (.int turn), some (.int (1 - 2 * bk)), g1, some (.ref q), g2, g3, g4] ∧ names.length = many.toNat ∧ NamesOk names ∧ m' q = some (.lst (names.map D.str)) ∧ Sub (mup m tp (.lst [.int t'])) m')
    (ds_if <| dt_cmp rfl <| v scNames 3 rfl <| de_int <| o2_eqi ⟨_, rfl, fun hc => ?_, fun hc => ?_⟩) fun Γ' m' hW => ?_
  · refine stc scNames 6 <| de_op <| de_ix <| v scNames 2 rfl <| v scNames 4 rfl <| ox_s (x := abc) (by decide +kernel) (abc_ix u0 u1) <| de_str <| o2_adds ?_ ?_
    · show (1 + 7 : Nat) ≤ sizeLine
      decide
    refine db_one (ds_map 7 [("k", 10)] (List.range many.toNat) (fun k => .int (k : Nat)) (fun k => .str (nm0 turn.toNat k)) scNames.fs.nd (blkOk_by (N := nNames) (sc := defScope sNames) (by decide +kernel)) (di_r1 rfl B.range <| v scNames 1 rfl ⟨_, rfl, by omega, by omega, rgD01 _, sl100 (by simp; omega), fun _ _ _ => True.intro, fun p acc k hp hk => ?_, fun q hq => ?_⟩))
    · intro s H C cl fp
      refine tb scNames.fs.nd 10 ?_
      intro s H C cl fp
      refine de_sls <| vb 6 rfl ?_
      refine de_op <| vb 10 rfl <| de_int <| o2_add ⟨_, rfl, _, rfl, ?_, Sub.refl _, rfl⟩
      show (1 + 7 : Nat) ≤ sizeLine
      decide
    · refine ⟨_, none, none, none, q, (List.range many.toNat).map (nm0 turn.toNat), t3, rfl, by simp, names_of (by omega) (nm0_ok ⟨turn.toNat, by omega⟩), ?_, Sub.new hq⟩
      rw [mup_same, List.map_map]; rfl
  · refine db_one (ds_if <| dt_cmp rfl <| v scNames 3 rfl <| de_int <| o2_eqi ⟨_, rfl, fun hc2 => ?_, fun hc2 => ?_⟩)
    · refine stc scNames 8 ?_
      refine de_lst ?_
      refine da_strs ["say", "slip", "pass", "of", "with", "else", "kinds", "marks", "front", "pick", "row"] ?_ ?_
      · rfl
      refine ⟨sl100 (by decide), fun wq hwq => ?_⟩
      refine db_one (ds_map 7 [("k", 10)] (List.range many.toNat) (fun k => .int (k : Nat)) (fun k => .str (nm1 turn.toNat k)) scNames.fs.nd (blkOk_by (N := nNames) (sc := defScope sNames) (by decide +kernel)) (di_r1 rfl B.range <| v scNames 1 rfl ⟨_, rfl, by omega, by omega, rgD01 _, sl100 (by simp; omega), fun _ _ _ => True.intro, fun p acc k hp hk => ?_, fun q hq => ?_⟩))
      · intro s H C cl fp
        refine tb scNames.fs.nd 10 ?_
        intro s H C cl fp
        refine de_ix <| de_op <| vb 8 rfl <| de_lst <| da_cons <| de_str <| da_cons <| de_str <| da_nil <| li fun z hz => ?_
        refine o2_addl (mup_some (mup_some mup_same hp) hz) mup_same (sl100 (by decide)) fun y hy => ?_
        refine de_op <| de_op <| vb 4 rfl <| vb 10 rfl <| o2_add <| de_int <| o2_mod (by decide) ?_
        have hmod : (turn + (k : Int)) % 13 = (((turn.toNat + k) % 13 : Nat) : Int) := by
          rw [Int.natCast_emod, Int.natCast_add, Int.toNat_of_nonneg u0]; rfl
        rw [hmod]
        have hw := wds_at ⟨(turn.toNat + k) % 13, Nat.mod_lt _ (by decide)⟩
        refine ox_l (.inl mup_same) (d := .str (nm1 turn.toNat k)) ?_ ⟨(Sub.new hz).trans (Sub.new hy), rfl⟩
        have := atI_map D.str (atI_get hw)
        exact this
      · refine ⟨none, _, none, none, q, (List.range many.toNat).map (nm1 turn.toNat), t3, rfl, by simp, names_of (by omega) (nm1_ok ⟨turn.toNat, by omega⟩), ?_, (Sub.new hwq).trans (Sub.new hq)⟩
        rw [mup_same, List.map_map]; rfl
    · refine stc scNames 9 <| fc cD hr hgd (hkj := Nat.le_refl _) <| da_cons <| v scNames 0 rfl <| da_cons <| de_int <| da_nil ⟨tp, t3, 5, rfl, mup_same, by decide, by decide, fun at_ t4 a0 a1 => ?_⟩
      rw [mup_mup]
      refine db_one (ds_map 7 [("k", 10)] (List.range many.toNat) (fun k => .int (k : Nat)) (fun k => .str (nm2 at_.toNat turn.toNat k)) scNames.fs.nd (blkOk_by (N := nNames) (sc := defScope sNames) (by decide +kernel)) (di_r1 rfl B.range <| v scNames 1 rfl ⟨_, rfl, by omega, by omega, rgD01 _, sl100 (by simp; omega), fun _ _ _ => True.intro, fun p acc k hp hk => ?_, fun q hq => ?_⟩))
      · intro s H C cl fp
        refine tb scNames.fs.nd 10 ?_
        intro s H C cl fp
        refine de_op <| de_op <| de_sls <| de_str <| vb 9 rfl ⟨_, rfl, _, rfl, by decide +kernel, ?_⟩
        refine de_ix <| vb 2 rfl <| de_op <| de_op <| vb 4 rfl <| vb 10 rfl <| o2_add <| de_int <| o2_mod (by decide) ?_
        refine ox_s (x := abc) (by decide +kernel) (abc_ix (Int.emod_nonneg _ (by decide)) (Int.emod_lt_of_pos _ (by decide))) <| o2_adds ?_ ?_
        · have := ml1 ⟨at_.toNat, by omega⟩
          rw [show ((⟨at_.toNat, by omega⟩ : Fin 5).val : Int) = at_ from Int.toNat_of_nonneg a0] at this
          exact sl100 (show _ + 1 ≤ 100 by omega)
        refine de_sls <| de_str ?_
        refine de_op <| vb 9 rfl <| de_int <| o2_add ⟨_, rfl, _, rfl, by decide +kernel, ?_⟩
        refine o2_adds ?_ ⟨Sub.refl _, ?_⟩
        · have h1 := ml1 ⟨at_.toNat, by omega⟩
          have h2 := ml2 ⟨at_.toNat, by omega⟩
          rw [show ((⟨at_.toNat, by omega⟩ : Fin 5).val : Int) = at_ from Int.toNat_of_nonneg a0] at h1 h2
          refine sl100 ?_
          rw [slen_app]
          show _ + 1 + _ ≤ 100
          omega
        · have hmod : ((turn + (k : Int)) % 26).toNat = (turn.toNat + k) % 26 := by omega
          rw [hmod]
          unfold nm2
          rw [Int.toNat_of_nonneg a0]; rfl
      · refine ⟨none, none, _, none, q, (List.range many.toNat).map (nm2 at_.toNat turn.toNat), t4, rfl, by simp, names_of (by omega) (nm2_ok ⟨at_.toNat, by omega⟩ ⟨turn.toNat, by omega⟩), ?_, Sub.new hq⟩
        rw [mup_same, List.map_map]; rfl
  · obtain ⟨g1, g2, g3, g4, q, names, t', rfl, hl, hno, hq, sb⟩ := hW
    have hbk : bk = 0 ∨ bk = 1 := by omega
    have fin : ∀ z (l : List Str), m' z = none → l.length = many.toNat → NamesOk l → ∃ m1, Sub m1 (mup m' z (.lst (l.map D.str))) ∧ Q (.ref z) m1 := fun z l hz hl2 hn2 => by
      have hz2 := (mup_none (mup_noneS sb hz)).1
      exact ⟨_, Sub.mupp sb, h z t' l hz2 hl2 hn2⟩
    refine rt1 (de_step <| v scNames 7 rfl <| v scNames 5 rfl ⟨q, _, _, rfl, rfl, .inl hq, ?_⟩)
    rcases hbk with rfl | rfl
    · exact .inl ⟨by decide, fun z hz => fin z names hz hl hno⟩
    · refine .inr ⟨by decide, fun z hz => ?_⟩
      rw [← List.map_reverse]
      exact fin z names.reverse hz (by simpa using hl) hno.rev
end
end SC

set_option maxHeartbeats 400000
/-! M9: what the law's houses keep; places name deeds. -/
namespace SC
open PySem L2 DL
/-- a kind's over is none or a kind named before it -/
structure KindsOk (ks : List (Str × Str)) : Prop where
  nd : (ks.map (·.1)).Nodup
  ne : ∀ k ∈ ks, k.1 ≠ ""
  few : ks.length ≤ 8
  ov : ∀ (i : Nat) (k : Str × Str), ks[i]? = some k → k.2 = "" ∨ ∃ j k', j < i ∧ ks[j]? = some k' ∧ k'.1 = k.2
mutual
/-- pass stands only where a slip is in hand -/
def psOk : Bool → T → Bool
  | b, .mk _ w _ ks => (decide (w ≠ .pass) || b) && psOks b (decide (w = .catch)) ks
def psOks : Bool → Bool → List T → Bool
  | _, _, [] => true
  | b, c, t :: ts => psOk b t && psOks (b || c) c ts
end
structure HouseOk (h : House) : Prop where
  nm : HouseNm h
  rnd : (h.rooms.map (·.1)).Nodup
  kin : KindsOk h.kinds
  call : ∀ x ∈ walkH h, x.2.w = .call → ∃ r ∈ h.rooms, r.1 = x.2.a
  slipk : ∀ x ∈ walkH h, x.2.w = .slip → ∃ k ∈ h.kinds, k.1 = x.2.a
  ps : ∀ r ∈ h.rooms, psOk false r.2 = true
  zzz : ∀ r ∈ h.rooms, r.1 ≠ "zzz"
theorem psOk_eq (b : Bool) (t : T) : psOk b t = ((decide (t.w ≠ .pass) || b) && psOks b (decide (t.w = .catch)) t.ks) := by cases t; rw [psOk]; rfl
mutual
theorem psOk_mono : ∀ {b : Bool} {t : T}, psOk b t = true → psOk true t = true
  | b, .mk l w a ks, h => by
    rw [psOk, Bool.and_eq_true] at h
    rw [psOk, Bool.or_true, Bool.true_and]
    exact psOks_mono h.2
theorem psOks_mono : ∀ {b c : Bool} {ts : List T}, psOks b c ts = true → psOks true c ts = true
  | _, _, [], _ => rfl
  | b, c, t :: ts, h => by
    rw [psOks, Bool.and_eq_true] at h
    rw [psOks, psOk_mono h.1, Bool.true_or, psOks_mono h.2]; rfl
end
theorem psOks_get : ∀ {b c : Bool} {ts : List T} {k : Nat} {u : T}, psOks b c ts = true → ts[k]? = some u → (k = 0 → psOk b u = true) ∧ (psOk (b || c) u = true ∨ (k = 0 ∧ psOk b u = true))
  | b, c, t :: ts, 0, u, h, e => by
    rw [psOks, Bool.and_eq_true] at h
    cases e
    exact ⟨fun _ => h.1, .inr ⟨rfl, h.1⟩⟩
  | b, c, t :: ts, k + 1, u, h, e => by
    rw [psOks, Bool.and_eq_true] at h
    obtain ⟨h1, h2⟩ := psOks_get h.2 (show ts[k]? = some u from e)
    refine ⟨fun z => by omega, .inl ?_⟩
    rcases h2 with h2 | ⟨_, h2⟩
    · rwa [Bool.or_assoc, Bool.or_self] at h2
    · exact h2
/-- a deed within a deed that is no catch -/
theorem ps_kid {b : Bool} {t u : T} {k : Nat} (h : psOk b t = true) (hc : t.w ≠ .catch ∨ k = 0) (hu : t.ks[k]? = some u) : psOk b u = true := by
  rw [psOk_eq, Bool.and_eq_true] at h
  obtain ⟨h1, h2⟩ := psOks_get h.2 hu
  rcases hc with hc | hc
  · rw [decide_eq_false hc, Bool.or_false] at h2
    rcases h2 with h2 | ⟨_, h2⟩ <;> exact h2
  · exact h1 hc
theorem ps_taker {b : Bool} {t u : T} {k : Nat} (h : psOk b t = true) (hu : t.ks[k]? = some u) : psOk true u = true := by
  rw [psOk_eq, Bool.and_eq_true] at h
  obtain ⟨_, h2⟩ := psOks_get h.2 hu
  rcases h2 with h2 | ⟨_, h2⟩ <;> exact psOk_mono h2
/-! ### places -/
theorem walk_pre {p : List Key} {n : Nat} : ∀ {t : T} {x : PT'}, x ∈ walkT p t → (walkT p t).length ≤ n → ∃ q, x.1 = p ++ q := by
  induction n generalizing p with
  | zero => intro t x _ hl; rw [walkT_eq] at hl; cases hl
  | succ n ih =>
    intro t x hx hl
    rw [walkT_eq] at hx
    rcases List.mem_cons.mp hx with rfl | hx
    · exact ⟨[], by simp⟩
    · obtain ⟨k, u, hu, hx2⟩ := walkTs_mem.mp hx
      rw [Nat.zero_add] at hx2
      have h1 := walkT_kid_len (p := p) hu
      obtain ⟨q, hq⟩ := ih (p := p ++ [.inl (k : Int)]) hx2 (by omega)
      exact ⟨.inl (k : Int) :: q, by rw [hq]; simp⟩
theorem walkT_fun {p : List Key} {n : Nat} : ∀ {t : T} {x y : PT'}, x ∈ walkT p t → y ∈ walkT p t → (walkT p t).length ≤ n → x.1 = y.1 → x.2 = y.2 := by
  induction n generalizing p with
  | zero => intro t x y _ _ hl; rw [walkT_eq] at hl; cases hl
  | succ n ih =>
    intro t x y hx hy hl he
    rw [walkT_eq] at hx hy
    rcases List.mem_cons.mp hx with rfl | hx <;> rcases List.mem_cons.mp hy with rfl | hy
    · rfl
    · obtain ⟨k, u, hu, hy2⟩ := walkTs_mem.mp hy
      obtain ⟨q, hq⟩ := walk_pre hy2 (Nat.le_refl _)
      rw [hq] at he
      have := congrArg List.length he
      simp at this
    · obtain ⟨k, u, hu, hy2⟩ := walkTs_mem.mp hx
      obtain ⟨q, hq⟩ := walk_pre hy2 (Nat.le_refl _)
      rw [hq] at he
      have := congrArg List.length he
      simp at this
    · obtain ⟨k, u, hu, hx2⟩ := walkTs_mem.mp hx
      obtain ⟨j, v, hv, hy2⟩ := walkTs_mem.mp hy
      obtain ⟨q, hq⟩ := walk_pre hx2 (Nat.le_refl _)
      obtain ⟨q', hq'⟩ := walk_pre hy2 (Nat.le_refl _)
      rw [Nat.zero_add] at hx2 hy2 hq hq'
      have hkj : k = j := by
        rw [hq, hq', List.append_assoc, List.append_assoc] at he
        have := List.append_cancel_left he
        simp at this
        omega
      subst hkj
      rw [hu] at hv
      cases hv
      have h1 := walkT_kid_len (p := p) hu
      exact ih hx2 hy2 (by omega) he
theorem walk_trans {p : List Key} {n : Nat} : ∀ {t : T} {x y : PT'}, (walkT p t).length ≤ n → x ∈ walkT p t → y ∈ walkT x.1 x.2 → y ∈ walkT p t := by
  induction n generalizing p with
  | zero => intro t x y hl; rw [walkT_eq] at hl; cases hl
  | succ n ih =>
    intro t x y hl hx hy
    rw [walkT_eq] at hx
    rcases List.mem_cons.mp hx with rfl | hx
    · exact hy
    · obtain ⟨k, u, hu, hx2⟩ := walkTs_mem.mp hx
      rw [Nat.zero_add] at hx2
      have h1 := walkT_kid_len (p := p) hu
      exact walkT_kid hu (ih (p := p ++ [.inl (k : Int)]) (by omega) hx2 hy)
theorem nodup_get {α β : Type} {f : α → β} : ∀ {l : List α} {x y : α}, (l.map f).Nodup → x ∈ l → y ∈ l → f x = f y → x = y
  | a :: l, x, y, h, hx, hy, e => by
    rw [List.map_cons, List.nodup_cons] at h
    rcases List.mem_cons.mp hx with ex | hx2 <;> rcases List.mem_cons.mp hy with ey | hy2
    · rw [ex, ey]
    · subst ex; exact absurd (by rw [e]; exact List.mem_map_of_mem hy2) h.1
    · subst ey; exact absurd (by rw [← e]; exact List.mem_map_of_mem hx2) h.1
    · exact nodup_get h.2 hx2 hy2 e
theorem HouseOk.fn {h : House} (z : HouseOk h) {x y : PT'} (hx : x ∈ walkH h) (hy : y ∈ walkH h) (e : x.1 = y.1) : x.2 = y.2 := by
  obtain ⟨r, hr, hx2⟩ := List.mem_flatMap.mp hx
  obtain ⟨r', hr', hy2⟩ := List.mem_flatMap.mp hy
  obtain ⟨q, hq⟩ := walk_pre hx2 (Nat.le_refl _)
  obtain ⟨q', hq'⟩ := walk_pre hy2 (Nat.le_refl _)
  have hn : r.1 = r'.1 := by
    rw [hq, hq'] at e
    simp at e
    exact e.1
  have : r = r' := nodup_get (f := (·.1)) z.rnd hr hr' hn
  subst this
  exact walkT_fun hx2 hy2 (Nat.le_refl _) e
/-! ### dicts -/
theorem any_find {κ : Type} [DecidableEq κ] (kvs : List (κ × D)) (k : κ) : (kvs.any fun kv => decide (kv.1 = k)) = (valD kvs k).isSome := by
  unfold valD
  rw [Option.isSome_map]
  induction kvs with
  | nil => rfl
  | cons x l ih =>
    rw [List.any_cons, List.find?_cons]
    by_cases hx : x.1 = k
    · rw [decide_eq_true hx]; rfl
    · rw [decide_eq_false hx]; exact ih
theorem valD_cons {κ : Type} [DecidableEq κ] (x : κ × D) (l : List (κ × D)) (k : κ) : valD (x :: l) k = if x.1 = k then some x.2 else valD l k := by
  unfold valD
  rw [List.find?_cons]
  by_cases hx : x.1 = k
  · rw [decide_eq_true hx, if_pos hx]; rfl
  · rw [decide_eq_false hx, if_neg hx]
theorem valD_app {κ : Type} [DecidableEq κ] (l : List (κ × D)) (k k' : κ) (v : D) : valD (l ++ [(k, v)]) k' = (valD l k').or (if k = k' then some v else none) := by
  induction l with
  | nil => rw [List.nil_append, valD_cons]; rfl
  | cons x l ih =>
    rw [List.cons_append, valD_cons, valD_cons, ih]
    split <;> rfl
theorem valD_map {κ : Type} [DecidableEq κ] (k k' : κ) (v : D) : ∀ l : List (κ × D), valD (l.map fun kv => if kv.1 = k then (kv.1, v) else kv) k' = if k = k' then (valD l k').map fun _ => v else valD l k'
  | [] => by split <;> rfl
  | x :: l => by
    rw [List.map_cons, valD_cons, valD_cons, valD_map k k' v l]
    by_cases h1 : x.1 = k
    · rw [if_pos h1]
      by_cases h2 : k = k'
      · subst h2; simp [h1]
      · simp [h1, h2]
    · rw [if_neg h1]
      by_cases h2 : k = k'
      · subst h2; simp [h1]
      · rw [if_neg h2, if_neg h2]
theorem valD_put {κ : Type} [DecidableEq κ] (l : List (κ × D)) (k k' : κ) (v : D) : valD (putD l k v) k' = if k = k' then some v else valD l k' := by
  unfold putD
  by_cases ha : (l.any fun kv => decide (kv.1 = k)) = true
  · rw [if_pos ha, valD_map]
    by_cases h : k = k'
    · subst h
      rw [if_pos rfl, if_pos rfl]
      rw [any_find] at ha
      cases hv : valD l k with
      | none => rw [hv] at ha; cases ha
      | some x => rfl
    · rw [if_neg h, if_neg h]
  · rw [if_neg ha, valD_app]
    by_cases h : k = k'
    · subst h
      rw [if_pos rfl, if_pos rfl]
      rw [any_find] at ha
      cases hv : valD l k with
      | none => rfl
      | some x => rw [hv] at ha; exact absurd rfl ha
    · rw [if_neg h, if_neg h]
      cases valD l k' <;> rfl
/-- a fold of puts: the last one at a key counts -/
theorem fold_get {κ α : Type} [DecidableEq κ] (kf : α → κ) (vf : α → D) (k : κ) (v : D) : ∀ (l : List α) (acc : List (κ × D)), (∀ y ∈ l, kf y = k → vf y = v) → (valD acc k = some v ∨ ∃ y ∈ l, kf y = k) →
    valD (l.foldl (fun acc x => putD acc (kf x) (vf x)) acc) k = some v
  | [], acc, _, h => by
    rcases h with h | ⟨y, hy, _⟩
    · exact h
    · cases hy
  | x :: l, acc, hv, h => by
    rw [List.foldl_cons]
    refine fold_get kf vf k v l _ (fun y hy => hv y (List.mem_cons_of_mem _ hy)) ?_
    by_cases hx : kf x = k
    · left; rw [valD_put, if_pos hx, hv x List.mem_cons_self hx]
    · rcases h with h | ⟨y, hy, e⟩
      · left; rw [valD_put, if_neg hx]; exact h
      · rcases List.mem_cons.mp hy with rfl | hy
        · exact absurd e hx
        · exact .inr ⟨y, hy, e⟩
theorem HouseOk.deeds {h : House} (z : HouseOk h) {x : PT'} (hx : x ∈ walkH h) : valD (deedsH h) x.1 = some (enc x.2) :=
  fold_get (fun x : PT' => x.1) (fun x => enc x.2) x.1 (enc x.2) _ _ (fun y hy e => by rw [z.fn hy hx e]) (.inr ⟨x, hx, rfl⟩)
def tabK (ks : List (Str × Str)) : List (Key × D) := ks.foldl (fun acc k => putD acc (.inr k.1) (.str k.2)) []
theorem tab_get {ks : List (Str × Str)} (z : KindsOk ks) {k : Str × Str} (hk : k ∈ ks) : valD (tabK ks) (.inr k.1) = some (.str k.2) :=
  fold_get (fun k : Str × Str => (.inr k.1 : Key)) (fun k => .str k.2) (.inr k.1) (.str k.2) _ _ (fun y hy e => by
    have : y.1 = k.1 := Sum.inr.inj e
    rw [nodup_get (f := (·.1)) z.nd hy hk this]) (.inr ⟨k, hk, rfl⟩)
theorem walk_room {h : House} {r : Str × T} (hr : r ∈ h.rooms) : ([.inr r.1], r.2) ∈ walkH h := List.mem_flatMap.mpr ⟨r, hr, walkT_self _ _⟩
theorem walk_kid {h : House} {p : List Key} {t u : T} {k : Nat} (hx : (p, t) ∈ walkH h) (hu : t.ks[k]? = some u) : (p ++ [.inl (k : Int)], u) ∈ walkH h := by
  obtain ⟨r, hr, hx2⟩ := List.mem_flatMap.mp hx
  refine List.mem_flatMap.mpr ⟨r, hr, ?_⟩
  exact walk_trans (Nat.le_refl _) hx2 (walkT_kid hu (walkT_self _ _))
end SC

set_option maxHeartbeats 2000000
/-! P5: deeds_of, slips_of, meets. -/
namespace SC
open PySem L2 DL
section
variable {P : Program} {w : World} {K : PySem.W.Frag} {mg : Str → Option Value} {base : Heap}
/-! ### deeds_of -/
abbrev sDeeds : Stmt := top 3
theorem scDeeds : Sf ["house", "found", "place", "deed"] [] ["house"] (defScope sDeeds) := sf_mk ⟨rfl, rfl, rfl, by decide +kernel, rfl, by decide +kernel, by decide +kernel⟩ (by decide +kernel)
def spDeeds : DSp := fun ds m Q => ∃ h, ds = [encH h] ∧ HouseSz h ∧ ∀ q, m q = none → Q (.ref q) (mup m q (.dT (deedsH h)))
theorem putD_len {κ : Type} [DecidableEq κ] (kvs : List (κ × D)) (k : κ) (d : D) : (putD kvs k d).length ≤ kvs.length + 1 := by
  unfold putD; split <;> simp
theorem fold_len {l : List PT'} : ∀ {acc : List (List Key × D)}, (l.foldl (fun acc x => putD acc x.1 (enc x.2)) acc).length ≤ acc.length + l.length := by
  induction l with
  | nil => intro acc; exact Nat.le_refl _
  | cons x l ih =>
    intro acc
    rw [List.foldl_cons]
    have h1 := ih (acc := putD acc x.1 (enc x.2))
    have h2 := putD_len acc x.1 (enc x.2)
    rw [List.length_cons]; omega
theorem ok_deeds {f : Addr} {fd : FuncData} (B : Tx mg) (cW : Cd P w K mg base 2 "walk_of" spWalk) (d : DefAt K mg "deeds_of" sDeeds ["house"] f fd) : Cd P w K mg base 3 "deeds_of" spDeeds := by
  refine d.cd (fd_of d.fn scDeeds.fs (fun ds m Q h => by obtain ⟨p, rfl, _⟩ := h; rfl) fun cdv A outer s H ds m Q hr hgd h => ?_)
  obtain ⟨hs, rfl, hz, h⟩ := h
  have hall := hz.all
  conv in defBody _ => whnf
  refine db_cons (st scDeeds 1 <| de_dnewT fun q hq => ?_)
  refine db_cons (ds_for p0 rfl (di_l <| fc cW hr hgd (hkj := Nat.le_refl _) <| da_cons <| v scDeeds 0 rfl <| da_nil ⟨hs, rfl, hz, fun r hr2 => ⟨r, _, rfl, .inl mup_same, fun i Γ' m' => (∃ p0 d0, Γ' = [some (encH hs), some (.ref q), p0, d0]) ∧
    Sub (mup m q (.dT (((walkH hs).take i).foldl (fun acc x => putD acc x.1 (enc x.2)) []))) m' ∧ m' r = some (.lst ((walkH hs).map encPT)), ⟨⟨_, _, rfl⟩, Sub.new hr2, mup_same⟩, fun i Γ' m' hi hW => .inl hW.2.2, fun i d' Γ' m' hd hW => ?_, fun Γ' m' hW => ?_⟩⟩))
  · obtain ⟨⟨p1, d1, rfl⟩, sb, hw⟩ := hW
    obtain ⟨x, hx, rfl⟩ := get_map hd
    have hqr := mup_none hr2
    refine tg2 scDeeds 2 3 <| db_one (ds_tput (u1 hr) rfl <| v scDeeds 3 rfl <| v scDeeds 1 rfl <| v scDeeds 2 rfl ⟨q, _, x.1, rfl, rfl, sb.at, ?_, ⟨_, _, rfl⟩, ?_, ?_⟩)
    · refine Nat.lt_of_le_of_lt (fold_len (acc := [])) ?_
      rw [List.length_take]
      exact Nat.lt_of_le_of_lt (show _ ≤ 225 by simp; omega) (by decide)
    · rw [List.take_succ, hx, Option.toList_some, List.foldl_append]
      exact sb.put
    · rw [mup_ne hqr.2]; exact hw
  · obtain ⟨⟨p1, d1, rfl⟩, sb, hw⟩ := hW
    rw [List.length_map, List.take_length] at sb
    exact db_one (ds_ret <| v scDeeds 1 rfl ⟨_, sb, h q hq⟩)

/-! ### slips_of, _law_slips -/
abbrev sSlips : Stmt := top 4
abbrev sLSlips : Stmt := top 30
theorem scSlips : Sf ["house"] ["place", "deed"] ["house"] (defScope sSlips) := sf_mk ⟨rfl, rfl, rfl, by decide +kernel, rfl, by decide +kernel, by decide +kernel⟩ (by decide +kernel)
theorem scLSlips : Sf ["house"] ["place", "deed"] ["house"] (defScope sLSlips) := sf_mk ⟨rfl, rfl, rfl, by decide +kernel, rfl, by decide +kernel, by decide +kernel⟩ (by decide +kernel)
def spSlips : DSp := fun ds m Q => ∃ h, ds = [encH h] ∧ HouseSz h ∧ ∀ q, m q = none → Q (.ref q) (mup m q (.lst ((slipsH h).map encPl)))
theorem ok_slips {f : Addr} {fd : FuncData} (B : Tx mg) (cW : Cd P w K mg base 2 "walk_of" spWalk) (d : DefAt K mg "slips_of" sSlips ["house"] f fd) : Cd P w K mg base 3 "slips_of" spSlips := by
  refine d.cd (fd_of d.fn scSlips.fs (fun ds m Q h => by obtain ⟨p, rfl, _⟩ := h; rfl) fun cdv A outer s H ds m Q hr hgd h => ?_)
  obtain ⟨hs, rfl, hz, h⟩ := h
  have hall := hz.all
  conv in defBody _ => whnf
  refine db_one (ds_ret <| de_fmap [("place", 1), ("deed", 2)] (walkH hs) encPT (fun x => if x.2.w = .slip then some (encPl x.1) else none) scSlips.fs.nd (blkOk_by (N := ["house", "place", "deed"]) (sc := defScope sSlips) (by decide +kernel))
    (di_l <| fc cW hr hgd (hkj := Nat.le_refl _) <| da_cons <| v scSlips 0 rfl <| da_nil ⟨hs, rfl, hz, fun r hr2 => ⟨r, _, rfl, .inl mup_same, rfl, sl1000 (by omega), fun p acc hp => .inl (mup_some mup_same hp), fun p acc x hp hx => ?_, fun p hp => ?_⟩⟩))
  · intro s H C cl fp
    refine tb2 scSlips.fs.nd 1 2 ?_
    intro s H C cl fp
    refine dt_cmp rfl <| de_ix <| vb 2 rfl <| de_int ?_
    rw [enc_tl]
    refine ox_t ix0 <| de_str <| o2_eqs ⟨_, rfl, Sub.refl _, fun hc => ?_, fun hc => ?_⟩
    · intro s H C cl fp
      refine vb 1 rfl ⟨Sub.refl _, ?_⟩
      exact if_pos (of_s .slip hc)
    · exact if_neg (of_ns .slip hc)
  · rw [filterMap_slips]
    exact ⟨_, Sub.mupp (Sub.new hr2), h p (mup_none hp).1⟩
theorem ok_lslips {f : Addr} {fd : FuncData} (B : Tx mg) (cW : Cd P w K mg base 48 "_law_all" spWalk) (d : DefAt K mg "_law_slips" sLSlips ["house"] f fd) : Cd P w K mg base 49 "_law_slips" spSlips := by
  refine d.cd (fd_of d.fn scLSlips.fs (fun ds m Q h => by obtain ⟨p, rfl, _⟩ := h; rfl) fun cdv A outer s H ds m Q hr hgd h => ?_)
  obtain ⟨hs, rfl, hz, h⟩ := h
  have hall := hz.all
  conv in defBody _ => whnf
  refine db_one (ds_ret <| de_fmap [("place", 1), ("deed", 2)] (walkH hs) encPT (fun x => if x.2.w = .slip then some (encPl x.1) else none) scLSlips.fs.nd (blkOk_by (N := ["house", "place", "deed"]) (sc := defScope sLSlips) (by decide +kernel))
    (di_l <| fc cW hr hgd (hkj := Nat.le_refl _) <| da_cons <| v scLSlips 0 rfl <| da_nil ⟨hs, rfl, hz, fun r hr2 => ⟨r, _, rfl, .inl mup_same, rfl, sl1000 (by omega), fun p acc hp => .inl (mup_some mup_same hp), fun p acc x hp hx => ?_, fun p hp => ?_⟩⟩))
  · intro s H C cl fp
    refine tb2 scLSlips.fs.nd 1 2 ?_
    intro s H C cl fp
    refine dt_cmp rfl <| de_ix <| vb 2 rfl <| de_int ?_
    rw [enc_tl]
    refine ox_t ix0 <| de_str <| o2_eqs ⟨_, rfl, Sub.refl _, fun hc => ?_, fun hc => ?_⟩
    · intro s H C cl fp
      refine vb 1 rfl ⟨Sub.refl _, ?_⟩
      exact if_pos (of_s .slip hc)
    · exact if_neg (of_ns .slip hc)
  · rw [filterMap_slips]
    exact ⟨_, Sub.mupp (Sub.new hr2), h p (mup_none hp).1⟩
end
end SC

set_option maxHeartbeats 200000
/-! P6: meets_at, meets_of, _law_meets. -/
namespace SC
open PySem L2 DL
section
variable {P : Program} {w : World} {K : PySem.W.Frag} {mg : Str → Option Value} {base : Heap}
/-- the table of words, its lists at four addresses -/
def wTab (p1 p2 p3 p4 : Addr) : List (Key × D) := [(.inr "pass", .ref p1), (.inr "catch", .ref p2), (.inr "clean", .ref p3), (.inr "call", .ref p4)]
theorem wTab_get (p1 p2 p3 p4 : Addr) (z : Addr) (w : W) {m : M} (h1 : m p1 = some (.lst [.str "pass"])) (h2 : m p2 = some (.lst [.str "by"])) (h3 : m p3 = some (.lst [.str "kept", .str "lost"])) (h4 : m p4 = some (.lst [.str "out"])) (hz : m z = some (.lst [])) :
    ∃ r, (valD (mergeD [] (wTab p1 p2 p3 p4)) (.inr w.s)).getD (.ref z) = .ref r ∧ m r = some (.lst ((wordsOf w).map D.str)) := by
  cases w <;> first | exact ⟨_, rfl, hz⟩ | exact ⟨_, rfl, h1⟩ | exact ⟨_, rfl, h2⟩ | exact ⟨_, rfl, h3⟩ | exact ⟨_, rfl, h4⟩
/-! ### meets_at -/
abbrev sMAt : Stmt := top 6
theorem scMAt : Sf ["place", "deed", "slips", "word", "words", "found", "what", "number"] ["slip"] ["place", "deed", "slips"] (defScope sMAt) := sf_mk ⟨rfl, rfl, rfl, by decide +kernel, rfl, by decide +kernel, by decide +kernel⟩ (by decide +kernel)
def spMAt : DSp := fun ds m Q => ∃ p t s sl, ds = [encPl p, enc t, .ref s] ∧ m s = some (.lst (List.map encPl sl)) ∧ t.okT ∧ t.ks.length ≤ 44 ∧ sl.length ≤ 225 ∧ ∀ q, m q = none → Q (.ref q) (mup m q (.lst (meetsAt p t sl)))
theorem ok_mat {f : Addr} {fd : FuncData} (B : Tx mg) (d : DefAt K mg "meets_at" sMAt ["place", "deed", "slips"] f fd) : Cd P w K mg base 1 "meets_at" spMAt := by
  refine d.cd (fd_of d.fn scMAt.fs (fun ds m Q h => by obtain ⟨p, t, s, sl, rfl, _⟩ := h; rfl) fun cdv A outer s H ds m Q hr hgd h => ?_)
  obtain ⟨p, t, ss, sl, rfl, hsl, hok, hk, hl, h⟩ := h
  have hml := meetsAt_len (p := p) hk hl
  rw [enc_tl]
  conv in defBody _ => whnf
  refine stc scMAt 3 <| de_ix <| v scMAt 1 rfl <| de_int <| ox_t ix0 ?_
  refine if0 <| dt_cmp rfl <| v scMAt 3 rfl <| de_str <| o2_eqs ⟨_, rfl, fun hc => ?_, fun hc => ?_⟩
  · have hw := of_s .slip hc
    have e : meetsAt p t sl = [mSlip p] := by unfold meetsAt; rw [if_pos hw]
    rw [e] at h
    refine rt1 ?_
    exact de_lst <| da_cons <| de_tup <| da_cons <| de_str <| da_cons <| v scMAt 0 rfl <| da_nil <| tu <| da_nil <| li fun q hq => ⟨_, Sub.refl _, h q hq⟩
  · have hw := of_ns .slip hc
    have e : meetsAt p t sl = (wordsOf t.w).flatMap (fun x => sl.map (mW x p)) ++ (List.range (takes t)).flatMap fun k => sl.map (mTake p k) := by unfold meetsAt; rw [if_neg hw]
    rw [e] at h hml
    rw [List.length_append] at hml
    refine stc scMAt 4 ?_
    refine de_get2 ?_ ?_ ?_
    · exact u1 hr
    · exact ⟨rfl, rfl, rfl, rfl⟩
    refine de_disp ?_ ?_ ?_ ?_ ?_
    · rfl
    · rfl
    · exact List.cons_ne_nil _ _
    · decide
    intro z hz
    refine de_str <| de_lst <| da_cons <| de_str <| da_nil <| li fun p1 h1 => de_str <| de_lst <| da_cons <| de_str <| da_nil <| li fun p2 h2 => de_str <| de_lst <| da_cons <| de_str <| da_cons <| de_str <| da_nil <| li fun p3 h3 => de_str <| de_lst <| da_cons <| de_str <| da_nil <| li fun p4 h4 => ?_
    obtain ⟨k3, n43⟩ := mup_none h4
    obtain ⟨k2, n32⟩ := mup_none h3
    obtain ⟨k1, n21⟩ := mup_none h2
    obtain ⟨k0, n1z⟩ := mup_none h1
    have sM : Sub m _ := (((((Sub.new (o := .dK []) hz).trans (Sub.new (o := .lst [D.str "pass"]) h1)).trans (Sub.new (o := .lst [D.str "by"]) h2)).trans (Sub.new (o := .lst [D.str "kept", D.str "lost"]) h3)).trans (Sub.new (o := .lst [D.str "out"]) h4))
    have l1 := mup_some (o := .lst [D.str "out"]) (mup_some (o := .lst [D.str "kept", D.str "lost"]) (mup_some (o := .lst [D.str "by"]) (mup_same (m := mup m z (.dK [])) (a := p1) (o := .lst [D.str "pass"])) h2) h3) h4
    have l2 := mup_some (o := .lst [D.str "out"]) (mup_some (o := .lst [D.str "kept", D.str "lost"]) (mup_same (m := mup (mup m z (.dK [])) p1 (.lst [D.str "pass"])) (a := p2) (o := .lst [D.str "by"])) h3) h4
    have l3 := mup_some (o := .lst [D.str "out"]) (mup_same (m := mup (mup (mup m z (.dK [])) p1 (.lst [D.str "pass"])) p2 (.lst [D.str "by"])) (a := p3) (o := .lst [D.str "kept", D.str "lost"])) h4
    have l4 := mup_same (m := mup (mup (mup (mup m z (.dK [])) p1 (.lst [D.str "pass"])) p2 (.lst [D.str "by"])) p3 (.lst [D.str "kept", D.str "lost"])) (a := p4) (o := .lst [D.str "out"])
    have lz := mup_some (o := .lst [D.str "out"]) (mup_some (o := .lst [D.str "kept", D.str "lost"]) (mup_some (o := .lst [D.str "by"]) (mup_some (o := .lst [D.str "pass"]) (mup_same (m := m) (a := z) (o := .dK [])) h1) h2) h3) h4
    generalize mup (mup (mup (mup (mup m z (.dK [])) p1 (.lst [D.str "pass"])) p2 (.lst [D.str "by"])) p3 (.lst [D.str "kept", D.str "lost"])) p4 (.lst [D.str "out"]) = m4 at *
    refine ⟨lz, wTab p1 p2 p3 p4, rfl, Nat.le_of_ble_eq_true rfl, ?_⟩
    have sM5 : Sub m (mup m4 z (.dK (mergeD [] (wTab p1 p2 p3 p4)))) := fun a o e => by
      rw [mup_ne (mne e hz)]; exact sM a o e
    have n1 : p1 ≠ z := mnf l1 lz (by simp)
    have n2 : p2 ≠ z := mnf l2 lz (by simp)
    have n3 : p3 ≠ z := mnf l3 lz (by simp)
    have n4 : p4 ≠ z := mnf l4 lz (by simp)
    rw [← mup_ne (m := m4) n1 (o := .dK (mergeD [] (wTab p1 p2 p3 p4)))] at l1
    rw [← mup_ne (m := m4) n2 (o := .dK (mergeD [] (wTab p1 p2 p3 p4)))] at l2
    rw [← mup_ne (m := m4) n3 (o := .dK (mergeD [] (wTab p1 p2 p3 p4)))] at l3
    rw [← mup_ne (m := m4) n4 (o := .dK (mergeD [] (wTab p1 p2 p3 p4)))] at l4
    have lz5 : mup m4 z (.dK (mergeD [] (wTab p1 p2 p3 p4))) z = _ := mup_same
    generalize mup m4 z (.dK (mergeD [] (wTab p1 p2 p3 p4))) = m5 at *
    refine ⟨z, rfl, ⟨_, lz5, .inl ⟨_, rfl⟩⟩, v scMAt 3 rfl <| de_lst <| da_nil <| li fun y hy => ⟨_, DG1.s (mup_some lz5 hy), ?_⟩⟩
    obtain ⟨r, er, hr5⟩ := wTab_get p1 p2 p3 p4 y t.w (mup_some l1 hy) (mup_some l2 hy) (mup_some l3 hy) (mup_some l4 hy) mup_same
    rw [er]
    have sM6 := sM5.trans (Sub.new (o := .lst []) hy)
    have hm6 : ∀ x, mup m5 y (.lst []) x = none → m x = none := fun x hx => by
      cases hmx : m x with
      | none => rfl
      | some o => rw [sM6 x o hmx] at hx; cases hx
    generalize mup m5 y (.lst []) = m6 at *
    clear l1 l2 l3 l4 lz5 n1 n2 n3 n4 sM5
    refine stc scMAt 5 <| de_lst <| da_nil <| li fun q hq => ?_
    have hqm := hm6 q hq
    have sl6 := (sM6.trans (Sub.new (o := .lst []) hq)) _ _ hsl
    refine db_cons (ds_for p0 rfl (di_l <| v scMAt 4 rfl ⟨r, _, rfl, .inl (mup_some hr5 hq), fun i Γ' m' => (∃ k1 k2, Γ' = [some (encPl p), some (.tup (.str t.w.s :: t.tl)), some (.ref ss), some (.str t.w.s), some (.ref r), some (.ref q), k1, k2, none]) ∧
      Sub (mup m6 q (.lst (((wordsOf t.w).take i).flatMap fun x => sl.map (mW x p)))) m', ⟨⟨_, _, rfl⟩, Sub.refl _⟩, fun i Γ' m' _ hW => .inl (hW.2 _ _ (mup_some hr5 hq)), fun i d' Γ' m' hd hW => ?_, fun Γ' m' hW => ?_⟩))
    · obtain ⟨⟨k1, k2, rfl⟩, sb⟩ := hW
      obtain ⟨x, hx, rfl⟩ := get_map hd
      have hsum := flat_part (f := fun x => sl.map (mW x p)) hx
      refine tg scMAt 6 <| db_one (ds_expr <| de_extend <| v scMAt 5 rfl ⟨q, rfl, ⟨_, sb.at⟩, ?_⟩)
      have hsl' : m' ss = some (.lst (sl.map encPl)) := sb _ _ (by rw [mup_ne (mne hsl hqm)]; exact sM6 _ _ hsl)
      refine de_map [("slip", 8)] sl encPl (mW x p) scMAt.fs.nd (blkOk_by (N := ["place", "deed", "slips", "word", "words", "found", "what", "number", "slip"]) (sc := defScope sMAt) (by decide +kernel)) (di_l <| v scMAt 2 rfl ⟨ss, _, rfl, .inl hsl', rfl, sl1000 (by omega), fun p acc hp => .inl (mup_some hsl' hp), fun p acc y hp hy => ?_, fun z hz => ?_⟩)
      · intro s H C cl fp
        refine tb scMAt.fs.nd 8 ?_
        intro s H C cl fp
        refine de_tup <| da_cons <| vb 6 rfl <| da_cons <| vb 0 rfl <| da_cons <| vb 8 rfl <| da_nil <| tu ?_
        exact ⟨Sub.refl _, rfl⟩
      · refine ⟨z, _, _, rfl, mup_some sb.at hz, mup_same, ?_, ⟨_, _, rfl⟩, ?_⟩
        · exact sl1000 (by omega)
        · rw [take_flat hx]
          exact (sb.trans (Sub.new hz)).put
    · obtain ⟨⟨k1, k2, rfl⟩, sb⟩ := hW
      rw [List.length_map, List.take_length] at sb
      refine if0 <| dt_cmp rfl <| v scMAt 3 rfl <| de_str <| o2_eqs ⟨_, rfl, fun h2 => ?_, fun h2 => ?_⟩
      · have hw2 := of_s .catch h2
        have hc2 := catch_len hw2 hok
        have ht := takes_len hk
        refine db_one (ds_for p0 rfl (di_r1 rfl B.range <| de_op <| c_len B.len <| da_cons <| v scMAt 1 rfl <| da_nil <| oc_lent <| de_int <| o2_sub ?_))
        rw [hc2]
        refine ⟨_, rfl, by omega, by omega, fun i Γ' m' => (∃ k1 k2, Γ' = [some (encPl p), some (.tup (.str t.w.s :: t.tl)), some (.ref ss), some (.str t.w.s), some (.ref r), some (.ref q), k1, k2, none]) ∧
          Sub (mup m6 q (.lst (((wordsOf t.w).flatMap fun x => sl.map (mW x p)) ++ ((List.range (takes t)).take i).flatMap fun k => sl.map (mTake p k)))) m', ⟨⟨_, _, rfl⟩, ?_⟩, fun _ _ _ _ _ => True.intro, fun i d' Γ' m' hd hW => ?_, fun Γ' m' hW => ?_⟩
        · simpa using sb
        · obtain ⟨⟨k1, k2, rfl⟩, sb⟩ := hW
          obtain ⟨hi, rfl⟩ := rgD_at hd
          have hx : (List.range (takes t))[i]? = some i := by rw [List.getElem?_range (by omega)]
          have hsum := flat_part (f := fun k => sl.map (mTake p k)) hx
          rw [show (0 : Int) + (i : Int) * 1 = (i : Int) by omega]
          refine tg scMAt 7 <| db_one (ds_expr <| de_extend <| v scMAt 5 rfl ⟨q, rfl, ⟨_, sb.at⟩, ?_⟩)
          have hsl' : m' ss = some (.lst (sl.map encPl)) := sb _ _ (by rw [mup_ne (mne hsl hqm)]; exact sM6 _ _ hsl)
          refine de_map [("slip", 8)] sl encPl (mTake p i) scMAt.fs.nd (blkOk_by (N := ["place", "deed", "slips", "word", "words", "found", "what", "number", "slip"]) (sc := defScope sMAt) (by decide +kernel)) (di_l <| v scMAt 2 rfl ⟨ss, _, rfl, .inl hsl', rfl, sl1000 (by omega), fun p acc hp => .inl (mup_some hsl' hp), fun p acc y hp hy => ?_, fun z hz => ?_⟩)
          · intro s H C cl fp
            refine tb scMAt.fs.nd 8 ?_
            intro s H C cl fp
            refine de_tup <| da_cons <| de_str <| da_cons <| vb 0 rfl <| da_cons <| vb 7 rfl <| da_cons <| vb 8 rfl <| da_nil <| tu ?_
            exact ⟨Sub.refl _, rfl⟩
          · refine ⟨z, _, _, rfl, mup_some sb.at hz, mup_same, ?_, ⟨_, _, rfl⟩, ?_⟩
            · rw [List.length_append]; exact sl1000 (by omega)
            · rw [take_flat hx, ← List.append_assoc]
              exact (sb.trans (Sub.new hz)).put
        · obtain ⟨⟨k1, k2, rfl⟩, sb⟩ := hW
          rw [rgD_len, Int.toNat_natCast, List.take_of_length_le (by simp)] at sb
          exact rt1 (v scMAt 5 rfl ⟨_, (Sub.mupp sM6).trans sb, h q hqm⟩)
      · have e2 : takes t = 0 := by unfold takes; rw [if_neg (of_ns .catch h2)]
        rw [e2] at h
        simp only [List.range_zero, List.flatMap_nil, List.append_nil] at h
        exact rt1 (v scMAt 5 rfl ⟨_, (Sub.mupp sM6).trans sb, h q hqm⟩)
end
end SC

set_option maxHeartbeats 400000
/-! P7: meets_of, _law_meets. -/
namespace SC
open PySem L2 DL
theorem mup_noneO {m m' : M} (s : Sub m m') {x : Addr} (hx : m' x = none) : m x = none := by
  cases hmx : m x with
  | none => rfl
  | some o => rw [s x o hmx] at hx; cases hx
section
variable {P : Program} {w : World} {K : PySem.W.Frag} {mg : Str → Option Value} {base : Heap}
/-! ### meets_of -/
abbrev sMeets : Stmt := top 7
theorem scMeets : Sf ["house", "slips", "found", "place", "deed"] ["slip"] ["house"] (defScope sMeets) := sf_mk ⟨rfl, rfl, rfl, by decide +kernel, rfl, by decide +kernel, by decide +kernel⟩ (by decide +kernel)
def spMeets (mt : House → List D) : DSp := fun ds m Q => ∃ h, ds = [encH h] ∧ HouseSz h ∧ ∀ q, m q = none → Q (.ref q) (mup m q (.lst (mt h)))
theorem ok_meets {f : Addr} {fd : FuncData} (B : Tx mg) (cW : Cd P w K mg base 2 "walk_of" spWalk) (cS : Cd P w K mg base 3 "slips_of" spSlips) (cM : Cd P w K mg base 1 "meets_at" spMAt) (d : DefAt K mg "meets_of" sMeets ["house"] f fd) : Cd P w K mg base 4 "meets_of" (spMeets meetsH) := by
  refine d.cd (fd_of d.fn scMeets.fs (fun ds m Q h => by obtain ⟨p, rfl, _⟩ := h; rfl) fun cdv A outer s H ds m Q hr hgd h => ?_)
  obtain ⟨hs, rfl, hz, h⟩ := h
  have hall := hz.all
  have hsl := slips_len hz
  conv in defBody _ => whnf
  refine stc scMeets 1 <| fc cS hr hgd (hkj := Nat.le_refl _) <| da_cons <| v scMeets 0 rfl <| da_nil ⟨hs, rfl, hz, fun a ha => ?_⟩
  refine db_cons (ds_map 2 [("slip", 5)] (slipsH hs) encPl mEnd scMeets.fs.nd (blkOk_by (N := ["house", "slips", "found", "place", "deed", "slip"]) (sc := defScope sMeets) (by decide +kernel)) (di_l <| v scMeets 1 rfl ⟨a, _, rfl, .inl mup_same, rfl, sl1000 (by omega), fun p acc hp => .inl (mup_some mup_same hp), fun p acc y hp hy => ?_, fun q hq => ?_⟩))
  · intro s H C cl fp
    refine tb scMeets.fs.nd 5 ?_
    intro s H C cl fp
    refine de_tup <| da_cons <| de_str <| da_cons <| vb 5 rfl <| da_nil <| tu ?_
    exact ⟨Sub.refl _, rfl⟩
  have hqm := (mup_none hq).1
  have hqa := (mup_none hq).2
  have lsl : mup (mup m a (.lst ((slipsH hs).map encPl))) q (.lst ((slipsH hs).map mEnd)) a = _ := mup_some mup_same hq
  refine db_cons (ds_for p0 rfl (di_l <| fc cW hr hgd (hkj := by decide) <| da_cons <| v scMeets 0 rfl <| da_nil ⟨hs, rfl, hz, fun r hr2 => ⟨r, _, rfl, .inl mup_same, fun i Γ' m' => (∃ p0 d0, Γ' = [some (encH hs), some (.ref a), some (.ref q), p0, d0, none]) ∧
    Sub (mup m q (.lst ((slipsH hs).map mEnd ++ ((walkH hs).take i).flatMap fun x => meetsAt x.1 x.2 (slipsH hs)))) m' ∧ m' a = some (.lst ((slipsH hs).map encPl)) ∧ m' r = some (.lst ((walkH hs).map encPT)), ⟨⟨_, _, rfl⟩, ?_, mup_some lsl hr2, mup_same⟩, fun i Γ' m' hi hW => .inl hW.2.2.2, fun i d' Γ' m' hd hW => ?_, fun Γ' m' hW => ?_⟩⟩))
  · simp only [List.take_zero, List.flatMap_nil, List.append_nil]
    exact (Sub.mupp (Sub.new ha)).trans (Sub.new hr2)
  · obtain ⟨⟨p1, d1, rfl⟩, sb, hwa, hwr⟩ := hW
    obtain ⟨x, hx, rfl⟩ := get_map hd
    have hmem := List.mem_of_getElem? hx
    have hk := hz.kid hmem
    have hsum := flat_part (f := fun x : PT' => meetsAt x.1 x.2 (slipsH hs)) hx
    have hml := flat_len (l := walkH hs) (f := fun x : PT' => meetsAt x.1 x.2 (slipsH hs)) (c := 45 * 225) (fun x hx => meetsAt_len (hz.kid hx) hsl)
    have hml2 : (walkH hs).length * (45 * 225) ≤ 225 * (45 * 225) := Nat.mul_le_mul_right _ hall
    refine tg2 scMeets 3 4 <| db_one (ds_expr <| de_extend <| v scMeets 2 rfl ⟨q, rfl, ⟨_, sb.at⟩, ?_⟩)
    refine fc cM hr hgd (hkj := by decide) <| da_cons <| v scMeets 3 rfl <| da_cons <| v scMeets 4 rfl <| da_cons <| v scMeets 1 rfl <| da_nil ⟨x.1, x.2, a, slipsH hs, rfl, hwa, hz.ok _ hmem, hk, hsl, fun z hz2 => ?_⟩
    refine ⟨z, _, _, rfl, mup_some sb.at hz2, mup_same, ?_, ⟨_, _, rfl⟩, ?_, ?_, ?_⟩
    · rw [List.length_append, List.length_map]
      exact sl1000 (Nat.le_trans (Nat.le_of_eq (Nat.add_assoc _ _ _)) (Nat.le_trans (Nat.add_le_add hsl hsum) (by omega)))
    · rw [take_flat hx, ← List.append_assoc]
      exact (sb.trans (Sub.new hz2)).put
    · rw [mup_ne (Ne.symm hqa)]; exact mup_some hwa hz2
    · rw [mup_ne (mup_none hr2).2]; exact mup_some hwr hz2
  · obtain ⟨⟨p1, d1, rfl⟩, sb, hwa, hwr⟩ := hW
    rw [List.length_map, List.take_length] at sb
    exact rt1 (v scMeets 2 rfl ⟨_, sb, h q hqm⟩)

/-! ### _law_meets -/
abbrev sLMeets : Stmt := top 31
theorem scLMeets : Sf ["house", "slips", "found", "words", "place", "deed", "slip"] ["word", "k"] ["house"] (defScope sLMeets) := sf_mk ⟨rfl, rfl, rfl, by decide +kernel, rfl, by decide +kernel, by decide +kernel⟩ (by decide +kernel)
theorem ok_lmeets {f : Addr} {fd : FuncData} (B : Tx mg) (cW : Cd P w K mg base 48 "_law_all" spWalk) (cS : Cd P w K mg base 49 "_law_slips" spSlips) (d : DefAt K mg "_law_meets" sLMeets ["house"] f fd) : Cd P w K mg base 50 "_law_meets" (spMeets lawMeetsH) := by
  refine d.cd (fd_of d.fn scLMeets.fs (fun ds m Q h => by obtain ⟨p, rfl, _⟩ := h; rfl) fun cdv A outer s H ds m Q hr hgd h => ?_)
  obtain ⟨hs, rfl, hz, h⟩ := h
  have hall := hz.all
  have hsl := slips_len hz
  conv in defBody _ => whnf
  refine stc scLMeets 1 <| fc cS hr hgd (hkj := Nat.le_refl _) <| da_cons <| v scLMeets 0 rfl <| da_nil ⟨hs, rfl, hz, fun a ha => ?_⟩
  refine stc scLMeets 2 ?_
  refine de_op <| de_map [("slip", 6)] (slipsH hs) encPl mEnd scLMeets.fs.nd (blkOk_by (N := ["house", "slips", "found", "words", "place", "deed", "slip", "word", "k"]) (sc := defScope sLMeets) (by decide +kernel)) (di_l <| v scLMeets 1 rfl ⟨a, _, rfl, .inl mup_same, rfl, sl1000 (by omega), fun p acc hp => .inl (mup_some mup_same hp), fun p acc y hp hy => ?_, fun b hb => ?_⟩)
  · intro s H C cl fp
    refine tb scLMeets.fs.nd 6 ?_
    intro s H C cl fp
    refine de_tup <| da_cons <| de_str <| da_cons <| vb 6 rfl <| da_nil <| tu ?_
    exact ⟨Sub.refl _, rfl⟩
  refine de_map [("slip", 6)] (slipsH hs) encPl mSlip scLMeets.fs.nd (blkOk_by (N := ["house", "slips", "found", "words", "place", "deed", "slip", "word", "k"]) (sc := defScope sLMeets) (by decide +kernel)) (di_l <| v scLMeets 1 rfl ⟨a, _, rfl, .inl (mup_some mup_same hb), rfl, sl1000 (by omega), fun p acc hp => .inl (mup_some (mup_some mup_same hb) hp), fun p acc y hp hy => ?_, fun c hc => ?_⟩)
  · intro s H C cl fp
    refine tb scLMeets.fs.nd 6 ?_
    intro s H C cl fp
    refine de_tup <| da_cons <| de_str <| da_cons <| vb 6 rfl <| da_nil <| tu ?_
    exact ⟨Sub.refl _, rfl⟩
  refine o2_addl (mup_some mup_same hc) mup_same (sl1000 (by simp; omega)) fun q hq => ?_
  have la := mup_some (o := .lst ((slipsH hs).map mEnd ++ (slipsH hs).map mSlip)) (mup_some (o := .lst ((slipsH hs).map mSlip)) (mup_some (o := .lst ((slipsH hs).map mEnd)) (mup_same (m := m) (a := a) (o := .lst ((slipsH hs).map encPl))) hb) hc) hq
  have sM2 := (((Sub.new (o := .lst ((slipsH hs).map encPl)) ha).trans (Sub.new (o := .lst ((slipsH hs).map mEnd)) hb)).trans (Sub.new (o := .lst ((slipsH hs).map mSlip)) hc))
  have hqm := mup_noneO sM2 hq
  have sM2q := sM2.trans (Sub.new (o := .lst ((slipsH hs).map mEnd ++ (slipsH hs).map mSlip)) hq)
  have lq := mup_same (m := mup (mup (mup m a (.lst ((slipsH hs).map encPl))) b (.lst ((slipsH hs).map mEnd))) c (.lst ((slipsH hs).map mSlip))) (a := q) (o := .lst ((slipsH hs).map mEnd ++ (slipsH hs).map mSlip))
  have naq : a ≠ q := mne (mup_some (mup_some mup_same hb) hc) hq
  generalize mup (mup (mup (mup m a (.lst ((slipsH hs).map encPl))) b (.lst ((slipsH hs).map mEnd))) c (.lst ((slipsH hs).map mSlip))) q (.lst ((slipsH hs).map mEnd ++ (slipsH hs).map mSlip)) = m2 at *
  clear hc hb sM2 hq
  refine stc scLMeets 3 ?_
  refine de_disp ?_ ?_ ?_ ?_ ?_
  · rfl
  · rfl
  · exact List.cons_ne_nil _ _
  · decide
  intro z hz2
  refine de_str <| de_lst <| da_cons <| de_str <| da_nil <| li fun p1 h1 => de_str <| de_lst <| da_cons <| de_str <| da_nil <| li fun p2 h2 => de_str <| de_lst <| da_cons <| de_str <| da_cons <| de_str <| da_nil <| li fun p3 h3 => de_str <| de_lst <| da_cons <| de_str <| da_nil <| li fun p4 h4 => ?_
  have sM : Sub m2 _ := (((((Sub.new (o := .dK []) hz2).trans (Sub.new (o := .lst [D.str "pass"]) h1)).trans (Sub.new (o := .lst [D.str "by"]) h2)).trans (Sub.new (o := .lst [D.str "kept", D.str "lost"]) h3)).trans (Sub.new (o := .lst [D.str "out"]) h4))
  have nq1 : q ≠ p1 := mne (mup_some lq hz2) h1
  have nq2 : q ≠ p2 := mne (mup_some (mup_some lq hz2) h1) h2
  have nq3 : q ≠ p3 := mne (mup_some (mup_some (mup_some lq hz2) h1) h2) h3
  have nq4 : q ≠ p4 := mne (mup_some (mup_some (mup_some (mup_some lq hz2) h1) h2) h3) h4
  have nqz : q ≠ z := mne lq hz2
  have l1 := mup_some (o := .lst [D.str "out"]) (mup_some (o := .lst [D.str "kept", D.str "lost"]) (mup_some (o := .lst [D.str "by"]) (mup_same (m := mup m2 z (.dK [])) (a := p1) (o := .lst [D.str "pass"])) h2) h3) h4
  have l2 := mup_some (o := .lst [D.str "out"]) (mup_some (o := .lst [D.str "kept", D.str "lost"]) (mup_same (m := mup (mup m2 z (.dK [])) p1 (.lst [D.str "pass"])) (a := p2) (o := .lst [D.str "by"])) h3) h4
  have l3 := mup_some (o := .lst [D.str "out"]) (mup_same (m := mup (mup (mup m2 z (.dK [])) p1 (.lst [D.str "pass"])) p2 (.lst [D.str "by"])) (a := p3) (o := .lst [D.str "kept", D.str "lost"])) h4
  have l4 := mup_same (m := mup (mup (mup (mup m2 z (.dK [])) p1 (.lst [D.str "pass"])) p2 (.lst [D.str "by"])) p3 (.lst [D.str "kept", D.str "lost"])) (a := p4) (o := .lst [D.str "out"])
  have lz := mup_some (o := .lst [D.str "out"]) (mup_some (o := .lst [D.str "kept", D.str "lost"]) (mup_some (o := .lst [D.str "by"]) (mup_some (o := .lst [D.str "pass"]) (mup_same (m := m2) (a := z) (o := .dK [])) h1) h2) h3) h4
  generalize mup (mup (mup (mup (mup m2 z (.dK [])) p1 (.lst [D.str "pass"])) p2 (.lst [D.str "by"])) p3 (.lst [D.str "kept", D.str "lost"])) p4 (.lst [D.str "out"]) = m4 at *
  refine ⟨lz, wTab p1 p2 p3 p4, rfl, Nat.le_of_ble_eq_true rfl, ?_⟩
  have sM5 : Sub m2 (mup m4 z (.dK (mergeD [] (wTab p1 p2 p3 p4)))) := fun a o e => by
    rw [mup_ne (mne e hz2)]; exact sM a o e
  have n1 : p1 ≠ z := mnf l1 lz (by simp)
  have n2 : p2 ≠ z := mnf l2 lz (by simp)
  have n3 : p3 ≠ z := mnf l3 lz (by simp)
  have n4 : p4 ≠ z := mnf l4 lz (by simp)
  rw [← mup_ne (m := m4) n1 (o := .dK (mergeD [] (wTab p1 p2 p3 p4)))] at l1
  rw [← mup_ne (m := m4) n2 (o := .dK (mergeD [] (wTab p1 p2 p3 p4)))] at l2
  rw [← mup_ne (m := m4) n3 (o := .dK (mergeD [] (wTab p1 p2 p3 p4)))] at l3
  rw [← mup_ne (m := m4) n4 (o := .dK (mergeD [] (wTab p1 p2 p3 p4)))] at l4
  have lz5 : mup m4 z (.dK (mergeD [] (wTab p1 p2 p3 p4))) z = _ := mup_same
  generalize mup m4 z (.dK (mergeD [] (wTab p1 p2 p3 p4))) = m5 at *
  clear h1 h2 h3 h4 lz hz2 n1 n2 n3 n4 sM
  have la5 := sM5 _ _ la
  have lq5 := sM5 _ _ lq
  refine db_cons (ds_for p0 rfl (di_l <| fc cW hr hgd (hkj := by decide) <| da_cons <| v scLMeets 0 rfl <| da_nil ⟨hs, rfl, hz, fun r hr2 => ⟨r, _, rfl, .inl mup_same, fun i Γ' m' => (∃ p0 d0 s0, Γ' = [some (encH hs), some (.ref a), some (.ref q), some (.ref z), p0, d0, s0, none, none]) ∧
    Sub (mup (mup m5 r (.lst ((walkH hs).map encPT))) q (.lst (((slipsH hs).map mEnd ++ (slipsH hs).map mSlip) ++ ((walkH hs).take i).flatMap fun x => (slipsH hs).flatMap fun s => lawAt x.1 x.2 s))) m', ⟨⟨_, _, _, rfl⟩, ?_⟩, fun i Γ' m' hi hW => .inl (hW.2 _ _ ?_), fun i d' Γ' m' hd hW => ?_, fun Γ' m' hW => ?_⟩⟩))
  · simp only [List.take_zero, List.flatMap_nil, List.append_nil]
    intro x o e
    by_cases hx : x = q
    · subst hx; rw [mup_same] at e; cases e; exact mup_some lq5 hr2
    · rw [mup_ne hx] at e; exact e
  · rw [mup_ne (mne lq5 hr2).symm, mup_same]
  · obtain ⟨⟨p1', d1', s1', rfl⟩, sb⟩ := hW
    obtain ⟨x, hx, rfl⟩ := get_map hd
    have hmem := List.mem_of_getElem? hx
    have hk := hz.kid hmem
    have hok := hz.ok _ hmem
    have ht := takes_len hk
    have hsum := flat_part (f := fun x : PT' => (slipsH hs).flatMap fun s => lawAt x.1 x.2 s) hx
    have hml := flat_len (l := walkH hs) (f := fun x : PT' => (slipsH hs).flatMap fun s => lawAt x.1 x.2 s) (c := 45 * 225) (fun x hx => by
      have h1 := flat_len (l := slipsH hs) (f := fun s => lawAt x.1 x.2 s) (c := 45) (fun s _ => lawAt_len (hz.kid hx))
      have h2 : (slipsH hs).length * 45 ≤ 225 * 45 := Nat.mul_le_mul_right _ hsl
      show ((slipsH hs).flatMap fun s => lawAt x.1 x.2 s).length ≤ 45 * 225
      omega)
    have hml2 : (walkH hs).length * (45 * 225) ≤ 225 * (45 * 225) := Nat.mul_le_mul_right _ hall
    have hbig := Nat.le_trans hsum (Nat.le_trans hml hml2)
    generalize hcur : ((slipsH hs).map mEnd ++ (slipsH hs).map mSlip) ++ ((walkH hs).take i).flatMap (fun x => (slipsH hs).flatMap fun s => lawAt x.1 x.2 s) = cur at sb
    have hcl : cur.length + ((slipsH hs).flatMap fun s => lawAt x.1 x.2 s).length ≤ 3000000 := by
      rw [← hcur, List.length_append, List.length_append, List.length_map, List.length_map]
      exact Nat.le_trans (Nat.le_of_eq (Nat.add_assoc _ _ _)) (Nat.le_trans (Nat.add_le_add (show _ ≤ 450 by omega) hbig) (by decide))
    have sb6 : Sub (mup (mup m5 r (.lst ((walkH hs).map encPT))) q (.lst cur)) m' := sb
    have lz6 : ∀ {o m''}, Sub (mup (mup m5 r (.lst ((walkH hs).map encPT))) q o) m'' → m'' z = some (.dK (mergeD [] (wTab p1 p2 p3 p4))) := fun sb => sb _ _ (by rw [mup_ne nqz.symm]; exact mup_some lz5 hr2)
    have la6 : ∀ {o m''}, Sub (mup (mup m5 r (.lst ((walkH hs).map encPT))) q o) m'' → m'' a = some (.lst ((slipsH hs).map encPl)) := fun sb => sb _ _ (by rw [mup_ne naq]; exact mup_some la5 hr2)
    have lp1 : ∀ {o m''}, Sub (mup (mup m5 r (.lst ((walkH hs).map encPT))) q o) m'' → m'' p1 = some (.lst [.str "pass"]) := fun sb => sb _ _ (by rw [mup_ne nq1.symm]; exact mup_some l1 hr2)
    have lp2 : ∀ {o m''}, Sub (mup (mup m5 r (.lst ((walkH hs).map encPT))) q o) m'' → m'' p2 = some (.lst [.str "by"]) := fun sb => sb _ _ (by rw [mup_ne nq2.symm]; exact mup_some l2 hr2)
    have lp3 : ∀ {o m''}, Sub (mup (mup m5 r (.lst ((walkH hs).map encPT))) q o) m'' → m'' p3 = some (.lst [.str "kept", .str "lost"]) := fun sb => sb _ _ (by rw [mup_ne nq3.symm]; exact mup_some l3 hr2)
    have lp4 : ∀ {o m''}, Sub (mup (mup m5 r (.lst ((walkH hs).map encPT))) q o) m'' → m'' p4 = some (.lst [.str "out"]) := fun sb => sb _ _ (by rw [mup_ne nq4.symm]; exact mup_some l4 hr2)
    refine tg2 scLMeets 4 5 <| db_one (ds_for p0 rfl (di_l <| v scLMeets 1 rfl ⟨a, _, rfl, .inl (la6 sb6), fun j Γ' m' => (∃ s0, Γ' = [some (encH hs), some (.ref a), some (.ref q), some (.ref z), some (encPl x.1), some (enc x.2), s0, none, none]) ∧
      Sub (mup (mup m5 r (.lst ((walkH hs).map encPT))) q (.lst (cur ++ ((slipsH hs).take j).flatMap fun s => lawAt x.1 x.2 s))) m', ⟨⟨_, rfl⟩, ?_⟩, fun j Γ' m' hj hW => .inl (la6 hW.2), fun j d' Γ' m' hd hW => ?_, fun Γ' m' hW => ?_⟩))
    · simpa using sb6
    · obtain ⟨⟨s0, rfl⟩, sb⟩ := hW
      obtain ⟨sl, hsl2, rfl⟩ := get_map hd
      have hpart := flat_part (f := fun s => lawAt x.1 x.2 s) hsl2
      have hla : (lawAt x.1 x.2 sl).length = (wordsOf x.2.w).length + takes x.2 := by simp [lawAt]
      generalize hcur2 : cur ++ ((slipsH hs).take j).flatMap (fun s => lawAt x.1 x.2 s) = cur2 at sb
      have hc2 : cur2.length + (wordsOf x.2.w).length + takes x.2 ≤ 3000000 := by
        rw [← hcur2, List.length_append]
        have h3 := Nat.le_trans (Nat.add_le_add_left hpart cur.length) hcl
        rw [hla] at h3
        omega
      have hfin : cur ++ ((slipsH hs).take (j + 1)).flatMap (fun s => lawAt x.1 x.2 s) = cur2 ++ (wordsOf x.2.w).map (fun y => mW y x.1 sl) ++ (List.range (takes x.2)).map fun k => mTake x.1 k sl := by
        rw [take_flat hsl2, ← List.append_assoc, hcur2, List.append_assoc]; rfl
      refine tg scLMeets 6 ?_
      refine ex1 <| de_extend <| v scLMeets 2 rfl ⟨q, rfl, ⟨_, sb.at⟩, ?_⟩
      refine de_map [("word", 7)] (wordsOf x.2.w) D.str (fun y => mW y x.1 sl) scLMeets.fs.nd (blkOk_by (N := ["house", "slips", "found", "words", "place", "deed", "slip", "word", "k"]) (sc := defScope sLMeets) (by decide +kernel)) (di_l ?_)
      refine de_get2 ?_ ?_ ?_
      · exact u1 hr
      · exact ⟨rfl, rfl, rfl, rfl⟩
      refine v scLMeets 3 rfl ⟨z, rfl, ⟨_, lz6 sb, .inl ⟨_, rfl⟩⟩, de_ix <| v scLMeets 5 rfl <| de_int <| ox_w ?_⟩
      refine de_lst <| da_nil <| li fun y hy => ⟨_, DG1.s (mup_some (lz6 sb) hy), ?_⟩
      obtain ⟨g, eg, hg⟩ := wTab_get p1 p2 p3 p4 y x.2.w (mup_some (lp1 sb) hy) (mup_some (lp2 sb) hy) (mup_some (lp3 sb) hy) (mup_some (lp4 sb) hy) mup_same
      rw [eg]
      refine ⟨g, _, rfl, .inl hg, rfl, sl1000 (by omega), fun p acc hp => .inl (mup_some hg hp), fun p acc u hp hu => ?_, fun c hc => ?_⟩
      · intro s H C cl fp
        refine tb scLMeets.fs.nd 7 ?_
        intro s H C cl fp
        refine de_tup <| da_cons <| vb 7 rfl <| da_cons <| vb 4 rfl <| da_cons <| vb 6 rfl <| da_nil <| tu ?_
        exact ⟨Sub.refl _, rfl⟩
      · refine ⟨c, _, _, rfl, mup_some (mup_some sb.at hy) hc, mup_same, ?_, ?_⟩
        · rw [List.length_map]; exact sl1000 (by omega)
        have sb2 := ((sb.trans (Sub.new (o := .lst []) hy)).trans (Sub.new (o := .lst ((wordsOf x.2.w).map fun y => mW y x.1 sl)) hc)).put (b := .lst (cur2 ++ (wordsOf x.2.w).map fun y => mW y x.1 sl))
        generalize mup (mup (mup m' y (.lst [])) c (.lst ((wordsOf x.2.w).map fun y => mW y x.1 sl))) q (.lst (cur2 ++ (wordsOf x.2.w).map fun y => mW y x.1 sl)) = m7 at *
        clear hc hg eg hy sb
        refine if0 <| dt_cmp rfl <| de_ix <| v scLMeets 5 rfl <| de_int <| ox_w <| de_str <| o2_eqs ⟨_, rfl, fun h2 => ?_, fun h2 => ?_⟩
        · have hw2 := of_s .catch h2
          have hc3 := catch_len hw2 hok
          refine db_one (ds_expr <| de_extend <| v scLMeets 2 rfl ⟨q, rfl, ⟨_, sb2.at⟩, ?_⟩)
          refine de_map [("k", 8)] (List.range (takes x.2)) (fun k => .int (k : Nat)) (fun k => mTake x.1 k sl) scLMeets.fs.nd (blkOk_by (N := ["house", "slips", "found", "words", "place", "deed", "slip", "word", "k"]) (sc := defScope sLMeets) (by decide +kernel)) (di_r1 rfl B.range <| de_op <| c_len B.len <| da_cons <| v scLMeets 5 rfl <| da_nil <| oc_lene <| de_int <| o2_sub ?_)
          rw [hc3]
          refine ⟨_, rfl, by omega, by omega, ?_, sl1000 (by simp; omega), fun _ _ _ => True.intro, fun p acc u hp hu => ?_, fun c hc => ?_⟩
          · rw [Int.toNat_natCast]; simp [rgD]
          · intro s H C cl fp
            refine tb scLMeets.fs.nd 8 ?_
            intro s H C cl fp
            refine de_tup <| da_cons <| de_str <| da_cons <| vb 4 rfl <| da_cons <| vb 8 rfl <| da_cons <| vb 6 rfl <| da_nil <| tu ?_
            exact ⟨Sub.refl _, rfl⟩
          · refine ⟨c, _, _, rfl, mup_some sb2.at hc, mup_same, ?_, db_nil ⟨⟨_, rfl⟩, ?_⟩⟩
            · rw [List.length_append, List.length_map, List.length_map, List.length_range]; exact sl1000 (by omega)
            · rw [hfin]
              exact (sb2.trans (Sub.new hc)).put
        · have e2 : takes x.2 = 0 := by unfold takes; rw [if_neg (of_ns .catch h2)]
          refine db_nil ⟨⟨_, rfl⟩, ?_⟩
          rw [hfin, e2]
          simpa using sb2
    · obtain ⟨⟨s0, rfl⟩, sb⟩ := hW
      rw [List.length_map, List.take_length, ← hcur, List.append_assoc, ← take_flat (f := fun x : PT' => (slipsH hs).flatMap fun s => lawAt x.1 x.2 s) hx] at sb
      exact ⟨⟨_, _, _, rfl⟩, sb⟩
  · obtain ⟨⟨p1', d1', s1', rfl⟩, sb⟩ := hW
    rw [List.length_map, List.take_length] at sb
    exact rt1 (v scLMeets 2 rfl ⟨_, (Sub.mupp (sM2q.trans (sM5.trans (Sub.new hr2)))).trans sb, h q hqm⟩)
end
end SC

set_option maxHeartbeats 400000
/-! P8: is_meet. -/
namespace SC
open PySem L2 DL
theorem RefOk.sub {m m' : M} {q : Addr} (h : RefOk m q) (s : Sub m m') : RefOk m' q := by
  rcases h with ⟨ds, h | h⟩ | ⟨kvs, h⟩
  · exact .inl ⟨ds, .inl (s _ _ h)⟩
  · exact .inl ⟨ds, .inr (s _ _ h)⟩
  · exact .inr ⟨kvs, s _ _ h⟩
mutual
theorem RP.sub {b : Bool} {m m' : M} (s : Sub m m') : ∀ {d : D} {p : PyData}, RP b m d p → RP b m' d p
  | _, _, .non => .non
  | _, _, .bl c => .bl c
  | _, _, .int i => .int i
  | _, _, .str x => .str x
  | _, _, .tup h => .tup (RPs.sub s h)
  | _, _, .dic h1 h2 => .dic h1 (s _ _ h2)
  | _, _, .lst h1 h2 h3 => .lst h1 (s _ _ h2) (RPs.sub s h3)
theorem RPs.sub {b : Bool} {m m' : M} (s : Sub m m') : ∀ {d : List D} {p : List PyData}, RPs b m d p → RPs b m' d p
  | _, _, .nil => .nil
  | _, _, .cons h1 h2 => .cons (RP.sub s h1) (RPs.sub s h2)
end
mutual
theorem rp_kin {b : Bool} {m : M} : ∀ {f e : D}, kinR f = true → RP b m e (pdOf f) → e = f
  | .int i, e, _, h => by cases h; rfl
  | .str x, e, _, h => by cases h; rfl
  | .tup l, e, hk, h => by
    rw [pdOf] at h
    rw [kinR] at hk
    cases h with
    | tup h => rw [rps_kin hk h]
theorem rps_kin {b : Bool} {m : M} : ∀ {f e : List D}, kinRs f = true → RPs b m e (pdOfs f) → e = f
  | [], e, _, h => by cases h; rfl
  | x :: xs, e, hk, h => by
    rw [pdOfs] at h
    rw [kinRs, Bool.and_eq_true] at hk
    cases h with
    | cons h1 h2 => rw [rp_kin hk.1 h1, rps_kin hk.2 h2]
end
mutual
theorem rp_det {b : Bool} {m : M} : ∀ {f : D} {p : PyData}, pure' f = true → RP b m f p → p = pdOf f
  | .non, _, _, .non => rfl
  | .bl _, _, _, .bl _ => rfl
  | .int _, _, _, .int _ => rfl
  | .str _, _, _, .str _ => rfl
  | .tup l, _, hk, .tup h => by rw [pure'] at hk; rw [pdOf, rps_det hk h]
  | .ref _, _, hk, _ => by cases hk
theorem rps_det {b : Bool} {m : M} : ∀ {f : List D} {p : List PyData}, pures f = true → RPs b m f p → p = pdOfs f
  | [], _, _, .nil => rfl
  | x :: xs, _, hk, .cons h1 h2 => by
    rw [pures, Bool.and_eq_true] at hk
    rw [pdOfs, rp_det hk.1 h1, rps_det hk.2 h2]
end
/-- what is asked of a thing that is told of a house -/
def IsQ (h : House) (e : D) (m : M) (Q : D → M → Prop) : Prop :=
  (∃ b pe, RP b m e pe ∧ pok pe = true ∧ pe.depth ≤ 3 ∧ ∀ c, (c = true ↔ IsMt h e) → Q (.bl c) m) ∨ ((∀ mt, IsMt h mt → deq mt e = false) ∧ Q (.bl false) m)
theorem deq_tup {as : List D} {e : D} (h : deq (.tup as) e = true) : ∃ bs, e = .tup bs := by
  cases e <;> simp_all [deq]
section
variable {P : Program} {w : World} {K : PySem.W.Frag} {mg : Str → Option Value} {base : Heap}
abbrev sIs : Stmt := top 8
theorem scIs : Sf ["house", "thing", "same"] ["meet"] ["house", "thing"] (defScope sIs) := sf_mk ⟨rfl, rfl, rfl, by decide +kernel, rfl, by decide +kernel, by decide +kernel⟩ (by decide +kernel)
def spIs : DSp := fun ds m Q => ∃ h e, ds = [encH h, e] ∧ HouseNm h ∧ (∀ q ∈ refs e, RefOk m q) ∧ IsQ h e m Q
theorem ok_is {f : Addr} {fd : FuncData} (B : Tx mg) (cM : Cd P w K mg base 4 "meets_of" (spMeets meetsH)) (d : DefAt K mg "is_meet" sIs ["house", "thing"] f fd) : Cd P w K mg base 5 "is_meet" spIs := by
  refine d.cd (fd_of d.fn scIs.fs (fun ds m Q h => by obtain ⟨p, e, rfl, _⟩ := h; rfl) fun cdv A outer s H ds m Q hr hgd h => ?_)
  obtain ⟨hs, e, rfl, hz, hrf, h⟩ := h
  have hu64 := u64 hr
  have hu128 := u128 hr
  have hlen : (meetsH hs).length ≤ 3000000 := by
    have hsl := slips_len hz.sz
    have hml := flat_len (l := walkH hs) (f := fun x : PT' => meetsAt x.1 x.2 (slipsH hs)) (c := 45 * 225) (fun x hx => meetsAt_len (hz.sz.kid hx) hsl)
    have hml2 : (walkH hs).length * (45 * 225) ≤ 225 * (45 * 225) := Nat.mul_le_mul_right _ hz.sz.all
    unfold meetsH
    rw [List.length_append, List.length_map]
    exact Nat.le_trans (Nat.add_le_add hsl (Nat.le_trans hml hml2)) (by decide)
  conv in defBody _ => whnf
  refine db_cons (ds_fmap 2 [("meet", 3)] (meetsH hs) id (fun x => if deq x e then some x else none) scIs.fs.nd (blkOk_by (N := ["house", "thing", "same", "meet"]) (sc := defScope sIs) (by decide +kernel))
    (di_l <| fc cM hr hgd (hkj := Nat.le_refl _) <| da_cons <| v scIs 0 rfl <| da_nil ⟨hs, rfl, hz.sz, fun a ha => ⟨a, _, rfl, .inl mup_same, (List.map_id _).symm, sl1000 (by omega), fun p acc hp => .inl (mup_some mup_same hp), fun p acc x hp hx => ?_, fun p hp => ?_⟩⟩))
  · have hm := meets_iff2.mp hx
    have ht := hm.th hz
    obtain ⟨as, rfl⟩ := hm.tup
    intro s H C cl fp
    refine tb scIs.fs.nd 3 ?_
    intro s H C cl fp
    refine dt_cmp rfl <| vb 3 rfl <| vb 1 rfl ?_
    have hd : deps as ≤ 60 := by
      have h1 := dep_pd (d := .tup as)
      have h2 := ht.dep
      rw [dep] at h1; omega
    refine o2_eqd hu64 hd ht.kin (fun q hq => RefOk.sub (hrf q hq) ((Sub.new ha).trans (Sub.new hp))) ⟨_, rfl, Sub.refl _, fun hc => ?_, fun hc => ?_⟩
    · intro s H C cl fp
      refine vb 3 rfl ⟨Sub.refl _, ?_⟩
      exact if_pos hc
    · exact if_neg (by rw [hc]; decide)
  · have sM := (Sub.new (o := .lst (meetsH hs)) ha).trans (Sub.new (o := .lst ((meetsH hs).filterMap fun x => if deq x e then some x else none)) hp)
    have hl : mup (mup m a (.lst (meetsH hs))) p (.lst ((meetsH hs).filterMap fun x => if deq x e then some x else none)) p = _ := mup_same
    generalize mup (mup m a (.lst (meetsH hs))) p (.lst ((meetsH hs).filterMap fun x => if deq x e then some x else none)) = m2 at *
    refine rt1 ?_
    refine de_and <| de_cmp rfl <| c_len B.len <| da_cons <| v scIs 2 rfl <| da_nil <| oc_lenl (.inl hl) <| de_int <| o2_gt ⟨_, rfl, fun hc => ?_, fun hc => ?_⟩
    · cases hfl : (meetsH hs).filterMap (fun x => if deq x e then some x else none) with
      | nil => rw [hfl] at hc; cases hc
      | cons f0 fl =>
        rw [hfl] at hl
        have hf0 : f0 ∈ (meetsH hs).filterMap (fun x => if deq x e then some x else none) := by rw [hfl]; exact List.mem_cons_self
        obtain ⟨x, hx, hx2⟩ := List.mem_filterMap.mp hf0
        have hdq : deq x e = true ∧ x = f0 := by
          by_cases h1 : deq x e = true
          · rw [if_pos h1] at hx2; exact ⟨h1, Option.some.inj hx2⟩
          · rw [if_neg h1] at hx2; cases hx2
        obtain ⟨hdq, rfl⟩ := hdq
        have hm := meets_iff2.mp hx
        have ht := hm.th hz
        rcases h with ⟨b, pe, hrp, hpk, hdp, hq⟩ | ⟨hno, _⟩
        · obtain ⟨as, ea⟩ := hm.tup
          obtain ⟨bs, eb⟩ : ∃ bs, e = .tup bs := by rw [ea] at hdq; exact deq_tup hdq
          obtain ⟨s1, s2, s3⟩ := pok_repr ht.pok (Nat.le_trans ht.dep (by decide))
          obtain ⟨t1, t2, t3⟩ := pok_repr hpk hdp
          refine de_one <| de_cmp rfl <| c_repr B.repr <| da_cons <| de_ix <| v scIs 2 rfl <| de_int <| ox_l (.inl hl) ix0 <| da_nil <| oc_repr hgd hu128 (rp_of (b := b) (kin_pure ht.kin)) (.inl ⟨as, ea⟩) s1 s2 s3 <| c_repr B.repr <| da_cons <| v scIs 1 rfl <| da_nil <|
            oc_repr hgd hu128 (RP.sub sM hrp) (.inl ⟨bs, eb⟩) t1 t2 t3 <| o2_eqs ⟨_, sM, hq _ ?_⟩
          rw [decide_eq_true_eq]
          constructor
          · intro hsh
            have := shown_inj (pok_good ht.pok) (pok_good hpk) hsh
            rw [← this] at hrp
            rw [rp_kin ht.kin hrp]; exact hm
          · intro he
            have := deq_kin ht.kin (he.th hz).kin hdq
            subst this
            have h3 : pe = pdOf x := by
              exact rp_det (kin_pure ht.kin) hrp
            rw [h3]
        · rw [hno _ hm] at hdq; cases hdq
    · have hnil : (meetsH hs).filterMap (fun x => if deq x e then some x else none) = [] := by
        cases hfl : (meetsH hs).filterMap (fun x => if deq x e then some x else none) with
        | nil => rfl
        | cons f0 fl => rw [hfl] at hc; simp at hc
      rcases h with ⟨b, pe, hrp, hpk, hdp, hq⟩ | ⟨_, hq⟩
      · refine ⟨_, sM, hq false ⟨fun z => Bool.noConfusion z, fun he => ?_⟩⟩
        have h1 := List.filterMap_eq_nil_iff.mp hnil e (meets_iff2.mpr he)
        rw [if_pos (deq_refl (kin_pure (he.th hz).kin))] at h1
        cases h1
      · exact ⟨_, sM, hq⟩
end
end SC

set_option maxHeartbeats 400000
/-! P9: kinds, takers. -/
namespace SC
open PySem L2 DL
def kp (k : Str × Str) : D := .tup [.str k.1, .str k.2]
theorem tab_take {ks : List (Str × Str)} {i : Nat} {k : Str × Str} (h : ks[i]? = some k) : tabK (ks.take (i + 1)) = putD (tabK (ks.take i)) (.inr k.1) (.str k.2) := by
  unfold tabK
  rw [List.take_succ, h, Option.toList_some, List.foldl_append]; rfl
theorem tab_len : ∀ {l : List (Str × Str)} {acc : List (Key × D)}, (l.foldl (fun acc k => putD acc (.inr k.1) (.str k.2)) acc).length ≤ acc.length + l.length
  | [], acc => Nat.le_refl _
  | x :: l, acc => by
    rw [List.foldl_cons]
    have h1 := tab_len (l := l) (acc := putD acc (.inr x.1) (.str x.2))
    have h2 := putD_len acc (.inr x.1 : Key) (.str x.2)
    rw [List.length_cons]; omega
section
variable {P : Program} {w : World} {K : PySem.W.Frag} {mg : Str → Option Value} {base : Heap}
/-! ### overs_of -/
abbrev sOvers : Stmt := top 10
theorem scOvers : Sf ["kinds", "name", "table", "found", "kind", "over"] [] ["kinds", "name"] (defScope sOvers) := sf_mk ⟨rfl, rfl, rfl, by decide +kernel, rfl, by decide +kernel, by decide +kernel⟩ (by decide +kernel)
def spOvers : DSp := fun ds m Q => ∃ ks x, ds = [.tup (List.map kp ks), .str x] ∧ KindsOk ks ∧ (∃ k ∈ ks, k.1 = x) ∧ ∀ q l, m q = none → Q (.ref q) (mup m q (.lst (List.map D.str l)))
theorem ok_overs {f : Addr} {fd : FuncData} (B : Tx mg) (d : DefAt K mg "overs_of" sOvers ["kinds", "name"] f fd) : Cd P w K mg base 1 "overs_of" spOvers := by
  refine d.cd (fd_of d.fn scOvers.fs (fun ds m Q h => by obtain ⟨p, x, rfl, _⟩ := h; rfl) fun cdv A outer s H ds m Q hr hgd h => ?_)
  obtain ⟨ks, x, rfl, hz, hx, h⟩ := h
  have hfew := hz.few
  conv in defBody _ => whnf
  refine stc scOvers 2 <| de_dnew fun z hzn => ?_
  refine db_cons (ds_for p0 rfl (di_t <| v scOvers 0 rfl ⟨_, rfl, fun i Γ' m' => (∃ k0 o0, Γ' = [some (.tup (ks.map kp)), some (.str x), some (.ref z), none, k0, o0]) ∧ Sub (mup m z (.dK (tabK (ks.take i)))) m',
    ⟨⟨_, _, rfl⟩, Sub.refl _⟩, fun _ _ _ _ _ => True.intro, fun i d' Γ' m' hd hW => ?_, fun Γ' m' hW => ?_⟩))
  · obtain ⟨⟨k0, o0, rfl⟩, sb⟩ := hW
    obtain ⟨k, hk, rfl⟩ := get_map hd
    refine tg2 scOvers 4 5 <| db_one (ds_dput (u1 hr) rfl <| v scOvers 5 rfl <| v scOvers 2 rfl <| v scOvers 4 rfl ⟨z, _, _, rfl, rfl, sb.at, ?_, ⟨_, _, rfl⟩, ?_⟩)
    · refine Nat.lt_of_le_of_lt (tab_len (acc := [])) ?_
      exact Nat.lt_of_le_of_lt (show _ ≤ 8 by simp; omega) (by decide)
    · rw [tab_take hk]; exact sb.put
  · obtain ⟨⟨k0, o0, rfl⟩, sb⟩ := hW
    rw [List.length_map, List.take_length] at sb
    obtain ⟨k, hk, rfl⟩ := hx
    obtain ⟨i, hi⟩ := List.getElem?_of_mem hk
    have hil : i < ks.length := (List.getElem?_eq_some_iff.mp hi).1
    refine stc scOvers 3 <| de_lst <| da_nil <| li fun q hq => ?_
    refine db_cons (ds_while p0 (fun n Γ' m2 => ∃ (x : Str) (acc : List Str), (∃ k0 o0, Γ' = [some (.tup (ks.map kp)), some (.str x), some (.ref z), some (.ref q), k0, o0]) ∧ Sub (mup m' q (.lst (acc.map D.str))) m2 ∧ acc.length + n ≤ ks.length ∧
      ((x = "" ∧ n = 0) ∨ ∃ i k, ks[i]? = some k ∧ x = k.1 ∧ n = i + 1)) (i + 1) ⟨k.1, [], ⟨_, _, rfl⟩, Sub.refl _, by simp; omega, .inr ⟨i, k, hi, rfl, rfl⟩⟩ fun n Γ' m2 hW => ?_)
    obtain ⟨x, acc, ⟨k0, o0, rfl⟩, sb2, hl, hx⟩ := hW
    refine dt_cmp rfl <| v scOvers 1 rfl <| de_str <| o2_nes ⟨_, rfl, fun hc => ?_, fun hc => ?_⟩
    · rcases hx with ⟨rfl, _⟩ | ⟨i, k, hi, rfl, rfl⟩
      · cases hc
      · have hlz : m' z = _ := sb.at
        have hqz : z ≠ q := mne hlz hq
        have hqm := mup_noneO (sb.old hzn) hq
        have hil : i < ks.length := (List.getElem?_eq_some_iff.mp hi).1
        refine ex1 <| de_append <| v scOvers 3 rfl ⟨q, rfl, ⟨_, sb2.at⟩, v scOvers 1 rfl ⟨_, sb2.at, Nat.lt_of_le_of_lt (show _ ≤ 8 by simp; omega) (by decide), ?_⟩⟩
        have sb3 : Sub (mup m' q (.lst ((acc ++ [k.1]).map D.str))) (mup m2 q (.lst (acc.map D.str ++ [D.str k.1]))) := by rw [List.map_append]; exact sb2.put
        refine db_one (st scOvers 1 <| de_dget (u1 hr) <| v scOvers 2 rfl <| v scOvers 1 rfl ⟨z, .str k.2, rfl, ?_, ?_⟩)
        · have := DG1.s (x := k.1) (sb3 z _ (by rw [mup_ne hqz]; exact hlz))
          rw [tab_get hz (List.mem_of_getElem? hi)] at this
          exact this
        · rcases hz.ov i k hi with e | ⟨j, k', hj, hk', e⟩
          · exact ⟨0, by omega, k.2, acc ++ [k.1], ⟨_, _, rfl⟩, sb3, by simp; omega, .inl ⟨e, rfl⟩⟩
          · exact ⟨j + 1, by omega, k.2, acc ++ [k.1], ⟨_, _, rfl⟩, sb3, by simp; omega, .inr ⟨j, k', hk', e.symm, rfl⟩⟩
    · have hqm := mup_noneO (sb.old hzn) hq
      exact rt1 (v scOvers 3 rfl ⟨_, (Sub.mupp (sb.old hzn)).trans sb2, h q acc hqm⟩)
/-! ### is_under -/
abbrev sUnder : Stmt := top 11
theorem scUnder : Sf ["kinds", "name", "over"] [] ["kinds", "name", "over"] (defScope sUnder) := sf_mk ⟨rfl, rfl, rfl, by decide +kernel, rfl, by decide +kernel, by decide +kernel⟩ (by decide +kernel)
def spUnder : DSp := fun ds m Q => ∃ ks x y, ds = [.tup (List.map kp ks), .str x, .str y] ∧ KindsOk ks ∧ (∃ k ∈ ks, k.1 = x) ∧ ∀ c, Q (.bl c) m
theorem ok_under {f : Addr} {fd : FuncData} (B : Tx mg) (cO : Cd P w K mg base 1 "overs_of" spOvers) (d : DefAt K mg "is_under" sUnder ["kinds", "name", "over"] f fd) : Cd P w K mg base 2 "is_under" spUnder := by
  refine d.cd (fd_of d.fn scUnder.fs (fun ds m Q h => by obtain ⟨p, x, y, rfl, _⟩ := h; rfl) fun cdv A outer s H ds m Q hr hgd h => ?_)
  obtain ⟨ks, x, y, rfl, hz, hx, h⟩ := h
  conv in defBody _ => whnf
  refine rt1 ?_
  refine de_cmp rfl <| v scUnder 2 rfl <| fc cO hr hgd (hkj := Nat.le_refl _) <| da_cons <| v scUnder 0 rfl <| da_cons <| v scUnder 1 rfl <| da_nil ⟨ks, x, rfl, hz, hx, fun q l hq => ?_⟩
  exact o2_insl mup_same ⟨_, Sub.new hq, h _⟩
/-! ### taker_for -/
abbrev sTaker : Stmt := top 13
theorem scTaker : Sf ["house", "deeds", "deed", "slip", "number", "taker"] [] ["house", "deeds", "deed", "slip"] (defScope sTaker) := sf_mk ⟨rfl, rfl, rfl, by decide +kernel, rfl, by decide +kernel, by decide +kernel⟩ (by decide +kernel)
def spTaker : DSp := fun ds m Q => ∃ h dd t p, ds = [encH h, .ref dd, enc t, encPl p] ∧ HouseOk h ∧ m dd = some (.dT (deedsH h)) ∧ t.w = .catch ∧ t.okT ∧ p ∈ slipsH h ∧ Q .non m ∧ ∀ n : Nat, n < takes t → Q (.int n) m
theorem enum_get {ds : List D} {i : Nat} {d : D} (h : (enumD ds)[i]? = some d) : ∃ e, ds[i]? = some e ∧ d = .tup [.int (i : Nat), e] := by
  unfold enumD at h
  rw [List.getElem?_mapIdx] at h
  cases e : ds[i]? with
  | none => rw [e] at h; cases h
  | some x => rw [e] at h; cases h; exact ⟨x, rfl, rfl⟩
theorem ok_taker {f : Addr} {fd : FuncData} (B : Tx mg) (cU : Cd P w K mg base 2 "is_under" spUnder) (d : DefAt K mg "taker_for" sTaker ["house", "deeds", "deed", "slip"] f fd) : Cd P w K mg base 3 "taker_for" spTaker := by
  refine d.cd (fd_of d.fn scTaker.fs (fun ds m Q h => by obtain ⟨p, x, y, z, rfl, _⟩ := h; rfl) fun cdv A outer s H ds m Q hr hgd h => ?_)
  obtain ⟨hs, dd, t, p, rfl, hz, hdd, hw, hok, hp, hN, hI⟩ := h
  obtain ⟨u, hu, huw⟩ := slip_walk hp
  obtain ⟨k, hk, hka⟩ := hz.slipk _ hu huw
  obtain ⟨x, ks, hks⟩ : ∃ x ks, t.ks = x :: ks := by
    have : t.ks ≠ [] := by unfold T.okT at hok; rw [hw] at hok; exact hok
    match hh : t.ks, this with
    | x :: ks, _ => exact ⟨x, ks, rfl⟩
  have e : t.tl = enc x :: takD ks (ks.map enc) := by unfold T.tl; rw [hw, hks]; rfl
  have ht : takes t = ks.length := by unfold takes; rw [if_pos hw, hks]; rfl
  have eu : enc u = .tup [.str u.w.s, .str u.a] := by rw [enc_tl]; unfold T.tl; rw [huw]; rfl
  rw [enc_tl, e]
  conv in defBody _ => whnf
  refine db_cons (ds_for p0 rfl (di_enT rfl B.enumerate <| de_slt <| v scTaker 2 rfl <| de_int <| xi <| xt <| xt ?_))
  have e2 : cutD (D.str t.w.s :: enc x :: takD ks (ks.map enc)) (some 2) none = ks.map fun t => .tup [.str t.lab, enc t] := (cut_from _ 2 (by simp)).trans (takD_map ks)
  rw [e2]
  refine ⟨fun i Γ' m' => (∃ k0 o0, Γ' = [some (encH hs), some (.ref dd), some (.tup (.str t.w.s :: enc x :: takD ks (ks.map enc))), some (encPl p), k0, o0]) ∧ m' = m, ⟨⟨_, _, rfl⟩, rfl⟩, fun _ _ _ _ _ => True.intro, fun i d' Γ' m' hd hW => ?_, fun Γ' m' hW => ?_⟩
  · obtain ⟨⟨k0, o0, rfl⟩, rfl⟩ := hW
    obtain ⟨d2, hd2, rfl⟩ := enum_get hd
    obtain ⟨y, hy, rfl⟩ := get_map hd2
    have hi : i < ks.length := (List.getElem?_eq_some_iff.mp hy).1
    refine tg2 scTaker 4 5 ?_
    refine if0 <| dt_val (fun _ => rfl) <| fc cU hr hgd (hkj := Nat.le_refl _) <| da_cons <| de_ix <| v scTaker 0 rfl <| de_int <| ox_t ix0 <| da_cons ?_
    refine de_ix <| de_dget (u1 hr) <| v scTaker 1 rfl <| v scTaker 3 rfl ⟨dd, enc u, rfl, ?_, ?_⟩
    · have := DG1.t (m := m') (ks := p) hdd
      rw [hz.deeds hu] at this
      exact this
    · rw [eu]
      refine de_int <| ox_t ix1 <| da_cons <| de_ix <| v scTaker 5 rfl <| de_int <| ox_t ix0 <| da_nil ⟨hs.kinds, u.a, y.lab, rfl, hz.kin, ⟨k, hk, hka⟩, fun c => ⟨c, rfl, fun hc => ?_, fun hc => ?_⟩⟩
      · exact rt1 (v scTaker 4 rfl ⟨_, Sub.refl _, hI i (by omega)⟩)
      · exact db_nil ⟨⟨_, _, rfl⟩, rfl⟩
  · obtain ⟨⟨k0, o0, rfl⟩, rfl⟩ := hW
    exact rt1 (de_non ⟨_, Sub.refl _, hN⟩)
end
end SC

set_option maxHeartbeats 400000
/-! P12: _law_kinds, _law_choices, _law_shares. -/
namespace SC
open PySem L2 DL
theorem sub_outT {m0 m : M} {q : Addr} {o : DO} (h : Sub m0 m) (hq : m0 q = none) : Sub m0 (mup m q o) := fun c x e => by
  rw [mup_ne (mne e hq)]; exact h c x e
theorem ox_2' {X : Cx} {m : M} {Q : D → M → Prop} {p : Addr} {x y : D} {b : Bool} (h : m p = some (.lst [x, y])) (q : Q (if b then y else x) m) : OX X (.ref p) (.int (if b then 1 else 0)) m Q := by
  cases b with
  | true => exact ox_l (.inl h) ix1 q
  | false => exact ox_l (.inl h) ix0 q
structure KI (names : List Str) (i : Nat) (ks : List (Str × Str)) : Prop where
  len : ks.length = i
  at_ : ∀ (j : Nat) (k : Str × Str), ks[j]? = some k → names[j]? = some k.1 ∧ (k.2 = "" ∨ ∃ l : Nat, l < j ∧ names[l]? = some k.2)
theorem KI.snoc {names : List Str} {i : Nat} {ks : List (Str × Str)} (h : KI names i ks) {x o : Str} (hx : names[i]? = some x) (ho : o = "" ∨ ∃ l : Nat, l < i ∧ names[l]? = some o) : KI names (i + 1) (ks ++ [(x, o)]) := by
  refine ⟨by simp [h.len], fun j k hk => ?_⟩
  by_cases hj : j < ks.length
  · rw [List.getElem?_append_left hj] at hk
    exact h.at_ j k hk
  · rw [List.getElem?_append_right (by omega)] at hk
    have hj2 : j - ks.length = 0 := by
      have := (List.getElem?_eq_some_iff.mp hk).1
      simp at this; omega
    rw [hj2] at hk
    obtain rfl : (x, o) = k := by simpa using hk
    have : j = i := by have := h.len; omega
    subst this
    exact ⟨hx, ho⟩
theorem KI.ok {names : List Str} {ks : List (Str × Str)} (h : KI names names.length ks) (hn : NamesOk names) (h8 : names.length ≤ 8) : KindsOk ks ∧ ∀ k ∈ ks, okNm k.1 = true := by
  have e : ks.map (·.1) = names := by
    apply List.ext_getElem?
    intro j
    rw [List.getElem?_map]
    cases hk : ks[j]? with
    | none =>
      have : ks.length ≤ j := List.getElem?_eq_none_iff.mp hk
      exact (List.getElem?_eq_none_iff.mpr (by rw [← h.len]; exact this)).symm
    | some k => rw [(h.at_ j k hk).1]; rfl
  have hok : ∀ k ∈ ks, okNm k.1 = true := fun k hk => hn.ok _ (by rw [← e]; exact List.mem_map_of_mem hk)
  refine ⟨⟨by rw [e]; exact hn.nd, fun k hk => ?_, by rw [h.len]; exact h8, fun i k hi => ?_⟩, hok⟩
  · have := hok k hk
    unfold okNm at this
    simp only [Bool.and_eq_true, decide_eq_true_eq] at this
    exact this.1.2
  · rcases (h.at_ i k hi).2 with h1 | ⟨l, hl, h1⟩
    · exact .inl h1
    · have hll : l < ks.length := by
        have := (List.getElem?_eq_some_iff.mp hi).1
        omega
      refine .inr ⟨l, ks[l], hl, List.getElem?_eq_getElem hll, ?_⟩
      have h2 := (h.at_ l _ (List.getElem?_eq_getElem hll)).1
      rw [h1] at h2
      exact (Option.some.inj h2).symm
section
variable {P : Program} {w : World} {K : PySem.W.Frag} {mg : Str → Option Value} {base : Heap}
/-! ### _law_kinds -/
abbrev sKinds : Stmt := top 21
theorem scKinds : Sf ["tape", "many", "names", "kinds", "k", "over"] [] ["tape"] (defScope sKinds) := sf_mk ⟨rfl, rfl, rfl, by decide +kernel, rfl, by decide +kernel, by decide +kernel⟩ (by decide +kernel)
def spKinds : DSp := fun ds m Q => ∃ tp t, ds = [.ref tp] ∧ m tp = some (.lst [.int t]) ∧ ∀ t' (ks : List (Str × Str)), KindsOk ks → ks ≠ [] → (∀ k ∈ ks, okNm k.1 = true) → Q (.tup (ks.map kp)) (mup m tp (.lst [.int t']))
theorem ok_kinds {f : Addr} {fd : FuncData} (B : Tx mg) (cD : Cd P w K mg base 1 "_law_digit" spDigit) (cN : Cd P w K mg base 2 "_law_names" spNames) (d : DefAt K mg "_law_kinds" sKinds ["tape"] f fd) : Cd P w K mg base 3 "_law_kinds" spKinds := by
  refine d.cd (fd_of d.fn scKinds.fs (fun ds m Q h => by obtain ⟨q, t, rfl, _⟩ := h; rfl) fun cdv A outer s H ds m Q hr hgd h => ?_)
  obtain ⟨tp, t, rfl, htp, h⟩ := h
  conv in defBody _ => whnf
  refine stc scKinds 1 ?_
  refine de_op <| de_int <| fc cD hr hgd (hkj := by decide) <| da_cons <| v scKinds 0 rfl <| da_cons <| de_ix <| de_lst <| da_cons <| de_int <| da_cons <| de_int <| da_nil <| li fun p hp => ?_
  have htp2 : mup m p (.lst [.int 4, .int 8]) tp = _ := mup_some htp hp
  have hpt : p ≠ tp := (mne htp hp).symm
  refine c_int B.int <| da_cons <| de_cmp rfl <| fc cD hr hgd (hkj := by decide) <| da_cons <| v scKinds 0 rfl <| da_cons <| de_int <| da_nil ⟨tp, t, 6, rfl, htp2, by decide, by decide, fun c t1 c0 c1 => de_int <| o2_eqi <| da_nil <| oc_int_b <| ox_2' (by rw [mup_ne hpt]; exact mup_same) <| da_nil ?_⟩
  have hm8 : ∀ b : Bool, ∃ n : Int, (if b then D.int 8 else D.int 4) = .int n ∧ 0 < n ∧ n ≤ 8 := fun b => by cases b; exact ⟨4, rfl, by decide, by decide⟩; exact ⟨8, rfl, by decide, by decide⟩
  obtain ⟨n, en, n0, n8⟩ := hm8 (decide (c = 5))
  rw [en]
  refine ⟨tp, t1, n, rfl, mup_same, n0, by omega, fun c2 t2 c20 c21 => o2_add ?_⟩
  rw [mup_mup]
  have sb0 : Sub (mup m tp (.lst [.int t2])) (mup (mup m p (.lst [.int 4, .int 8])) tp (.lst [.int t2])) := Sub.mupp (Sub.new hp)
  have htp3 : mup (mup m p (.lst [.int 4, .int 8])) tp (.lst [.int t2]) tp = _ := mup_same
  generalize mup (mup m p (.lst [.int 4, .int 8])) tp (.lst [.int t2]) = m1 at *
  refine stc scKinds 2 <| fc cN hr hgd (hkj := Nat.le_refl _) <| da_cons <| v scKinds 0 rfl <| da_cons <| v scKinds 1 rfl <| da_nil ⟨tp, t2, 1 + c2, rfl, htp3, by omega, by omega, fun nq t3 names hnq hnl hno => ?_⟩
  have hnt : nq ≠ tp := (mne htp3 hnq).symm
  have hnm : mup m tp (.lst [.int t2]) nq = none := mup_noneS sb0 hnq
  have hnm0 := (mup_none hnm).1
  have sb1 : Sub (mup m tp (.lst [.int t3])) (mup (mup m1 tp (.lst [.int t3])) nq (.lst (names.map D.str))) := (sb0.put).trans (Sub.new (by rw [mup_ne hnt]; exact hnq))
  have hnq2 : mup (mup m1 tp (.lst [.int t3])) nq (.lst (names.map D.str)) nq = _ := mup_same
  generalize mup (mup m1 tp (.lst [.int t3])) nq (.lst (names.map D.str)) = m2 at *
  refine stc scKinds 3 <| de_lst <| da_nil <| li fun kq hkq => ?_
  have hkt : kq ≠ tp := (mne sb1.at hkq).symm
  have hkn : kq ≠ nq := (mne hnq2 hkq).symm
  have hkm0 : m kq = none := (mup_none (mup_noneS sb1 hkq)).1
  refine db_cons (ds_for p0 rfl (di_r1 rfl B.range <| v scKinds 1 rfl ⟨_, rfl, by omega, by omega, fun i Γ' m' => ∃ (k0 o0 : Option D) (ks : List (Str × Str)) (t' : Int), Γ' = [some (.ref tp), some (.int (1 + c2)), some (.ref nq), some (.ref kq), k0, o0] ∧ KI names i ks ∧ Sub (mup m tp (.lst [.int t'])) m' ∧ m' nq = some (.lst (names.map D.str)) ∧ m' kq = some (.lst (ks.map kp)),
    ⟨_, _, [], t3, rfl, ⟨rfl, fun j k hk => by simp at hk⟩, sb1.trans (Sub.new hkq), mup_some hnq2 hkq, mup_same⟩, fun _ _ _ _ _ => True.intro, fun i d' Γ' m' hd hW => ?_, fun Γ' m' hW => ?_⟩))
  · obtain ⟨k0, o0, ks, t4, rfl, hki, sb, hnn, hkk⟩ := hW
    obtain ⟨hi, rfl⟩ := rgD_at hd
    have hil : i < names.length := by omega
    have hi8 : i < 8 := by omega
    rw [show (0 : Int) + (i : Int) * 1 = (i : Int) by omega]
    refine tg scKinds 4 ?_
    refine stc scKinds 5 <| fc cD hr hgd (hkj := by decide) <| da_cons <| v scKinds 0 rfl <| da_cons <| de_int <| da_nil ⟨tp, t4, 3, rfl, sb.at, by decide, by decide, fun ov t5 o0 o1 => ?_⟩
    have sb5 : Sub (mup m tp (.lst [.int t5])) (mup m' tp (.lst [.int t5])) := sb.put
    have hnn5 : mup m' tp (.lst [.int t5]) nq = _ := (mup_ne hnt).trans hnn
    have hkk5 : mup m' tp (.lst [.int t5]) kq = _ := (mup_ne hkt).trans hkk
    generalize mup m' tp (.lst [.int t5]) = m5 at *
    have hx : names[i]? = some names[i] := List.getElem?_eq_getElem hil
    have hkl : (ks.map kp).length < sizeLine := by rw [List.length_map, hki.len]; exact Nat.lt_of_lt_of_le hi8 (by decide)
    refine db_one (ds_if (DT.imp (Q := fun b m6 => m5 = m6 ∧ (b = false → 0 < i)) ?_ ?_))
    · refine dt_w <| dw_or <| dt_cmp rfl <| v scKinds 4 rfl <| de_int <| o2_eqi ⟨_, rfl, fun h1 => ⟨rfl, fun z => Bool.noConfusion z⟩, fun h1 => dw_or1 <| dt_cmp rfl <| v scKinds 5 rfl <| de_int <| o2_eqi ⟨_, rfl, rfl, fun _ => ?_⟩⟩
      have := of_decide_eq_false h1
      omega
    rintro b m6 ⟨rfl, hb⟩
    refine ⟨fun _ => ?_, fun hbf => ?_⟩
    · refine db_one (ds_expr <| de_append <| v scKinds 3 rfl ⟨kq, rfl, ⟨_, hkk5⟩, de_tup <| da_cons <| de_ix <| v scKinds 2 rfl <| v scKinds 4 rfl <| ox_l (.inl hnn5) (atI_map D.str (atI_get hx)) <| da_cons <| de_str <| da_nil <| tu ⟨_, hkk5, hkl, ?_⟩⟩)
      refine ⟨_, _, ks ++ [(names[i], ("" : Str))], t5, rfl, hki.snoc hx (.inl rfl), sub_outT sb5 (by rw [mup_ne hkt]; exact hkm0), by rw [mup_ne hkn.symm]; exact hnn5, ?_⟩
      rw [mup_same, List.map_append]; rfl
    · have hi0 := hb hbf
      refine db_one (ds_expr <| de_append <| v scKinds 3 rfl ⟨kq, rfl, ⟨_, hkk5⟩, ?_⟩)
      refine de_tup <| da_cons <| de_ix <| v scKinds 2 rfl <| v scKinds 4 rfl <| ox_l (.inl hnn5) (atI_map D.str (atI_get hx)) <| da_cons <| de_ix <| v scKinds 2 rfl ?_
      refine fc cD hr hgd (hkj := by decide) <| da_cons <| v scKinds 0 rfl <| da_cons <| v scKinds 4 rfl <| da_nil ⟨tp, t5, (i : Int), rfl, sb5.at, by omega, by omega, fun l t6 l0 l1 => ?_⟩
      have sb6 : Sub (mup m tp (.lst [.int t6])) (mup m5 tp (.lst [.int t6])) := sb5.put
      have hnn6 : mup m5 tp (.lst [.int t6]) nq = _ := (mup_ne hnt).trans hnn5
      have hkk6 : mup m5 tp (.lst [.int t6]) kq = _ := (mup_ne hkt).trans hkk5
      generalize mup m5 tp (.lst [.int t6]) = m7 at *
      have hl : l.toNat < names.length := by omega
      have hlx : names[l.toNat]? = some names[l.toNat] := List.getElem?_eq_getElem hl
      have hla : atI names l = some names[l.toNat] := by
        have := atI_nat (xs := names) hlx
        rwa [Int.toNat_of_nonneg l0] at this
      refine ox_l (.inl hnn6) (atI_map D.str hla) <| da_nil <| tu ⟨_, hkk6, hkl, ?_⟩
      refine ⟨_, _, ks ++ [(names[i], names[l.toNat])], t6, rfl, hki.snoc hx (.inr ⟨l.toNat, by omega, hlx⟩), sub_outT sb6 (by rw [mup_ne hkt]; exact hkm0), by rw [mup_ne hkn.symm]; exact hnn6, ?_⟩
      rw [mup_same, List.map_append]; rfl
  · obtain ⟨k0, o0, ks, t4, rfl, hki, sb, hnn, hkk⟩ := hW
    rw [rgD_len, ← hnl] at hki
    obtain ⟨z1, z2⟩ := hki.ok hno (by omega)
    refine rt1 (c_tuple B.tuple <| da_cons <| v scKinds 3 rfl <| da_nil <| oc_tuple_l (.inl hkk) ⟨_, sb, h t4 ks z1 ?_ z2⟩)
    intro e
    have := hki.len
    rw [e] at this
    have h0 : names.length = 0 := this.symm
    omega
end
end SC

set_option maxHeartbeats 400000
/-! P13: _law_choices, _law_shares. -/
namespace SC
open PySem L2 DL
theorem ixN_n {n j : Nat} (hj : j < n) : ixN n (j : Int) = some j := by
  unfold ixN
  rw [if_pos (by omega), if_pos (by omega), Int.toNat_natCast]
theorem sum_set : ∀ (l : List Int) (i : Nat) (c : Int) (h : i < l.length), (l.set i (l[i] + c)).sum = l.sum + c
  | x :: l, 0, c, h => by simp [List.set]; omega
  | x :: l, i + 1, c, h => by
    have := sum_set l i c (by simpa using h)
    simp only [List.set_cons_succ, List.sum_cons, List.getElem_cons_succ]
    rw [this]; omega
theorem sum_ge : ∀ (l : List Int), (∀ x ∈ l, 1 ≤ x) → (l.length : Int) ≤ l.sum
  | [], _ => by simp
  | x :: l, h => by
    have h1 := h x List.mem_cons_self
    have h2 := sum_ge l fun y hy => h y (List.mem_cons_of_mem _ hy)
    rw [List.sum_cons, List.length_cons]; omega
theorem sum_rep (n : Nat) : (List.replicate n (1 : Int)).sum = n := by
  induction n with
  | zero => rfl
  | succ n ih => rw [List.replicate_succ, List.sum_cons, ih]; omega
section
variable {P : Program} {w : World} {K : PySem.W.Frag} {mg : Str → Option Value} {base : Heap}
/-! ### _law_choices -/
abbrev sChoices : Stmt := top 26
theorem scChoices : Sf ["tape", "most", "found", "k", "way"] [] ["tape", "most"] (defScope sChoices) := sf_mk ⟨rfl, rfl, rfl, by decide +kernel, rfl, by decide +kernel, by decide +kernel⟩ (by decide +kernel)
def spChoices : DSp := fun ds m Q => ∃ tp t, ds = [.ref tp, .int 40] ∧ m tp = some (.lst [.int t]) ∧ ∀ q t' (cs : List Int), m q = none → Q (.ref q) (mup (mup m tp (.lst [.int t'])) q (.lst (cs.map D.int)))
theorem mup_swap {m : M} {p q : Addr} {o u : DO} (h : p ≠ q) : mup (mup m q u) p o = mup (mup m p o) q u := by
  funext x
  unfold mup
  by_cases h1 : x = p
  · subst h1; rw [if_pos rfl, if_neg h, if_pos rfl]
  · rw [if_neg h1]
    by_cases h2 : x = q
    · subst h2; rw [if_pos rfl, if_pos rfl]
    · rw [if_neg h2, if_neg h2, if_neg h1]
theorem ok_choices {f : Addr} {fd : FuncData} (B : Tx mg) (cD : Cd P w K mg base 1 "_law_digit" spDigit) (d : DefAt K mg "_law_choices" sChoices ["tape", "most"] f fd) : Cd P w K mg base 2 "_law_choices" spChoices := by
  refine d.cd (fd_of d.fn scChoices.fs (fun ds m Q h => by obtain ⟨q, t, rfl, _⟩ := h; rfl) fun cdv A outer s H ds m Q hr hgd h => ?_)
  obtain ⟨tp, t, rfl, htp, h⟩ := h
  conv in defBody _ => whnf
  refine stc scChoices 2 <| de_lst <| da_nil <| li fun q hq => ?_
  have hqt : q ≠ tp := (mne htp hq).symm
  refine db_cons (ds_for p0 rfl (di_r1 rfl B.range <| fc cD hr hgd (hkj := by decide) <| da_cons <| v scChoices 0 rfl <| da_cons <| de_op <| v scChoices 1 rfl <| de_int <| o2_add <| da_nil ⟨tp, t, 41, rfl, mup_some htp hq, by decide, by decide, fun c t1 c0 c1 => ⟨_, rfl, by omega, by omega, fun i Γ' m' => ∃ (k0 w0 : Option D) (cs : List Int) (t' : Int), Γ' = [some (.ref tp), some (.int 40), some (.ref q), k0, w0] ∧ Sub (mup (mup m tp (.lst [.int t'])) q (.lst (cs.map D.int))) m' ∧ cs.length = i,
    ⟨_, _, [], t1, rfl, ?_, rfl⟩, fun _ _ _ _ _ => True.intro, fun i d' Γ' m' hd hW => ?_, fun Γ' m' hW => ?_⟩⟩))
  · rw [mup_swap hqt.symm]; exact Sub.refl _
  · obtain ⟨k0, w0, cs, t2, rfl, sb, hcl⟩ := hW
    obtain ⟨hi, rfl⟩ := rgD_at hd
    have htp2 : m' tp = some (.lst [.int t2]) := sb _ _ (by rw [mup_ne hqt.symm, mup_same])
    refine tg scChoices 3 ?_
    refine stc scChoices 4 <| fc cD hr hgd (hkj := by decide) <| da_cons <| v scChoices 0 rfl <| da_cons <| de_int <| da_nil ⟨tp, t2, 8, rfl, htp2, by decide, by decide, fun wy t3 w0 w1 => ?_⟩
    have sb3 : Sub (mup (mup m tp (.lst [.int t3])) q (.lst (cs.map D.int))) (mup m' tp (.lst [.int t3])) := by
      rw [mup_swap hqt] at sb ⊢
      exact sb.put
    generalize mup m' tp (.lst [.int t3]) = m3 at *
    refine db_one (ds_expr <| de_append <| v scChoices 2 rfl ⟨q, rfl, ⟨_, sb3.at⟩, ?_⟩)
    refine de_ix ?_
    refine de_lst ?_
    iterate 7 (refine da_cons ?_; refine de_int ?_)
    refine da_cons ?_
    refine de_op <| de_op <| de_int <| de_int <| o2_pow ⟨by decide, by decide, by decide⟩ ?_
    refine de_int <| o2_add ?_
    refine da_nil ?_
    refine li fun z hz => ?_
    have hget : ∃ x : Int, atI ([.int 0, .int 1, .int 2, .int 3, .int 1, .int 0, .int 5, .int (10 ^ (29 : Int).toNat + 1)] : List D) wy = some (.int x) := by
      have : wy = 0 ∨ wy = 1 ∨ wy = 2 ∨ wy = 3 ∨ wy = 4 ∨ wy = 5 ∨ wy = 6 ∨ wy = 7 := by omega
      rcases this with rfl | rfl | rfl | rfl | rfl | rfl | rfl | rfl
      · exact ⟨_, atI_nat (j := 0) rfl⟩
      · exact ⟨_, atI_nat (j := 1) rfl⟩
      · exact ⟨_, atI_nat (j := 2) rfl⟩
      · exact ⟨_, atI_nat (j := 3) rfl⟩
      · exact ⟨_, atI_nat (j := 4) rfl⟩
      · exact ⟨_, atI_nat (j := 5) rfl⟩
      · exact ⟨_, atI_nat (j := 6) rfl⟩
      · exact ⟨_, atI_nat (j := 7) rfl⟩
    obtain ⟨x, hx⟩ := hget
    refine v scChoices 4 rfl <| ox_l (.inl mup_same) hx ⟨_, mup_some sb3.at hz, Nat.lt_of_le_of_lt (show _ ≤ 41 by rw [List.length_map]; omega) (by decide), ?_⟩
    refine ⟨_, _, cs ++ [x], t3, rfl, ?_, by simp [hcl]⟩
    rw [List.map_append]
    exact (sb3.trans (Sub.new hz)).put
  · obtain ⟨k0, w0, cs, t2, rfl, sb, hcl⟩ := hW
    exact rt1 (v scChoices 2 rfl ⟨_, sb, h q t2 cs hq⟩)
/-! ### _law_shares -/
abbrev sShares : Stmt := top 23
theorem scShares : Sf ["tape", "many", "room", "shares", "k", "more"] [] ["tape", "many", "room"] (defScope sShares) := sf_mk ⟨rfl, rfl, rfl, by decide +kernel, rfl, by decide +kernel, by decide +kernel⟩ (by decide +kernel)
def spShares : DSp := fun ds m Q => ∃ tp t many room, ds = [.ref tp, .int many, .int room] ∧ m tp = some (.lst [.int t]) ∧ 1 ≤ many ∧ many ≤ room ∧ room ≤ 100 ∧
  ∀ q t' (sh : List Int), m q = none → sh.length = many.toNat → (∀ x ∈ sh, 1 ≤ x) → sh.sum ≤ room → Q (.ref q) (mup (mup m tp (.lst [.int t'])) q (.lst (sh.map D.int)))
theorem ok_shares {f : Addr} {fd : FuncData} (B : Tx mg) (cD : Cd P w K mg base 1 "_law_digit" spDigit) (d : DefAt K mg "_law_shares" sShares ["tape", "many", "room"] f fd) : Cd P w K mg base 2 "_law_shares" spShares := by
  refine d.cd (fd_of d.fn scShares.fs (fun ds m Q h => by obtain ⟨q, t, n, r, rfl, _⟩ := h; rfl) fun cdv A outer s H ds m Q hr hgd h => ?_)
  obtain ⟨tp, t, many, room, rfl, htp, h1, h2, h3, h⟩ := h
  conv in defBody _ => whnf
  refine db_cons (ds_map 3 [("k", 4)] (List.range many.toNat) (fun k => .int (k : Nat)) (fun _ => .int 1) scShares.fs.nd (blkOk_by (N := ["tape", "many", "room", "shares", "k", "more"]) (sc := defScope sShares) (by decide +kernel)) (di_r1 rfl B.range <| v scShares 1 rfl ⟨_, rfl, by omega, by omega, rgD01 _, sl100 (by simp; omega), fun _ _ _ => True.intro, fun p acc k hp hk => ?_, fun q hq => ?_⟩))
  · intro s H C cl fp
    refine tb scShares.fs.nd 4 ?_
    intro s H C cl fp
    exact de_int ⟨Sub.refl _, rfl⟩
  have hqt : q ≠ tp := (mne htp hq).symm
  have e1 : ((List.range many.toNat).map fun _ => D.int 1) = (List.replicate many.toNat (1 : Int)).map D.int := by
    rw [List.map_const', List.length_range, List.map_replicate]
  rw [e1]
  refine db_cons (ds_for p0 rfl (di_r1 rfl B.range <| v scShares 1 rfl ⟨_, rfl, by omega, by omega, fun i Γ' m' => ∃ (k0 w0 : Option D) (sh : List Int) (t' : Int), Γ' = [some (.ref tp), some (.int many), some (.int room), some (.ref q), k0, w0] ∧ Sub (mup (mup m tp (.lst [.int t'])) q (.lst (sh.map D.int))) m' ∧ sh.length = many.toNat ∧ (∀ x ∈ sh, 1 ≤ x) ∧ sh.sum ≤ room,
    ⟨_, _, List.replicate many.toNat 1, t, rfl, ?_, by simp, fun x hx => by rw [List.eq_of_mem_replicate hx]; exact Int.le_refl _, by rw [sum_rep]; omega⟩, fun _ _ _ _ _ => True.intro, fun i d' Γ' m' hd hW => ?_, fun Γ' m' hW => ?_⟩))
  · intro x o e
    by_cases hx : x = q
    · subst hx; rw [mup_same] at e ⊢; exact e
    · rw [mup_ne hx] at e ⊢
      by_cases hx2 : x = tp
      · subst hx2; rw [mup_same] at e; cases e; exact htp
      · rw [mup_ne hx2] at e; exact e
  · obtain ⟨k0, w0, sh, t2, rfl, sb, hl, h1s, hs⟩ := hW
    obtain ⟨hi, rfl⟩ := rgD_at hd
    have hil : i < sh.length := by omega
    have htp2 : m' tp = some (.lst [.int t2]) := sb _ _ (by rw [mup_ne hqt.symm, mup_same])
    rw [show (0 : Int) + (i : Int) * 1 = (i : Int) by omega]
    refine tg scShares 4 ?_
    refine stc scShares 5 <| fc cD hr hgd (hkj := by decide) <| da_cons <| v scShares 0 rfl <| da_cons <| de_op <| de_op <| v scShares 2 rfl <| c_sum B.sum <| da_cons <| v scShares 3 rfl <| da_nil <| oc_sum rfl sb.at <| o2_sub <| de_int <| o2_add <| da_nil ⟨tp, t2, _, rfl, htp2, by omega, ?_, fun c t3 c0 c1 => ?_⟩
    · have := sum_ge sh h1s
      omega
    have sb3 : Sub (mup (mup m tp (.lst [.int t3])) q (.lst (sh.map D.int))) (mup m' tp (.lst [.int t3])) := by
      rw [mup_swap hqt] at sb ⊢
      exact sb.put
    generalize mup m' tp (.lst [.int t3]) = m3 at *
    have hx : atI sh (i : Int) = some sh[i] := atI_nat (List.getElem?_eq_getElem hil)
    refine db_one (ds_lput <| de_op <| de_ix <| v scShares 3 rfl <| v scShares 4 rfl <| ox_l (.inl sb3.at) (atI_map D.int hx) <| v scShares 5 rfl <| o2_add <| v scShares 3 rfl <| v scShares 4 rfl ⟨q, (i : Int), i, _, rfl, rfl, sb3.at, ?_, ?_⟩)
    · exact ixN_n (by rw [List.length_map]; exact hil)
    · refine ⟨_, _, sh.set i (sh[i] + c), t3, rfl, ?_, by simp [hl], fun x hx => ?_, ?_⟩
      · rw [List.map_set]; exact sb3.put
      · rcases List.mem_or_eq_of_mem_set hx with h5 | rfl
        · exact h1s x h5
        · have := h1s _ (List.getElem_mem hil)
          omega
      · rw [sum_set sh i c hil]; omega
  · obtain ⟨k0, w0, sh, t2, rfl, sb, hl, h1s, hs⟩ := hW
    exact rt1 (v scShares 3 rfl ⟨_, sb, h q t2 sh hq hl h1s hs⟩)
end
end SC

set_option maxHeartbeats 400000
/-! P14: _law_leaf. -/
namespace SC
open PySem L2 DL
/-- what the law's deeds keep -/
inductive GOk (ki ro : List Str) : Bool → T → Prop
  | mk {b : Bool} {l : Str} {w : W} {a : Str} {ks : List T} : (T.mk l w a ks).okT → (w = .pass → b = true) → (w = .call → a ∈ ro) → (w = .slip → a ∈ ki) →
      (∀ (k : Nat) (u : T), ks[k]? = some u → GOk ki ro (b || (decide (w = .catch) && decide (0 < k))) u) → GOk ki ro b (.mk l w a ks)
/-- the table of what is known -/
structure KnA where
  q : Addr
  a1 : Addr
  a2 : Addr
  a3 : Addr
  a4 : Addr
def kTab (a : KnA) (s : Int) : List (Key × D) := [(.inr "kinds", .ref a.a1), (.inr "marks", .ref a.a2), (.inr "rooms", .ref a.a3), (.inr "words", .ref a.a4), (.inr "slips", .int s)]
structure Kn (m : M) (tp : Addr) (a : KnA) (ki ma ro wo : List Str) (t s : Int) : Prop where
  ht : m tp = some (.lst [.int t])
  hq : m a.q = some (.dK (kTab a s))
  k1 : m a.a1 = some (.lst (ki.map D.str))
  k2 : m a.a2 = some (.lst (ma.map D.str))
  k3 : m a.a3 = some (.lst (ro.map D.str))
  k4 : m a.a4 = some (.lst (wo.map D.str))
  n1 : a.a1 ≠ tp
  n2 : a.a2 ≠ tp
  n3 : a.a3 ≠ tp
  n4 : a.a4 ≠ tp
  s1 : ki ≠ []
  s3 : ro ≠ []
  s4 : wo ≠ []
  l1 : ki.length ≤ 8
  l2 : ma.length ≤ 8
  l3 : ro.length ≤ 8
  l4 : wo.length ≤ 8
theorem Kn.le {m m' : M} {tp : Addr} {a : KnA} {ki ma ro wo : List Str} {t s : Int} (h : Kn m tp a ki ma ro wo t s) (sb : Sub m m') : Kn m' tp a ki ma ro wo t s :=
  ⟨sb _ _ h.ht, sb _ _ h.hq, sb _ _ h.k1, sb _ _ h.k2, sb _ _ h.k3, sb _ _ h.k4, h.n1, h.n2, h.n3, h.n4, h.s1, h.s3, h.s4, h.l1, h.l2, h.l3, h.l4⟩
theorem Kn.tick {m : M} {tp : Addr} {a : KnA} {ki ma ro wo : List Str} {t s : Int} (h : Kn m tp a ki ma ro wo t s) (t' : Int) : Kn (mup m tp (.lst [.int t'])) tp a ki ma ro wo t' s :=
  ⟨mup_same, (mup_ne (mnf h.hq h.ht (by simp))).trans h.hq, (mup_ne h.n1).trans h.k1, (mup_ne h.n2).trans h.k2, (mup_ne h.n3).trans h.k3, (mup_ne h.n4).trans h.k4, h.n1, h.n2, h.n3, h.n4, h.s1, h.s3, h.s4, h.l1, h.l2, h.l3, h.l4⟩
theorem Kn.slip {m : M} {tp : Addr} {a : KnA} {ki ma ro wo : List Str} {t s : Int} (h : Kn m tp a ki ma ro wo t s) (s' : Int) : Kn (mup m a.q (.dK (kTab a s'))) tp a ki ma ro wo t s' :=
  ⟨(mup_ne (mnf h.ht h.hq (by simp))).trans h.ht, mup_same, (mup_ne (mnf h.k1 h.hq (by simp))).trans h.k1, (mup_ne (mnf h.k2 h.hq (by simp))).trans h.k2, (mup_ne (mnf h.k3 h.hq (by simp))).trans h.k3, (mup_ne (mnf h.k4 h.hq (by simp))).trans h.k4,
    h.n1, h.n2, h.n3, h.n4, h.s1, h.s3, h.s4, h.l1, h.l2, h.l3, h.l4⟩
/-- the state that the law's draws reach: the tape and the count of slips may have gone on -/
def Gone (m m' : M) (tp : Addr) (a : KnA) (t s : Int) : Prop := Sub (mup (mup m tp (.lst [.int t])) a.q (.dK (kTab a s))) m'
theorem Gone.le {m m' m2 : M} {tp : Addr} {a : KnA} {t s : Int} (h : Gone m m' tp a t s) (sb : Sub m' m2) : Gone m m2 tp a t s := DL.Sub.trans h sb
theorem Gone.tick {m m' : M} {tp : Addr} {a : KnA} {t s : Int} (hne : tp ≠ a.q) (h : Gone m m' tp a t s) (t' : Int) : Gone m (mup m' tp (.lst [.int t'])) tp a t' s := by
  unfold Gone at h ⊢
  rw [mup_swap hne.symm] at h ⊢
  exact h.put
theorem Gone.slip {m m' : M} {tp : Addr} {a : KnA} {t s : Int} (h : Gone m m' tp a t s) (s' : Int) : Gone m (mup m' a.q (.dK (kTab a s'))) tp a t s' := DL.Sub.put h
theorem Gone.refl {m : M} {tp : Addr} {a : KnA} {ki ma ro wo : List Str} {t s : Int} (h : Kn m tp a ki ma ro wo t s) : Gone m m tp a t s := fun x o e => by
  by_cases hx : x = a.q
  · subst hx; rw [mup_same] at e; cases e; exact h.hq
  · rw [mup_ne hx] at e
    by_cases hx2 : x = tp
    · subst hx2; rw [mup_same] at e; cases e; exact h.ht
    · rw [mup_ne hx2] at e; exact e
theorem Gone.trans {m m1 m2 : M} {tp : Addr} {a : KnA} {t s t2 s2 : Int} (hne : tp ≠ a.q) (h1 : Gone m m1 tp a t s) (h2 : Gone m1 m2 tp a t2 s2) : Gone m m2 tp a t2 s2 := by
  have h3 : Gone m (mup (mup m1 tp (.lst [.int t2])) a.q (.dK (kTab a s2))) tp a t2 s2 := (h1.tick hne t2).slip s2
  exact DL.Sub.trans h3 h2
theorem Gone.keep {m m' : M} {tp : Addr} {a : KnA} {t s : Int} {x : Addr} {o : DO} (h : Gone m m' tp a t s) (hx : m x = some o) (h1 : x ≠ tp) (h2 : x ≠ a.q) : m' x = some o := h _ _ (by rw [mup_ne h2, mup_ne h1]; exact hx)
theorem Gone.free {m m' : M} {tp : Addr} {a : KnA} {t s : Int} {x : Addr} (h : Gone m m' tp a t s) (hx : m' x = none) : m x = none := by
  have h1 := mup_noneS h hx
  exact (mup_none (mup_none h1).1).1
theorem Kn.ne {m : M} {tp : Addr} {a : KnA} {ki ma ro wo : List Str} {t s : Int} (h : Kn m tp a ki ma ro wo t s) : tp ≠ a.q := mnf h.ht h.hq (by simp)
section
variable {P : Program} {w : World} {K : PySem.W.Frag} {mg : Str → Option Value} {base : Heap}
theorem tg4 {N ex ps : List Str} {qual : Str} {sc : Scope} {f : Addr} {cd : Value} {A : Around} {outer : List Env} {s : Shared} {H : Hp} {Γ : G} {m : M} {pos : Pos} (S : Sf N ex ps sc) (n k j i : Nat) {x y z u : Str} {p1 p2 p3 p4 : Pos} {kt : Nat} {d d' d2 d3 : D} {Q : G → M → Prop} (q : Q ((((Γ.set n (some d)).set k (some d')).set j (some d2)).set i (some d3)) m)
    (hN : N[n]? = some x := by rfl) (hN' : N[k]? = some y := by rfl) (hN2 : N[j]? = some z := by rfl) (hN3 : N[i]? = some u := by rfl) :
    DG (bx P w K mg base (N ++ ex) qual sc f cd A outer s H) (.Tuple [.Name x p1, .Name y p2, .Name z p3, .Name u p4] kt pos) (.tup [d, d', d2, d3]) Γ m Q :=
  dg_tup rfl (dgs_cons (tg S n (dgs_cons (tg S k (dgs_cons (tg S j (dgs_cons (tg S i (dgs_nil q) hN3) rfl) hN2) rfl) hN') rfl) hN) rfl) (n := 4) rfl rfl rfl
theorem in_words (w : W) (l : List W) : decide (w.s ∈ l.map W.s) = decide (w ∈ l) := by
  by_cases h : w ∈ l
  · rw [decide_eq_true h]
    exact decide_eq_true (List.mem_map_of_mem h)
  · rw [decide_eq_false h]
    refine decide_eq_false fun e => h ?_
    obtain ⟨u, hu, e2⟩ := List.mem_map.mp e
    rw [← W.s_inj e2]; exact hu
theorem enc_lf (l : Str) (w : W) (a : Str) : enc (.mk l w a []) = .tup (.str w.s :: encTl w a [] []) := by rw [enc, encs]; rfl
def leafW (taker : Bool) (ma : List Str) : W → Bool
  | .say | .slip | .call | .row | .leave | .stop => true
  | .on | .off => !ma.isEmpty
  | .pass => taker
  | _ => false
def menuTab : List (Key × D) := [(.inr "say", .str "words"), (.inr "slip", .str "kinds"), (.inr "call", .str "rooms")]
theorem menu_of {m : M} {tp : Addr} {a : KnA} {ki ma ro wo : List Str} {t s : Int} (kn : Kn m tp a ki ma ro wo t s) {tk : Bool} {w : W} (hw : leafW tk ma w = true) (h1 : w ∉ [W.pass, W.stop, W.leave, W.row]) :
    ∃ (nm : Str) (x : Addr) (l : List Str), (valD (mergeD [] menuTab) (.inr w.s)).getD (.str "marks") = .str nm ∧ valD (kTab a s) (.inr nm) = some (.ref x) ∧ m x = some (.lst (l.map D.str)) ∧ l ≠ [] ∧ l.length ≤ 8 ∧ (w = .call → l = ro) ∧ (w = .slip → l = ki) ∧ x ≠ tp := by
  cases w <;> first | (simp at h1; done) | (simp [leafW] at hw; done) | skip
  case say => exact ⟨"words", a.a4, wo, rfl, rfl, kn.k4, kn.s4, kn.l4, fun e => (by cases e), fun e => (by cases e), kn.n4⟩
  case slip => exact ⟨"kinds", a.a1, ki, rfl, rfl, kn.k1, kn.s1, kn.l1, fun e => (by cases e), fun _ => rfl, kn.n1⟩
  case call => exact ⟨"rooms", a.a3, ro, rfl, rfl, kn.k3, kn.s3, kn.l3, fun _ => rfl, fun e => (by cases e), kn.n3⟩
  case on => exact ⟨"marks", a.a2, ma, rfl, rfl, kn.k2, (fun e => by rw [e] at hw; cases hw), kn.l2, fun e => (by cases e), fun e => (by cases e), kn.n2⟩
  case off => exact ⟨"marks", a.a2, ma, rfl, rfl, kn.k2, (fun e => by rw [e] at hw; cases hw), kn.l2, fun e => (by cases e), fun e => (by cases e), kn.n2⟩
abbrev sLLeaf : Stmt := top 22
theorem scLLeaf : Sf ["tape", "known", "around", "taker", "loop", "cleaning", "deep", "words", "word", "menu"] [] ["tape", "known", "around"] (defScope sLLeaf) := sf_mk ⟨rfl, rfl, rfl, by decide +kernel, rfl, by decide +kernel, by decide +kernel⟩ (by decide +kernel)
def aroundD (taker loop cleaning : Bool) (deep : Int) : D := .tup [.bl taker, .bl loop, .bl cleaning, .int deep]
def spLLeaf : DSp := fun ds m Q => ∃ tp a ki ma ro wo t s tk lo cl dp, ds = [.ref tp, .ref a.q, aroundD tk lo cl dp] ∧ Kn m tp a ki ma ro wo t s ∧
  ∀ m' t' s' (lf : T), Gone m m' tp a t' s' → lf.ks = [] → GOk ki ro tk lf → Q (enc lf) m'
theorem leaf_ok {ki ro : List Str} {b : Bool} {w : W} {x : Str} {ma : List Str} (h : leafW b ma w = true) (h1 : w = .call → x ∈ ro) (h2 : w = .slip → x ∈ ki) : GOk ki ro b (.mk "" w x []) := by
  refine .mk ?_ ?_ h1 h2 fun k u hk => by simp at hk
  · cases w <;> first | exact True.intro | rfl | (simp [leafW] at h)
  · intro e; subst e; exact h
theorem ok_lleaf {f : Addr} {fd : FuncData} (B : Tx mg) (cD : Cd P w K mg base 1 "_law_digit" spDigit) (d : DefAt K mg "_law_leaf" sLLeaf ["tape", "known", "around"] f fd) : Cd P w K mg base 2 "_law_leaf" spLLeaf := by
  refine d.cd (fd_of d.fn scLLeaf.fs (fun ds m Q h => by obtain ⟨q, a, _, _, _, _, _, _, _, _, _, _, rfl, _⟩ := h; rfl) fun cdv A outer s H ds m Q hr hgd h => ?_)
  obtain ⟨tp, a, ki, ma, ro, wo, t, sl, tk, lo, cl, dp, rfl, kn, h⟩ := h
  have hne := kn.ne
  conv in defBody _ => whnf
  refine db_cons (ds_asg <| v scLLeaf 2 rfl <| tg4 scLLeaf 3 4 5 6 ?_)
  refine stc scLLeaf 7 ?_
  refine de_lst ?_
  refine da_strs ([W.say, .slip, .slip, .call, .row].map W.s) ?_ ⟨sl100 (by decide), fun p hp => ?_⟩
  · rfl
  refine db_joinN (fun Γ' m' => ∃ (q : Addr) (ws : List W), Γ' = [some (.ref tp), some (.ref a.q), some (aroundD tk lo cl dp), some (.bl tk), some (.bl lo), some (.bl cl), some (.int dp), some (.ref q), none, none] ∧ Sub m m' ∧ m q = none ∧ m' q = some (.lst ((ws.map W.s).map D.str)) ∧ (∀ w ∈ ws, leafW tk ma w = true) ∧ ws.length = 5)
    (ds_if <| dt_cmp rfl <| de_dget (u1 hr) <| v scLLeaf 1 rfl <| de_str ⟨a.q, .int sl, rfl, DG1.s (mup_some kn.hq hp), de_int <| o2_eqi ⟨_, rfl, fun hc => ?_, fun hc => ?_⟩⟩) fun Γ' m' hW => ?_
  · refine db_one (st scLLeaf 7 ?_)
    refine de_lst ?_
    refine da_strs ([W.say, .say, .call, .row, .leave].map W.s) ?_ ⟨sl100 (by decide), fun p2 hp2 => ?_⟩
    · rfl
    refine ⟨p2, [W.say, .say, .call, .row, .leave], rfl, (Sub.new hp).trans (Sub.new hp2), mup_noneS (Sub.new hp) hp2, mup_same, fun w hw => ?_, rfl⟩
    simp at hw
    rcases hw with rfl | rfl | rfl | rfl <;> rfl
  · refine db_nil ⟨p, [W.say, .slip, .slip, .call, .row], rfl, Sub.new hp, hp, mup_same, fun w hw => ?_, rfl⟩
    simp at hw
    rcases hw with rfl | rfl | rfl | rfl <;> rfl
  obtain ⟨q1, ws1, rfl, sb1, hf1, hq1, hw1, hl1⟩ := hW
  refine db_joinN (fun Γ' m' => ∃ (q : Addr) (ws : List W), Γ' = [some (.ref tp), some (.ref a.q), some (aroundD tk lo cl dp), some (.bl tk), some (.bl lo), some (.bl cl), some (.int dp), some (.ref q), none, none] ∧ Sub m m' ∧ m q = none ∧ m' q = some (.lst ((ws.map W.s).map D.str)) ∧ (∀ w ∈ ws, leafW tk ma w = true) ∧ ws ≠ [] ∧ ws.length ≤ 7)
    (ds_if <| dt_cmp rfl <| de_dget (u1 hr) <| v scLLeaf 1 rfl <| de_str ⟨a.q, .ref a.a2, rfl, DG1.s (sb1 _ _ kn.hq), de_lst <| da_nil <| li fun z hz => o2_nenil (u1 hr) (mup_some (sb1 _ _ kn.k2) hz) mup_same ⟨_, rfl, fun hc => ?_, fun hc => ?_⟩⟩) fun Γ' m' hW => ?_
  · refine db_one (st scLLeaf 7 ?_)
    refine de_op <| v scLLeaf 7 rfl <| de_lst <| da_cons <| de_str <| da_cons <| de_str <| da_nil <| li fun y hy => ?_
    refine o2_addl (mup_some (mup_some hq1 hz) hy) mup_same (sl100 (by simp; omega)) fun r hr2 => ?_
    refine ⟨r, ws1 ++ [.on, .off], rfl, ((sb1.trans (Sub.new hz)).trans (Sub.new hy)).trans (Sub.new hr2), mup_noneS ((sb1.trans (Sub.new hz)).trans (Sub.new hy)) hr2, ?_, fun w hw => ?_, by simp, by simp; omega⟩
    · rw [mup_same, List.map_append, List.map_append]; rfl
    · rcases List.mem_append.mp hw with hw | hw
      · exact hw1 w hw
      · have : (!ma.isEmpty) = true := by simpa using hc
        simp at hw
        rcases hw with rfl | rfl <;> exact this
  · exact db_nil ⟨q1, ws1, rfl, sb1.trans (Sub.new hz), hf1, mup_some hq1 hz, hw1, fun e => (by rw [e] at hl1; cases hl1), by omega⟩
  clear hq1 hw1 sb1 hl1 hf1
  obtain ⟨q1, ws1, rfl, sb1, hf1, hq1, hw1, hn1, hl1⟩ := hW
  refine db_joinN (fun Γ' m' => ∃ (q : Addr) (ws : List W), Γ' = [some (.ref tp), some (.ref a.q), some (aroundD tk lo cl dp), some (.bl tk), some (.bl lo), some (.bl cl), some (.int dp), some (.ref q), none, none] ∧ Sub m m' ∧ m q = none ∧ m' q = some (.lst ((ws.map W.s).map D.str)) ∧ (∀ w ∈ ws, leafW tk ma w = true) ∧ ws ≠ [] ∧ ws.length ≤ 9)
    (ds_if <| dt_val (fun _ => rfl) <| v scLLeaf 3 rfl ⟨tk, rfl, fun hc => ?_, fun hc => ?_⟩) fun Γ' m' hW => ?_
  · refine db_one (st scLLeaf 7 ?_)
    refine de_op <| v scLLeaf 7 rfl <| de_lst <| da_cons <| de_str <| da_cons <| de_str <| da_nil <| li fun y hy => ?_
    refine o2_addl (mup_some hq1 hy) mup_same (sl100 (by simp; omega)) fun r hr2 => ?_
    refine ⟨r, ws1 ++ [.pass, .pass], rfl, (sb1.trans (Sub.new hy)).trans (Sub.new hr2), mup_noneS (sb1.trans (Sub.new hy)) hr2, ?_, fun w hw => ?_, by simp, by simp; omega⟩
    · rw [mup_same, List.map_append, List.map_append]; rfl
    · rcases List.mem_append.mp hw with hw | hw
      · exact hw1 w hw
      · simp at hw
        subst hw; exact hc
  · exact db_nil ⟨q1, ws1, rfl, sb1, hf1, hq1, hw1, hn1, by omega⟩
  clear hq1 hw1 sb1 hl1 hf1 hn1
  obtain ⟨q1, ws1, rfl, sb1, hf1, hq1, hw1, hn1, hl1⟩ := hW
  refine db_joinN (fun Γ' m' => ∃ (q : Addr) (ws : List W), Γ' = [some (.ref tp), some (.ref a.q), some (aroundD tk lo cl dp), some (.bl tk), some (.bl lo), some (.bl cl), some (.int dp), some (.ref q), none, none] ∧ Sub m m' ∧ m' q = some (.lst ((ws.map W.s).map D.str)) ∧ (∀ w ∈ ws, leafW tk ma w = true) ∧ ws.length ≤ 10)
    (ds_if <| dt_val (fun _ => rfl) <| v scLLeaf 4 rfl ⟨lo, rfl, fun hc => ?_, fun hc => ?_⟩) fun Γ' m' hW => ?_
  · refine db_one (ds_expr <| de_append <| v scLLeaf 7 rfl ⟨q1, rfl, ⟨_, hq1⟩, de_str ⟨_, hq1, Nat.lt_of_le_of_lt (show _ ≤ 100 by simp; omega) (by decide), q1, ws1 ++ [.stop], rfl, sub_outT sb1 hf1, ?_, fun w hw => ?_, by simp; omega⟩⟩)
    · rw [mup_same, List.map_append, List.map_append]; rfl
    · rcases List.mem_append.mp hw with hw | hw
      · exact hw1 w hw
      · simp at hw
        subst hw; rfl
  · exact db_nil ⟨q1, ws1, rfl, sb1, hq1, hw1, by omega⟩
  clear hq1 hw1 sb1 hl1 hf1 hn1
  obtain ⟨q1, ws1, rfl, sb1, hq1, hw1, hl1⟩ := hW
  refine stc scLLeaf 8 ?_
  refine de_ix <| de_op <| v scLLeaf 7 rfl <| de_lst <| da_cons <| de_str <| da_nil <| li fun y hy => ?_
  refine o2_addl (mup_some hq1 hy) mup_same (sl100 (by simp; omega)) fun r hr2 => ?_
  have hrt : r ≠ tp := (mne (mup_some (sb1 _ _ kn.ht) hy) hr2).symm
  have sb2 := (sb1.trans (Sub.new (o := .lst [D.str "leave"]) hy)).trans (Sub.new (o := .lst ((ws1.map W.s).map D.str ++ [D.str "leave"])) hr2)
  have hq2 := mup_some (o := .lst ((ws1.map W.s).map D.str ++ [D.str "leave"])) (mup_some (o := .lst [D.str "leave"]) hq1 hy) hr2
  have hr3 : mup (mup m' y (.lst [D.str "leave"])) r (.lst ((ws1.map W.s).map D.str ++ [D.str "leave"])) r = _ := mup_same
  have e5 : (ws1.map W.s).map D.str ++ [D.str "leave"] = ((ws1 ++ [W.leave]).map W.s).map D.str := by rw [List.map_append, List.map_append]; rfl
  rw [e5] at hr3 hq2 sb2 ⊢
  generalize mup (mup m' y (.lst [D.str "leave"])) r (.lst (((ws1 ++ [W.leave]).map W.s).map D.str)) = m2 at *
  have kn2 := kn.le sb2
  refine fc cD hr hgd (hkj := by decide) <| da_cons <| v scLLeaf 0 rfl <| da_cons <| de_op <| c_len B.len <| da_cons <| v scLLeaf 7 rfl <| da_nil <| oc_lenl (.inl hq2) <| de_int <| o2_add <| da_nil ⟨tp, t, _, rfl, kn2.ht, by omega, by simp; omega, fun c t1 c0 c1 => ?_⟩
  have hwl : c.toNat < (ws1 ++ [W.leave]).length := by simp at c1 ⊢; omega
  have hwd : leafW tk ma (ws1 ++ [W.leave])[c.toNat] = true := by
    have := List.getElem_mem hwl
    rcases List.mem_append.mp this with h5 | h5
    · exact hw1 _ h5
    · simp at h5
      rw [h5]; rfl
  have hwx : (ws1 ++ [W.leave])[c.toNat]? = some (ws1 ++ [W.leave])[c.toNat] := List.getElem?_eq_getElem hwl
  generalize (ws1 ++ [W.leave])[c.toNat] = wd at hwd hwx
  have hat : atI (((ws1 ++ [W.leave]).map W.s).map D.str) c = some (.str wd.s) := by
    refine atI_map D.str (atI_map W.s ?_)
    have := atI_nat (xs := ws1 ++ [W.leave]) hwx
    rwa [Int.toNat_of_nonneg c0] at this
  refine ox_l (.inl ((mup_ne hrt).trans hr3)) hat ?_
  have g3 : Gone m (mup m2 tp (.lst [.int t1])) tp a t1 sl := ((Gone.refl kn).le sb2).tick hne t1
  have kn3 := kn2.tick t1
  generalize mup m2 tp (.lst [.int t1]) = m3 at *
  clear kn2 hq2 sb2 hr3 hrt hat
  refine if0 <| dt_cmp rfl <| v scLLeaf 8 rfl <| de_tup <| da_cons <| de_str <| da_cons <| de_str <| da_cons <| de_str <| da_cons <| de_str <| da_nil <| tu <| o2_inst (ss := [W.pass, W.stop, W.leave, W.row].map W.s) rfl ⟨_, rfl, fun h1 => ?_, fun h1 => ?_⟩
  · rw [in_words] at h1
    have h1 := of_decide_eq_true h1
    have e6 : enc (.mk "" wd "" []) = .tup [.str wd.s] := by
      rw [enc_lf]
      simp at h1
      rcases h1 with rfl | rfl | rfl | rfl <;> rfl
    refine rt1 (de_tup <| da_cons <| v scLLeaf 8 rfl <| da_nil <| tu ⟨_, Sub.refl _, ?_⟩)
    rw [← e6]
    refine h _ t1 sl _ g3 rfl (leaf_ok hwd (fun e => ?_) fun e => ?_)
    · rw [e] at h1; simp at h1
    · rw [e] at h1; simp at h1
  rw [in_words] at h1
  have h1 := of_decide_eq_false h1
  refine db_joinN (fun Γ' m' => ∃ s1, Γ' = [some (.ref tp), some (.ref a.q), some (aroundD tk lo cl dp), some (.bl tk), some (.bl lo), some (.bl cl), some (.int dp), some (.ref q1), some (.str wd.s), none] ∧ Gone m m' tp a t1 s1 ∧ Kn m' tp a ki ma ro wo t1 s1)
    (ds_if <| dt_cmp rfl <| v scLLeaf 8 rfl <| de_str <| o2_eqs ⟨_, rfl, fun h2 => ?_, fun h2 => ?_⟩) fun Γ' m' hW => ?_
  · refine db_one (ds_dput (u1 hr) rfl <| de_op <| de_dget (u1 hr) <| v scLLeaf 1 rfl <| de_str ⟨a.q, .int sl, rfl, DG1.s kn3.hq, de_int <| o2_sub <| v scLLeaf 1 rfl <| de_str ⟨a.q, _, _, rfl, rfl, kn3.hq, (show (5 : Nat) < sizeLine by decide), sl - 1, rfl, g3.slip (sl - 1), kn3.slip (sl - 1)⟩⟩)
  · exact db_nil ⟨sl, rfl, g3, kn3⟩
  clear g3 kn3
  obtain ⟨s1, rfl, g4, kn4⟩ := hW
  refine stc scLLeaf 9 ?_
  refine de_dget ?_ ?_
  · exact u1 hr
  refine v scLLeaf 1 rfl ?_
  refine de_get2 ?_ ?_ ?_
  · exact u1 hr
  · exact ⟨rfl, rfl, rfl, rfl⟩
  refine de_disp ?_ ?_ ?_ ?_ ?_
  · rfl
  · rfl
  · exact List.cons_ne_nil _ _
  · decide
  intro z hz
  refine de_str <| de_str <| de_str <| de_str <| de_str <| de_str ⟨mup_same, menuTab, rfl, Nat.le_of_ble_eq_true rfl, ?_⟩
  rw [mup_mup]
  refine ⟨z, rfl, ⟨_, mup_same, .inl ⟨_, rfl⟩⟩, v scLLeaf 8 rfl <| de_str ⟨_, DG1.s mup_same, ?_⟩⟩
  have sz : Sub m' (mup m' z (.dK (mergeD [] menuTab))) := Sub.new hz
  have kn5 := kn4.le sz
  have g5 := g4.le sz
  generalize mup m' z (.dK (mergeD [] menuTab)) = m5 at *
  obtain ⟨nm, x, l, e1, e2, e3, e4, e5, e6, e7, e8⟩ := menu_of kn5 hwd h1
  rw [e1]
  refine ⟨a.q, .ref x, rfl, ?_, ?_⟩
  · have := DG1.s (x := nm) kn5.hq
    rw [e2] at this; exact this
  have hll : 0 < l.length := List.length_pos_iff.mpr e4
  refine rt1 ?_
  refine de_tup <| da_cons <| v scLLeaf 8 rfl <| da_cons <| de_ix <| v scLLeaf 9 rfl ?_
  refine fc cD hr hgd (hkj := by decide) <| da_cons <| v scLLeaf 0 rfl <| da_cons <| c_len B.len <| da_cons <| v scLLeaf 9 rfl <| da_nil <| oc_lenl (.inl e3) <| da_nil ⟨tp, t1, _, rfl, kn5.ht, by simp; omega, by simp; omega, fun c2 t2 c20 c21 => ?_⟩
  have hl2 : c2.toNat < l.length := by simp at c21; omega
  have hat2 : atI (l.map D.str) c2 = some (.str l[c2.toNat]) := by
    refine atI_map D.str ?_
    have := atI_nat (xs := l) (List.getElem?_eq_getElem hl2)
    rwa [Int.toNat_of_nonneg c20] at this
  refine ox_l (.inl ((mup_ne e8).trans e3)) hat2 <| da_nil <| tu ⟨_, Sub.refl _, ?_⟩
  have hmem := List.getElem_mem hl2
  have e9 : enc (.mk "" wd l[c2.toNat] []) = .tup [.str wd.s, .str l[c2.toNat]] := by
    rw [enc_lf]
    clear e1 e6 e7
    cases wd <;> first | rfl | (simp [leafW] at hwd; done) | (simp at h1; done)
  rw [← e9]
  exact h _ t2 s1 _ (g5.tick hne t2) rfl (leaf_ok hwd (fun e => (e6 e) ▸ hmem) fun e => (e7 e) ▸ hmem)
end
end SC

set_option maxHeartbeats 400000
/-! P15: _law_deed. -/
namespace SC
open PySem L2 DL
theorem Kn.gone {m m' : M} {tp : Addr} {a : KnA} {ki ma ro wo : List Str} {t s t' s' : Int} (h : Kn m tp a ki ma ro wo t s) (g : Gone m m' tp a t' s') : Kn m' tp a ki ma ro wo t' s' := by
  have h1 := ((h.tick t').slip s').le (m' := m') g
  exact h1
def nodeW (ma : List Str) : W → Bool
  | .row | .catch | .pick | .again | .clean => true
  | .when => !ma.isEmpty
  | _ => false
def leastW : W → Int
  | .row => 1 | .again => 1 | .catch => 2 | .clean => 2 | .pick => 2 | .when => 2 | _ => 0
def mostW : W → Int
  | .row => 4 | .again => 1 | .catch => 4 | .clean => 2 | .pick => 3 | .when => 2 | _ => 0
def leastTab : List (Key × D) := [(.inr "row", .int 1), (.inr "again", .int 1), (.inr "catch", .int 2), (.inr "clean", .int 2), (.inr "pick", .int 2), (.inr "when", .int 2)]
def mostTab : List (Key × D) := [(.inr "row", .int 4), (.inr "again", .int 1), (.inr "catch", .int 4), (.inr "clean", .int 2), (.inr "pick", .int 3), (.inr "when", .int 2)]
theorem least_get {ma : List Str} {w : W} (h : nodeW ma w = true) : valD (mergeD [] leastTab) (.inr w.s) = some (.int (leastW w)) := by cases w <;> first | rfl | (simp [nodeW] at h)
theorem most_get {ma : List Str} {w : W} (h : nodeW ma w = true) : valD (mergeD [] mostTab) (.inr w.s) = some (.int (mostW w)) := by cases w <;> first | rfl | (simp [nodeW] at h)
theorem least_pos {ma : List Str} {w : W} (h : nodeW ma w = true) : 1 ≤ leastW w ∧ leastW w ≤ mostW w ∧ mostW w ≤ 4 := by cases w <;> first | decide | (simp [nodeW] at h)
/-- sizes, wherever a deed stands -/
def SzOk (n : Int) (t : T) : Prop := ∀ p : List Key, ((walkT p t).length : Int) ≤ n
theorem szs : ∀ {ks : List T} {sh : List Int} {p : List Key} {i : Nat}, ks.length = sh.length → (∀ (j : Nat) (u : T) (x : Int), ks[j]? = some u → sh[j]? = some x → SzOk x u) → ((walkTs p i ks).length : Int) ≤ sh.sum
  | [], [], p, i, _, _ => by simp [walkTs]
  | [], _ :: _, p, i, hl, _ => by simp at hl
  | _ :: _, [], p, i, hl, _ => by simp at hl
  | u :: ks, x :: sh, p, i, hl, h => by
    have h1 := h 0 u x rfl rfl (p ++ [.inl (i : Int)])
    have h2 := szs (ks := ks) (sh := sh) (p := p) (i := i + 1) (by simpa using hl) fun j u x hu hx => h (j + 1) u x hu hx
    rw [walkTs, List.length_append, List.sum_cons]; omega
theorem mem_le_sum : ∀ {l : List Int} {x : Int}, (∀ y ∈ l, 1 ≤ y) → x ∈ l → x ≤ l.sum
  | y :: l, x, h, hx => by
    have h1 := h y List.mem_cons_self
    have h2 := sum_ge l fun z hz => h z (List.mem_cons_of_mem _ hz)
    rw [List.sum_cons]
    rcases List.mem_cons.mp hx with rfl | hx
    · omega
    · have := mem_le_sum (fun z hz => h z (List.mem_cons_of_mem _ hz)) hx
      omega
/-- another label -/
def relab (l : Str) (t : T) : T := .mk l t.w t.a t.ks
theorem enc_relab (l : Str) (t : T) : enc (relab l t) = enc t := by cases t; rw [enc_eq, enc_eq (.mk _ _ _ _)]; rfl
theorem gok_relab {ki ro : List Str} {b : Bool} {l : Str} {t : T} (h : GOk ki ro b t) : GOk ki ro b (relab l t) := by
  cases h with
  | mk h1 h2 h3 h4 h5 => exact .mk h1 h2 h3 h4 h5
theorem sz_relab {n : Int} {l : Str} {t : T} (h : SzOk n t) : SzOk n (relab l t) := fun p => by
  have := h p
  cases t with
  | mk l2 w a ks =>
    rw [walkT, List.length_cons] at this
    unfold relab
    rw [walkT, List.length_cons]; exact this
section
variable {P : Program} {w : World} {K : PySem.W.Frag} {mg : Str → Option Value} {base : Heap}
abbrev sLDeed : Stmt := top 24
theorem scLDeed : Sf ["tape", "known", "room", "around", "taker", "loop", "cleaning", "deep", "words", "word", "least", "most", "many", "shares", "parts", "k", "taken", "cleaned", "here", "takers", "part"] [] ["tape", "known", "room", "around"] (defScope sLDeed) := sf_mk ⟨rfl, rfl, rfl, by decide +kernel, rfl, by decide +kernel, by decide +kernel⟩ (by decide +kernel)
def spLDeed (n : Nat) : DSp := fun ds m Q => ∃ tp a ki ma ro wo t s room tk lo cl dp, ds = [.ref tp, .ref a.q, .int room, aroundD tk lo cl dp] ∧ Kn m tp a ki ma ro wo t s ∧ 1 ≤ room ∧ room ≤ 45 ∧ 0 ≤ dp ∧ dp ≤ 12 ∧ 12 - dp = (n : Int) ∧
  ∀ m' t' s' (u : T), Gone m m' tp a t' s' → GOk ki ro tk u → SzOk room u → Q (enc u) m'
/-- the node that is made -/
theorem node_ok {ki ma ro : List Str} {b : Bool} {w : W} {x : Str} {us : List T} (hw : nodeW ma w = true) (h1 : leastW w ≤ us.length) (h2 : (us.length : Int) ≤ mostW w) (hu : ∀ (j : Nat) (u : T), us[j]? = some u → GOk ki ro (b || (decide (w = .catch) && decide (0 < j))) u) : GOk ki ro b (.mk "" w x us) := by
  have hne : us ≠ [] := fun e => by
    rw [e] at h1
    have := (least_pos hw).1
    simp at h1; omega
  refine .mk ?_ (fun e => by subst e; cases hw) (fun e => by subst e; cases hw) (fun e => by subst e; cases hw) hu
  have hl : (T.mk "" w x us).ks = us := rfl
  unfold T.okT
  rw [hl]
  cases w <;> first | exact True.intro | exact hne | (simp [nodeW] at hw; done) | skip
  case again => exact (show us.length = 1 by simp [leastW, mostW] at h1 h2; omega)
  case when => exact (show us.length = 2 by simp [leastW, mostW] at h1 h2; omega)
  case clean => exact (show us.length = 2 by simp [leastW, mostW] at h1 h2; omega)
theorem node_sz {room : Int} {l : Str} {w : W} {x : Str} {us : List T} {sh : List Int} (hl : us.length = sh.length) (hs : sh.sum ≤ room - 1) (h : ∀ (j : Nat) (u : T) (x : Int), us[j]? = some u → sh[j]? = some x → SzOk x u) : SzOk room (.mk l w x us) := fun p => by
  rw [walkT, List.length_cons]
  have := szs (p := p) (i := 0) hl h
  omega
theorem leaf_sz {room : Int} {t : T} (h : t.ks = []) (hr : 1 ≤ room) : SzOk room t := fun p => by
  rw [walkT_eq, h]; simp [walkTs]; omega
theorem ok_ldeed1 {f : Addr} {fd : FuncData} (B : Tx mg) (cD : Cd P w K mg base 1 "_law_digit" spDigit) (cL : Cd P w K mg base 2 "_law_leaf" spLLeaf) (cS : Cd P w K mg base 2 "_law_shares" spShares) (d : DefAt K mg "_law_deed" sLDeed ["tape", "known", "room", "around"] f fd)
    (n : Nat) (ih : ∀ k : Nat, k + 1 = n → Cd P w K mg base (k + 3) "_law_deed" (spLDeed k)) : Cd P w K mg base (n + 3) "_law_deed" (spLDeed n) := by
  refine d.cd (fd_of d.fn scLDeed.fs (fun ds m Q h => by obtain ⟨q, a, _, _, _, _, _, _, _, _, _, _, _, rfl, _⟩ := h; rfl) fun cdv A outer s H ds m Q hr hgd h => ?_)
  obtain ⟨tp, a, ki, ma, ro, wo, t, sl, room, tk, lo, cl, dp, rfl, kn, hr1, hr45, hd0, hd12, hdn, h⟩ := h
  have hne := kn.ne
  conv in defBody _ => whnf
  refine db_cons (ds_asg <| v scLDeed 3 rfl <| tg4 scLDeed 4 5 6 7 ?_)
  have leafE : ∀ m2 t2 s2, Gone m m2 tp a t2 s2 → ∀ m' t' s' (lf : T), Gone m2 m' tp a t' s' → lf.ks = [] → GOk ki ro tk lf → Q (enc lf) m' := fun m2 t2 s2 g m' t' s' lf g2 hk hg => h m' t' s' lf (g.trans hne g2) hg (leaf_sz hk hr1)
  refine if0 (DT.imp (Q := fun b m2 => ∃ t2, Gone m m2 tp a t2 sl ∧ (b = false → 2 ≤ room ∧ dp ≠ 12)) ?_ ?_)
  · refine dt_w <| dw_or <| dt_cmp rfl <| v scLDeed 2 rfl <| de_int <| o2_lt ⟨_, rfl, fun _ => ⟨t, Gone.refl kn, fun z => Bool.noConfusion z⟩, fun h1 => ?_⟩
    refine dw_or <| dt_cmp rfl <| v scLDeed 7 rfl <| de_int <| o2_eqi ⟨_, rfl, fun _ => ⟨t, Gone.refl kn, fun z => Bool.noConfusion z⟩, fun h2 => ?_⟩
    refine dw_or1 <| dt_cmp rfl <| fc cD hr hgd (hkj := by omega) <| da_cons <| v scLDeed 0 rfl <| da_cons <| de_int <| da_nil ⟨tp, t, 6, rfl, kn.ht, by decide, by decide, fun c t2 c0 c1 => de_int <| o2_eqi ⟨_, rfl, t2, (Gone.refl kn).tick hne t2, fun _ => ⟨?_, of_decide_eq_false h2⟩⟩⟩
    have := of_decide_eq_false h1
    omega
  rintro b m2 ⟨t2, g2, hb⟩
  refine ⟨fun _ => ?_, fun hbf => ?_⟩
  · exact rt1 (fc cL hr hgd (hkj := by omega) <| da_cons <| v scLDeed 0 rfl <| da_cons <| v scLDeed 1 rfl <| da_cons <| v scLDeed 3 rfl <| da_nil ⟨tp, a, ki, ma, ro, wo, t2, sl, tk, lo, cl, dp, rfl, kn.gone g2, fun m' t' s' lf g hk hg => ⟨_, Sub.refl _, leafE m2 t2 sl g2 m' t' s' lf g hk hg⟩⟩)
  obtain ⟨hroom, hdp⟩ := hb hbf
  have kn2 := kn.gone g2
  refine stc scLDeed 8 ?_
  refine de_lst ?_
  refine da_strs ([W.row, .catch, .pick, .again, .row, .catch].map W.s) ?_ ⟨sl100 (by decide), fun p hp => ?_⟩
  · rfl
  have g3 : Gone m (mup m2 p (.lst (([W.row, .catch, .pick, .again, .row, .catch].map W.s).map D.str))) tp a t2 sl := g2.le (Sub.new hp)
  have hp0 : m p = none := g2.free hp
  have hpl : mup m2 p (.lst (([W.row, .catch, .pick, .again, .row, .catch].map W.s).map D.str)) p = _ := mup_same
  generalize mup m2 p (.lst (([W.row, .catch, .pick, .again, .row, .catch].map W.s).map D.str)) = m3 at *
  clear g2 kn2 hp
  refine db_joinN (fun Γ' m' => ∃ (q : Addr) (ws : List W), Γ' = [some (.ref tp), some (.ref a.q), some (.int room), some (aroundD tk lo cl dp), some (.bl tk), some (.bl lo), some (.bl cl), some (.int dp), some (.ref q), none, none, none, none, none, none, none, none, none, none, none, none] ∧ Gone m m' tp a t2 sl ∧ m q = none ∧ m' q = some (.lst ((ws.map W.s).map D.str)) ∧ (∀ w ∈ ws, nodeW ma w = true) ∧ 6 ≤ ws.length ∧ ws.length ≤ 8)
    (ds_if <| dt_not <| dt_val (fun _ => rfl) <| v scLDeed 6 rfl ⟨cl, rfl, fun hc => ?_, fun hc => ?_⟩) fun Γ' m' hW => ?_
  · refine db_one (st scLDeed 8 ?_)
    refine de_op <| v scLDeed 8 rfl <| de_lst <| da_cons <| de_str <| da_cons <| de_str <| da_nil <| li fun y hy => ?_
    refine o2_addl (mup_some hpl hy) mup_same (sl100 (by decide)) fun r hr2 => ?_
    refine ⟨r, [W.row, .catch, .pick, .again, .row, .catch, .clean, .clean], rfl, (g3.le (Sub.new hy)).le (Sub.new hr2), (g3.le (Sub.new hy)).free hr2, ?_, fun w hw => ?_, by decide, by decide⟩
    · rw [mup_same]; rfl
    · simp at hw
      rcases hw with rfl | rfl | rfl | rfl | rfl | rfl | rfl <;> rfl
  · refine db_nil ⟨p, [W.row, .catch, .pick, .again, .row, .catch], rfl, g3, hp0, hpl, fun w hw => ?_, by decide, by decide⟩
    simp at hw
    rcases hw with rfl | rfl | rfl | rfl | rfl | rfl <;> rfl
  clear g3 hp0 hpl
  obtain ⟨q1, ws1, rfl, g3, hq0, hql, hw1, hl1, hl2⟩ := hW
  have kn3 := kn.gone g3
  refine db_joinN (fun Γ' m' => ∃ (ws : List W), Γ' = [some (.ref tp), some (.ref a.q), some (.int room), some (aroundD tk lo cl dp), some (.bl tk), some (.bl lo), some (.bl cl), some (.int dp), some (.ref q1), none, none, none, none, none, none, none, none, none, none, none, none] ∧ Gone m m' tp a t2 sl ∧ m' q1 = some (.lst ((ws.map W.s).map D.str)) ∧ (∀ w ∈ ws, nodeW ma w = true) ∧ 6 ≤ ws.length ∧ ws.length ≤ 9)
    (ds_if <| dt_cmp rfl <| de_dget (u1 hr) <| v scLDeed 1 rfl <| de_str ⟨a.q, .ref a.a2, rfl, DG1.s kn3.hq, de_lst <| da_nil <| li fun z hz => o2_nenil (u1 hr) (mup_some kn3.k2 hz) mup_same ⟨_, rfl, fun hc => ?_, fun hc => ?_⟩⟩) fun Γ' m' hW => ?_
  · refine db_one (ds_expr <| de_append <| v scLDeed 8 rfl ⟨q1, rfl, ⟨_, mup_some hql hz⟩, de_str ⟨_, mup_some hql hz, Nat.lt_of_le_of_lt (show _ ≤ 100 by simp; omega) (by decide), ws1 ++ [.when], rfl, ?_, ?_, fun w hw => ?_, by simp; omega, by simp; omega⟩⟩)
    · have g4 := g3.le (Sub.new (o := .lst []) hz)
      have hq2 : mup (mup m tp (.lst [.int t2])) a.q (.dK (kTab a sl)) q1 = none := by
        rw [mup_ne (mne kn.hq hq0).symm, mup_ne (mne kn.ht hq0).symm]; exact hq0
      exact sub_outT (m0 := mup (mup m tp (.lst [.int t2])) a.q (.dK (kTab a sl))) g4 hq2
    · rw [mup_same, List.map_append, List.map_append]; rfl
    · rcases List.mem_append.mp hw with hw | hw
      · exact hw1 w hw
      · have h7 : (!ma.isEmpty) = true := by simpa using hc
        simp at hw
        subst hw; exact h7
  · exact db_nil ⟨ws1, rfl, g3.le (Sub.new hz), mup_some hql hz, hw1, hl1, by omega⟩
  clear hql hw1 g3 kn3 hl1 hl2
  obtain ⟨ws1, rfl, g3, hql, hw1, hl1, hl2⟩ := hW
  have kn3 := kn.gone g3
  have hqt : q1 ≠ tp := (mne kn.ht hq0).symm
  refine stc scLDeed 9 ?_
  refine de_ix <| v scLDeed 8 rfl <| fc cD hr hgd (hkj := by omega) <| da_cons <| v scLDeed 0 rfl <| da_cons <| c_len B.len <| da_cons <| v scLDeed 8 rfl <| da_nil <| oc_lenl (.inl hql) <| da_nil ⟨tp, t2, _, rfl, kn3.ht, by simp; omega, by simp; omega, fun c t3 c0 c1 => ?_⟩
  have hwl : c.toNat < ws1.length := by simp at c1; omega
  have hwd := hw1 _ (List.getElem_mem hwl)
  have hwx : ws1[c.toNat]? = some ws1[c.toNat] := List.getElem?_eq_getElem hwl
  generalize ws1[c.toNat] = wd at hwd hwx
  have hat : atI ((ws1.map W.s).map D.str) c = some (.str wd.s) := by
    refine atI_map D.str (atI_map W.s ?_)
    have := atI_nat (xs := ws1) hwx
    rwa [Int.toNat_of_nonneg c0] at this
  refine ox_l (.inl ((mup_ne hqt).trans hql)) hat ?_
  have g4 := g3.tick hne t3
  generalize mup m' tp (.lst [.int t3]) = m4 at *
  clear hat hql kn3 g3
  obtain ⟨lp1, lp2, lp3⟩ := least_pos hwd
  refine stc scLDeed 10 ?_
  refine de_dget ?_ ?_
  · exact u1 hr
  refine de_disp ?_ ?_ ?_ ?_ ?_
  · rfl
  · rfl
  · exact List.cons_ne_nil _ _
  · decide
  intro z hz
  iterate 6 (refine de_str ?_; refine de_int ?_)
  refine ⟨mup_same, leastTab, rfl, Nat.le_of_ble_eq_true rfl, ?_⟩
  rw [mup_mup]
  refine v scLDeed 9 rfl ⟨z, .int (leastW wd), rfl, ?_, ?_⟩
  · have := DG1.s (m := mup m4 z (.dK (mergeD [] leastTab))) (q := z) (x := wd.s) mup_same
    rw [least_get hwd] at this; exact this
  have g5 := g4.le (Sub.new (o := .dK (mergeD [] leastTab)) hz)
  generalize mup m4 z (.dK (mergeD [] leastTab)) = m5 at *
  clear g4 hz
  refine stc scLDeed 11 ?_
  refine de_dget ?_ ?_
  · exact u1 hr
  refine de_disp ?_ ?_ ?_ ?_ ?_
  · rfl
  · rfl
  · exact List.cons_ne_nil _ _
  · decide
  intro z2 hz2
  iterate 6 (refine de_str ?_; refine de_int ?_)
  refine ⟨mup_same, mostTab, rfl, Nat.le_of_ble_eq_true rfl, ?_⟩
  rw [mup_mup]
  refine v scLDeed 9 rfl ⟨z2, .int (mostW wd), rfl, ?_, ?_⟩
  · have := DG1.s (m := mup m5 z2 (.dK (mergeD [] mostTab))) (q := z2) (x := wd.s) mup_same
    rw [most_get hwd] at this; exact this
  have g6 := g5.le (Sub.new (o := .dK (mergeD [] mostTab)) hz2)
  generalize mup m5 z2 (.dK (mergeD [] mostTab)) = m6 at *
  clear g5 hz2
  have kn6 := kn.gone g6
  refine if0 <| dt_cmp rfl <| de_op <| v scLDeed 2 rfl <| de_int <| o2_sub <| v scLDeed 10 rfl <| o2_lt ⟨_, rfl, fun h1 => ?_, fun h1 => ?_⟩
  · exact rt1 (fc cL hr hgd (hkj := by omega) <| da_cons <| v scLDeed 0 rfl <| da_cons <| v scLDeed 1 rfl <| da_cons <| v scLDeed 3 rfl <| da_nil ⟨tp, a, ki, ma, ro, wo, t3, sl, tk, lo, cl, dp, rfl, kn6, fun m' t' s' lf g hk hg => ⟨_, Sub.refl _, leafE m6 t3 sl g6 m' t' s' lf g hk hg⟩⟩)
  have hrl : leastW wd ≤ room - 1 := by
    have := of_decide_eq_false h1
    omega
  obtain ⟨n', rfl⟩ : ∃ k, n = k + 1 := ⟨n - 1, by omega⟩
  have ihk := ih n' rfl
  refine stc scLDeed 12 ?_
  refine de_op <| v scLDeed 10 rfl <| fc cD hr hgd (hkj := by omega) <| da_cons <| v scLDeed 0 rfl <| da_cons <| de_op <| de_op <| c_min B.min <| da_cons <| v scLDeed 11 rfl <| da_cons <| de_op <| v scLDeed 2 rfl <| de_int <| o2_sub <| da_nil <| oc_min rfl <| v scLDeed 10 rfl <| o2_sub <| de_int <| o2_add <| da_nil ?_
  obtain ⟨mn, hmn, hmn1, hmn2, hmn3⟩ : ∃ mn : Int, (if room - 1 < mostW wd then room - 1 else mostW wd) = mn ∧ mn ≤ room - 1 ∧ mn ≤ mostW wd ∧ leastW wd ≤ mn := by
    refine ⟨_, rfl, ?_, ?_, ?_⟩ <;> split <;> omega
  rw [hmn]
  refine ⟨tp, t3, _, rfl, kn6.ht, by omega, by omega, fun c2 t4 c20 c21 => o2_add ?_⟩
  have g7 := g6.tick hne t4
  generalize mup m6 tp (.lst [.int t4]) = m7 at *
  clear g6 kn6
  have kn7 := kn.gone g7
  obtain ⟨mny, hmy⟩ : ∃ x, leastW wd + c2 = x := ⟨_, rfl⟩
  rw [hmy]
  refine stc scLDeed 13 ?_
  refine fc cS hr hgd (hkj := by omega) <| da_cons <| v scLDeed 0 rfl <| da_cons <| v scLDeed 12 rfl <| da_cons <| de_op <| v scLDeed 2 rfl <| de_int <| o2_sub <| da_nil ⟨tp, t4, mny, room - 1, rfl, kn7.ht, by omega, by omega, by omega, fun qs t5 sh hqs hshl hsh1 hshs => ?_⟩
  have hqst : qs ≠ tp := (mne kn7.ht hqs).symm
  have g8 := (g7.tick hne t5).le (Sub.new (o := .lst (sh.map D.int)) (show mup m7 tp (.lst [.int t5]) qs = none by rw [mup_ne hqst]; exact hqs))
  have hqsl : mup (mup m7 tp (.lst [.int t5])) qs (.lst (sh.map D.int)) qs = _ := mup_same
  have hqs0 : m qs = none := g7.free hqs
  have hqsq : qs ≠ a.q := (mne kn7.hq hqs).symm
  generalize mup (mup m7 tp (.lst [.int t5])) qs (.lst (sh.map D.int)) = m8 at *
  clear g7 kn7 hqs
  have kn8 := kn.gone g8
  refine stc scLDeed 14 <| de_lst <| da_nil <| li fun qp hqp => ?_
  have hqpt : qp ≠ tp := (mne kn8.ht hqp).symm
  have hqpq : qp ≠ a.q := (mne kn8.hq hqp).symm
  have hqps : qp ≠ qs := (mne hqsl hqp).symm
  have hqp0 : m qp = none := g8.free hqp
  have hout : ∀ {m2 : M} {t' s' : Int} {o : DO}, Gone m m2 tp a t' s' → Gone m (mup m2 qp o) tp a t' s' := fun g => sub_outT g (by rw [mup_ne hqpq, mup_ne hqpt]; exact hqp0)
  refine db_cons (ds_for p0 rfl (di_r1 rfl B.range <| v scLDeed 12 rfl ⟨_, rfl, by omega, by omega, fun i Γ' m' => ∃ (g15 g16 g17 g18 : Option D) (us : List T) (t' s' : Int), Γ' = [some (.ref tp), some (.ref a.q), some (.int room), some (aroundD tk lo cl dp), some (.bl tk), some (.bl lo), some (.bl cl), some (.int dp), some (.ref q1), some (.str wd.s), some (.int (leastW wd)), some (.int (mostW wd)), some (.int mny), some (.ref qs), some (.ref qp), g15, g16, g17, g18, none, none] ∧ Gone m m' tp a t' s' ∧ m' qs = some (.lst (sh.map D.int)) ∧ m' qp = some (.lst (us.map enc)) ∧ us.length = i ∧
      ∀ (j : Nat) (u : T), us[j]? = some u → GOk ki ro (tk || (decide (wd = .catch) && decide (0 < j))) u ∧ ∀ x, sh[j]? = some x → SzOk x u,
    ⟨_, _, _, _, [], t5, sl, rfl, g8.le (Sub.new hqp), mup_some hqsl hqp, mup_same, rfl, fun j u hu => by simp at hu⟩, fun _ _ _ _ _ => True.intro, fun i d' Γ' m' hd hW => ?_, fun Γ' m' hW => ?_⟩))
  · obtain ⟨g15, g16, g17, g18, us, t6, s6, rfl, g9, hqs9, hqp9, hul, hus⟩ := hW
    obtain ⟨hi, rfl⟩ := rgD_at hd
    have hil : i < sh.length := by omega
    rw [show (0 : Int) + (i : Int) * 1 = (i : Int) by omega]
    refine tg scLDeed 15 ?_
    refine stc scLDeed 16 (DE.imp (Q := fun d m3 => m' = m3 ∧ d = .bl (tk || (decide (wd = .catch) && decide (0 < i)))) ?_ ?_)
    · refine de_or <| v scLDeed 4 rfl ⟨tk, rfl, fun h5 => ⟨rfl, by rw [h5]; rfl⟩, fun h5 => ?_⟩
      refine de_one <| de_and <| de_cmp rfl <| v scLDeed 9 rfl <| de_str <| o2_eqs ⟨_, rfl, fun h6 => ?_, fun h6 => ?_⟩
      · have hw := of_s .catch h6
        refine de_one <| de_cmp rfl <| v scLDeed 15 rfl <| de_int <| o2_gt ⟨rfl, ?_⟩
        rw [h5, hw]
        have : decide ((0 : Int) < (i : Int)) = decide (0 < i) := by rw [decide_eq_decide]; omega
        rw [this]; rfl
      · have hw := of_ns .catch h6
        exact ⟨rfl, by rw [h5, decide_eq_false hw]; rfl⟩
    rintro d2 m3 ⟨rfl, rfl⟩
    refine stc scLDeed 17 (DE.imp (Q := fun d m3 => m' = m3 ∧ ∃ b, d = .bl b) ?_ ?_)
    · refine de_or <| v scLDeed 6 rfl ⟨cl, rfl, fun h5 => ⟨rfl, _, rfl⟩, fun h5 => ?_⟩
      refine de_one <| de_and <| de_cmp rfl <| v scLDeed 9 rfl <| de_str <| o2_eqs ⟨_, rfl, fun h6 => ?_, fun h6 => ⟨rfl, _, rfl⟩⟩
      exact de_one <| de_cmp rfl <| v scLDeed 15 rfl <| de_int <| o2_eqi ⟨rfl, _, rfl⟩
    rintro d2 m3 ⟨rfl, cl', rfl⟩
    refine stc scLDeed 18 (DE.imp (Q := fun d m3 => m' = m3 ∧ ∃ b, d = aroundD (tk || (decide (wd = .catch) && decide (0 < i))) b cl' (dp + 1)) ?_ ?_)
    · refine de_tup <| da_cons <| v scLDeed 16 rfl <| da_cons ?_
      refine de_or <| v scLDeed 5 rfl ⟨lo, rfl, fun h5 => ?_, fun h5 => ?_⟩
      · exact da_cons <| v scLDeed 17 rfl <| da_cons <| de_op <| v scLDeed 7 rfl <| de_int <| o2_add <| da_nil <| tu ⟨rfl, _, rfl⟩
      · exact de_one <| de_cmp rfl <| v scLDeed 9 rfl <| de_str <| o2_eqs <| da_cons <| v scLDeed 17 rfl <| da_cons <| de_op <| v scLDeed 7 rfl <| de_int <| o2_add <| da_nil <| tu ⟨rfl, _, rfl⟩
    rintro d2 m3 ⟨rfl, lo', rfl⟩
    refine db_one (ds_expr <| de_append <| v scLDeed 14 rfl ⟨qp, rfl, ⟨_, hqp9⟩, ?_⟩)
    have hxx : sh[i]? = some sh[i] := List.getElem?_eq_getElem hil
    have hxa : atI sh (i : Int) = some sh[i] := atI_nat hxx
    have hx1 := hsh1 _ (List.getElem_mem hil)
    have hx2 := mem_le_sum hsh1 (List.getElem_mem hil)
    refine fc ihk hr hgd (hkj := by omega) <| da_cons <| v scLDeed 0 rfl <| da_cons <| v scLDeed 1 rfl <| da_cons <| de_ix <| v scLDeed 13 rfl <| v scLDeed 15 rfl <| ox_l (.inl hqs9) (atI_map D.int hxa) <| da_cons <| v scLDeed 18 rfl <| da_nil
      ⟨tp, a, ki, ma, ro, wo, t6, s6, sh[i], _, lo', cl', dp + 1, rfl, kn.gone g9, hx1, by omega, by omega, by omega, by omega, fun m9 t7 s7 u g10 hgu hsu => ?_⟩
    have hqp10 := g10.keep hqp9 hqpt hqpq
    have hqs10 := g10.keep hqs9 hqst hqsq
    have g11 := g9.trans hne g10
    refine ⟨_, hqp10, Nat.lt_of_le_of_lt (show _ ≤ 100 by rw [List.length_map]; omega) (by decide), _, _, _, _, us ++ [u], t7, s7, rfl, hout g11, by rw [mup_ne hqps.symm]; exact hqs10, by rw [mup_same, List.map_append]; rfl, by simp [hul], fun j v hv => ?_⟩
    by_cases hj : j < us.length
    · rw [List.getElem?_append_left hj] at hv
      exact hus j v hv
    · rw [List.getElem?_append_right (by omega)] at hv
      have hj2 : j - us.length = 0 := by
        have := (List.getElem?_eq_some_iff.mp hv).1
        simp at this; omega
      rw [hj2] at hv
      obtain rfl : u = v := by simpa using hv
      obtain rfl : j = i := by omega
      exact ⟨hgu, fun x hx => by rw [hxx] at hx; cases hx; exact hsu⟩
  obtain ⟨g15, g16, g17, g18, us, t6, s6, rfl, g9, hqs9, hqp9, hul, hus⟩ := hW
  rw [rgD_len] at hul
  have kn9 := kn.gone g9
  have hul2 : us.length = sh.length := by omega
  have hul3 : us.length ≤ 4 := by omega
  have hlw : leastW wd ≤ us.length := by omega
  have hmw : (us.length : Int) ≤ mostW wd := by omega
  have hgus : ∀ (j : Nat) (u : T), us[j]? = some u → GOk ki ro (tk || (decide (wd = .catch) && decide (0 < j))) u := fun j u hj => (hus j u hj).1
  have hszs : ∀ (j : Nat) (u : T) (x : Int), us[j]? = some u → sh[j]? = some x → SzOk x u := fun j u x hj hx => (hus j u hj).2 x hx
  refine if0 <| dt_cmp rfl <| v scLDeed 9 rfl <| de_str <| o2_eqs ⟨_, rfl, fun h5 => ?_, fun h5 => ?_⟩
  · have hw := of_s .when h5
    subst hw
    obtain ⟨u0, u1', hus2⟩ : ∃ x y, us = [x, y] := by
      have : us.length = 2 := by simp [leastW, mostW] at hlw hmw; omega
      match hh : us, this with
      | [x, y], _ => exact ⟨x, y, rfl⟩
    have hma : ma ≠ [] := fun e => by rw [e] at hwd; cases hwd
    have hml : 0 < ma.length := List.length_pos_iff.mpr hma
    have hm8 := kn9.l2
    refine rt1 ?_
    refine de_tup <| da_cons <| de_str <| da_cons <| de_ix <| de_dget (u1 hr) <| v scLDeed 1 rfl <| de_str ⟨a.q, .ref a.a2, rfl, DG1.s kn9.hq, ?_⟩
    refine fc cD hr hgd (hkj := by omega) <| da_cons <| v scLDeed 0 rfl <| da_cons <| c_len B.len <| da_cons <| de_dget (u1 hr) <| v scLDeed 1 rfl <| de_str ⟨a.q, .ref a.a2, rfl, DG1.s kn9.hq, da_nil <| oc_lenl (.inl kn9.k2) <| da_nil ⟨tp, t6, _, rfl, kn9.ht, by simp; omega, by simp; omega, fun c t7 c0 c1 => ?_⟩⟩
    have hcl : c.toNat < ma.length := by simp at c1; omega
    have hat : atI (ma.map D.str) c = some (.str ma[c.toNat]) := by
      refine atI_map D.str ?_
      have := atI_nat (xs := ma) (List.getElem?_eq_getElem hcl)
      rwa [Int.toNat_of_nonneg c0] at this
    have hqp10 : mup m' tp (.lst [.int t7]) qp = some (.lst [enc u0, enc u1']) := by rw [mup_ne hqpt, hqp9, hus2]; rfl
    refine ox_l (.inl ((mup_ne kn9.n2).trans kn9.k2)) hat <| da_cons <| de_ix <| v scLDeed 14 rfl <| de_int <| ox_l (.inl hqp10) ix0 <| da_cons <| de_ix <| v scLDeed 14 rfl <| de_int <| ox_l (.inl hqp10) ix1 <| da_nil <| tu ⟨_, Sub.refl _, ?_⟩
    have e9 : enc (.mk "" .when ma[c.toNat] us) = .tup [.str "when", .str ma[c.toNat], enc u0, enc u1'] := by rw [enc, encs_map, hus2]; rfl
    rw [← e9]
    exact h _ t7 s6 _ (g9.tick hne t7) (node_ok hwd hlw hmw hgus) (node_sz hul2 hshs hszs)
  refine if0 <| dt_cmp rfl <| v scLDeed 9 rfl <| de_str <| o2_nes ⟨_, rfl, fun h6 => ?_, fun h6 => ?_⟩
  · have hwc := of_nn .catch h6
    have hww := of_ns .when h5
    refine rt1 (de_op <| de_tup <| da_cons <| v scLDeed 9 rfl <| da_nil <| tu <| c_tuple B.tuple <| da_cons <| v scLDeed 14 rfl <| da_nil <| oc_tuple_l (.inl hqp9) <| o2_addt (sl100 (by simp; omega)) ⟨_, Sub.refl _, ?_⟩)
    have e9 : enc (.mk "" wd "" us) = .tup ([.str wd.s] ++ us.map enc) := by
      rw [enc, encs_map]
      clear hgus hlw hmw h5 h6 hus
      cases wd <;> first | rfl | (exact absurd rfl hwc) | (exact absurd rfl hww) | (simp [nodeW] at hwd; done)
    rw [← e9]
    exact h _ t6 s6 _ g9 (node_ok hwd hlw hmw hgus) (node_sz hul2 hshs hszs)
  have hw := of_nnF .catch h6
  subst hw
  obtain ⟨u0, rest, hus2⟩ : ∃ x y, us = x :: y := by
    match hh : us, (show us ≠ [] by intro e; rw [e] at hlw; simp [leastW] at hlw) with
    | x :: y, _ => exact ⟨x, y, rfl⟩
  have hrl4 : rest.length ≤ 3 := by rw [hus2] at hul3; simp at hul3; omega
  have hki8 := kn9.l1
  have hkil : 0 < ki.length := List.length_pos_iff.mpr kn9.s1
  refine stc scLDeed 19 <| de_lst <| da_nil <| li fun qt hqt2 => ?_
  have hqtt : qt ≠ tp := (mne kn9.ht hqt2).symm
  have hqtq : qt ≠ a.q := (mne kn9.hq hqt2).symm
  have hqtp : qt ≠ qp := (mne hqp9 hqt2).symm
  have hqt0 : m qt = none := g9.free hqt2
  have hout2 : ∀ {m2 : M} {t' s' : Int} {o : DO}, Gone m m2 tp a t' s' → Gone m (mup m2 qt o) tp a t' s' := fun g => sub_outT g (by rw [mup_ne hqtq, mup_ne hqtt]; exact hqt0)
  have g12 := g9.le (Sub.new (o := .lst []) hqt2)
  have hqp12 := mup_some (o := .lst []) hqp9 hqt2
  have hqt12 : mup m' qt (.lst []) qt = _ := mup_same
  generalize mup m' qt (.lst []) = m12 at *
  refine db_cons (ds_for p0 rfl (di_l ?_))
  refine de_sll <| v scLDeed 14 rfl <| de_int ⟨_, rfl, qp, _, rfl, .inl hqp12, fun qc hqc => ⟨qc, _, rfl, .inl mup_same, ?_⟩⟩
  have hqct : qc ≠ tp := (mne (kn.gone g12).ht hqc).symm
  have hqcq : qc ≠ a.q := (mne (kn.gone g12).hq hqc).symm
  have hqcqt : qc ≠ qt := (mne hqt12 hqc).symm
  have ecut : cutD (us.map enc) (some 1) none = rest.map enc := by
    rw [hus2]
    exact cut_from _ 1 (by simp)
  rw [ecut]
  refine ⟨fun i Γ' m' => ∃ (g20 : Option D) (vs : List T) (t' s' : Int), Γ' = [some (.ref tp), some (.ref a.q), some (.int room), some (aroundD tk lo cl dp), some (.bl tk), some (.bl lo), some (.bl cl), some (.int dp), some (.ref q1), some (.str W.catch.s), some (.int (leastW .catch)), some (.int (mostW .catch)), some (.int mny), some (.ref qs), some (.ref qp), g15, g16, g17, g18, some (.ref qt), g20] ∧ Gone m m' tp a t' s' ∧ m' qp = some (.lst (us.map enc)) ∧ m' qc = some (.lst (rest.map enc)) ∧ m' qt = some (.lst (vs.map fun v => .tup [.str v.lab, enc v])) ∧ vs.length = i ∧
      ∀ (j : Nat) (v : T), vs[j]? = some v → ∃ l u, rest[j]? = some u ∧ v = relab l u,
    ⟨_, [], t6, s6, rfl, g12.le (Sub.new hqc), mup_some hqp12 hqc, mup_same, mup_some hqt12 hqc, rfl, fun j v hv => by simp at hv⟩, fun i Γ' m' _ hW => ?_, fun i d' Γ' m' hd hW => ?_, fun Γ' m' hW => ?_⟩
  · obtain ⟨_, _, _, _, _, _, _, hc, _⟩ := hW
    exact .inl hc
  · obtain ⟨g20, vs, t7, s7, rfl, g13, hqp13, hqc13, hqt13, hvl, hvs⟩ := hW
    obtain ⟨u, hu, rfl⟩ := get_map hd
    have hi : i < rest.length := (List.getElem?_eq_some_iff.mp hu).1
    have kn13 := kn.gone g13
    refine tg scLDeed 20 ?_
    refine db_one (ds_expr <| de_append <| v scLDeed 19 rfl ⟨qt, rfl, ⟨_, hqt13⟩, ?_⟩)
    refine de_tup <| da_cons <| de_ix <| de_dget (u1 hr) <| v scLDeed 1 rfl <| de_str ⟨a.q, .ref a.a1, rfl, DG1.s kn13.hq, ?_⟩
    refine fc cD hr hgd (hkj := by omega) <| da_cons <| v scLDeed 0 rfl <| da_cons <| c_len B.len <| da_cons <| de_dget (u1 hr) <| v scLDeed 1 rfl <| de_str ⟨a.q, .ref a.a1, rfl, DG1.s kn13.hq, da_nil <| oc_lenl (.inl kn13.k1) <| da_nil ⟨tp, t7, _, rfl, kn13.ht, by simp; omega, by simp; omega, fun c t8 c0 c1 => ?_⟩⟩
    have hcl : c.toNat < ki.length := by simp at c1; omega
    have hat : atI (ki.map D.str) c = some (.str ki[c.toNat]) := by
      refine atI_map D.str ?_
      have := atI_nat (xs := ki) (List.getElem?_eq_getElem hcl)
      rwa [Int.toNat_of_nonneg c0] at this
    have g14 := g13.tick hne t8
    refine ox_l (.inl ((mup_ne kn13.n1).trans kn13.k1)) hat <| da_cons <| v scLDeed 20 rfl <| da_nil <| tu ⟨_, (mup_ne hqtt).trans hqt13, Nat.lt_of_le_of_lt (show _ ≤ 100 by rw [List.length_map]; omega) (by decide), ?_⟩
    refine ⟨_, vs ++ [relab ki[c.toNat] u], t8, s7, rfl, hout2 g14, by rw [mup_ne hqtp.symm, mup_ne hqpt]; exact hqp13, by rw [mup_ne hqcqt, mup_ne hqct]; exact hqc13, ?_, by simp [hvl], fun j v hv => ?_⟩
    · rw [mup_same, List.map_append, List.map_singleton, enc_relab]; rfl
    · by_cases hj : j < vs.length
      · rw [List.getElem?_append_left hj] at hv
        exact hvs j v hv
      · rw [List.getElem?_append_right (by omega)] at hv
        have hj2 : j - vs.length = 0 := by
          have := (List.getElem?_eq_some_iff.mp hv).1
          simp at this; omega
        rw [hj2] at hv
        obtain rfl : relab ki[c.toNat] u = v := by simpa using hv
        obtain rfl : j = i := by omega
        exact ⟨_, u, hu, rfl⟩
  obtain ⟨g20, vs, t7, s7, rfl, g13, hqp13, hqc13, hqt13, hvl, hvs⟩ := hW
  rw [List.length_map] at hvl
  have hqp14 : m' qp = some (.lst (enc u0 :: rest.map enc)) := by rw [hqp13, hus2]; rfl
  refine rt1 (de_op <| de_tup <| da_cons <| de_str <| da_cons <| de_ix <| v scLDeed 14 rfl <| de_int <| ox_l (.inl hqp14) ix0 <| da_nil <| tu <| c_tuple B.tuple <| da_cons <| v scLDeed 19 rfl <| da_nil <| oc_tuple_l (.inl hqt13) <| o2_addt (sl100 (by simp; omega)) ⟨_, Sub.refl _, ?_⟩)
  have e9 : enc (.mk "" .catch "" (u0 :: vs)) = .tup ([.str "catch", enc u0] ++ vs.map fun v => .tup [.str v.lab, enc v]) := by
    rw [enc, encs_map, ← takD_map vs]; rfl
  rw [← e9]
  have hlen : (u0 :: vs).length = us.length := by rw [hus2, List.length_cons, List.length_cons, hvl]
  have hget : ∀ (j : Nat) (v : T), (u0 :: vs)[j]? = some v → ∃ u, us[j]? = some u ∧ (v = u ∨ ∃ l, v = relab l u) := fun j v hv => by
    rw [hus2]
    cases j with
    | zero => cases hv; exact ⟨u0, rfl, .inl rfl⟩
    | succ j =>
      obtain ⟨l, u, hu, e⟩ := hvs j v hv
      exact ⟨u, hu, .inr ⟨l, e⟩⟩
  refine h _ t7 s7 _ g13 (node_ok hwd (by rw [hlen]; exact hlw) (by rw [hlen]; exact hmw) fun j v hv => ?_) (node_sz (by rw [hlen]; exact hul2) hshs fun j v x hv hx => ?_)
  · obtain ⟨u, hu, e | ⟨l, e⟩⟩ := hget j v hv
    · rw [e]; exact hgus j u hu
    · rw [e]; exact gok_relab (hgus j u hu)
  · obtain ⟨u, hu, e | ⟨l, e⟩⟩ := hget j v hv
    · rw [e]; exact hszs j u x hu hx
    · rw [e]; exact sz_relab (hszs j u x hu hx)
theorem ok_ldeed {f : Addr} {fd : FuncData} (B : Tx mg) (cD : Cd P w K mg base 1 "_law_digit" spDigit) (cL : Cd P w K mg base 2 "_law_leaf" spLLeaf) (cS : Cd P w K mg base 2 "_law_shares" spShares) (d : DefAt K mg "_law_deed" sLDeed ["tape", "known", "room", "around"] f fd) : ∀ n : Nat, Cd P w K mg base (n + 3) "_law_deed" (spLDeed n)
  | 0 => ok_ldeed1 B cD cL cS d 0 fun k hk => absurd hk (Nat.succ_ne_zero k)
  | n + 1 => ok_ldeed1 B cD cL cS d (n + 1) fun k hk => by
    obtain rfl : k = n := Nat.succ.inj hk
    exact ok_ldeed B cD cL cS d k
end
end SC

set_option maxHeartbeats 400000
/-! M10: the law's houses are good houses. -/
namespace SC
open PySem L2 DL
theorem psOks_of : ∀ {ts : List T} {b c : Bool}, (∀ (k : Nat) (u : T), ts[k]? = some u → psOk (b || (c && decide (0 < k))) u = true) → psOks b c ts = true
  | [], _, _, _ => rfl
  | t :: ts, b, c, h => by
    rw [psOks]
    have h0 := h 0 t rfl
    have e0 : (b || (c && decide (0 < 0))) = b := by cases b <;> cases c <;> rfl
    rw [e0] at h0
    rw [h0, Bool.true_and]
    refine psOks_of fun k u hu => ?_
    have h1 := h (k + 1) u hu
    have e1 : (b || (c && decide (0 < k + 1))) = (b || c || (c && decide (0 < k))) := by
      rw [decide_eq_true (Nat.succ_pos k)]
      cases b <;> cases c <;> simp
    rwa [e1] at h1
theorem gok_all {ki ro : List Str} {b : Bool} {t : T} (h : GOk ki ro b t) : psOk b t = true ∧ ∀ (p : List Key) (x : PT'), x ∈ walkT p t → x.2.okT ∧ (x.2.w = .call → x.2.a ∈ ro) ∧ (x.2.w = .slip → x.2.a ∈ ki) := by
  induction h with
  | @mk b l w a ks h1 h2 h3 h4 h5 ih =>
    refine ⟨?_, fun p x hx => ?_⟩
    · rw [psOk, Bool.and_eq_true]
      refine ⟨?_, psOks_of fun k u hu => (ih k u hu).1⟩
      by_cases hw : w = .pass
      · rw [h2 hw]; simp
      · simp [hw]
    · rw [walkT] at hx
      rcases List.mem_cons.mp hx with rfl | hx
      · exact ⟨h1, h3, h4⟩
      · obtain ⟨k, u, hu, hx2⟩ := walkTs_mem.mp hx
        exact (ih k u hu).2 _ x hx2
theorem house_ok {ks : List (Str × Str)} {ma names : List Str} {rs : List (Str × T)} (hk : KindsOk ks) (hn : NamesOk names) (hl : names.length ≤ 5) (h0 : names ≠ []) (hr : rs.map (·.1) = names)
    (hg : ∀ r ∈ rs, GOk (ks.map (·.1)) names false r.2 ∧ SzOk 45 r.2) : HouseOk ⟨ks, ma, rs⟩ := by
  have hnm : ∀ r ∈ rs, okNm r.1 = true := fun r hr2 => hn.ok _ (by rw [← hr]; exact List.mem_map_of_mem hr2)
  have hlen : rs.length = names.length := by rw [← hr, List.length_map]
  have hw : ∀ x ∈ walkH ⟨ks, ma, rs⟩, x.2.okT ∧ (x.2.w = .call → x.2.a ∈ names) ∧ (x.2.w = .slip → x.2.a ∈ ks.map (·.1)) := fun x hx => by
    obtain ⟨r, hr2, hx2⟩ := List.mem_flatMap.mp hx
    exact (gok_all (hg r hr2).1).2 _ x hx2
  have hs : HouseSz ⟨ks, ma, rs⟩ := ⟨fun x hx => (hw x hx).1, fun r hr2 => by have := (hg r hr2).2 [.inr r.1]; omega, by show rs.length ≤ 5; omega, fun e => by
    have e2 : rs = [] := e
    rw [e2] at hlen
    exact h0 (List.eq_nil_of_length_eq_zero hlen.symm)⟩
  refine ⟨⟨hs, fun r hr2 => ?_⟩, by show (rs.map (·.1)).Nodup; rw [hr]; exact hn.nd, hk, fun x hx hc => ?_, fun x hx hc => ?_, fun r hr2 => (gok_all (hg r hr2).1).1, fun r hr2 => ?_⟩
  · have := hnm r hr2
    unfold okNm at this
    simp only [Bool.and_eq_true] at this
    exact this.1.1
  · have := (hw x hx).2.1 hc
    rw [← hr] at this
    obtain ⟨r, h1, h2⟩ := List.mem_map.mp this
    exact ⟨r, h1, h2⟩
  · have := (hw x hx).2.2 hc
    obtain ⟨r, h1, h2⟩ := List.mem_map.mp this
    exact ⟨r, h1, h2⟩
  · have := hnm r hr2
    unfold okNm at this
    simp only [Bool.and_eq_true, decide_eq_true_eq] at this
    exact this.2
end SC

set_option maxHeartbeats 400000
/-! P16: _law_house. -/
namespace SC
open PySem L2 DL
def intE : Expr → Option Int
  | .Constant (.int x) _ _ => some x
  | _ => none
/-- a row of numbers -/
theorem da_ints {X : Cx} {Γ : G} {m : M} : ∀ {es : List Expr} (ns : List Int) {QL : List D → M → Prop}, es.map intE = ns.map some → QL (ns.map D.int) m → DA X es Γ m QL
  | [], [], _, _, q => da_nil q
  | [], _ :: _, _, h, _ => by cases h
  | _ :: _, [], _, h, _ => by cases h
  | e :: es, x :: ns, QL, h, q => by
    rw [List.map_cons, List.map_cons, List.cons.injEq] at h
    obtain ⟨h1, h2⟩ := h
    unfold intE at h1
    split at h1
    · cases h1
      exact da_cons (de_int (da_ints ns h2 q)) rfl
    · cases h1
theorem ox_pick {X : Cx} {m : M} {Q : D → M → Prop} {p : Addr} {ns : List Int} {c : Int} (h : m p = some (.lst (ns.map D.int))) (c0 : 0 ≤ c) (c1 : c < (ns.length : Int)) (q : ∀ x ∈ ns, Q (.int x) m) : OX X (.ref p) (.int c) m Q := by
  have hc : c.toNat < ns.length := by omega
  have hat : atI (ns.map D.int) c = some (.int ns[c.toNat]) := by
    refine atI_map D.int ?_
    have := atI_nat (xs := ns) (List.getElem?_eq_getElem hc)
    rwa [Int.toNat_of_nonneg c0] at this
  exact ox_l (.inl h) hat (q _ (List.getElem_mem hc))
section
variable {P : Program} {w : World} {K : PySem.W.Frag} {mg : Str → Option Value} {base : Heap}
abbrev sLHouse : Stmt := top 25
abbrev nHouse : List Str := ["script", "start", "head", "kinds", "marks", "many", "names", "known", "room", "rooms", "k", "tape", "kind"]
theorem scLHouse : Sf ["script", "start", "head", "kinds", "marks", "many", "names", "known", "room", "rooms", "k", "tape"] ["kind"] ["script", "start"] (defScope sLHouse) := sf_mk ⟨rfl, rfl, rfl, by decide +kernel, rfl, by decide +kernel, by decide +kernel⟩ (by decide +kernel)
def spLHouse : DSp := fun ds m Q => ∃ sc ns, ds = [.ref sc, .int 0] ∧ m sc = some (.rd (List.map D.int ns)) ∧ ∀ m' h, Sub m m' → HouseOk h → Q (encH h) m'
theorem ok_lhouse {f : Addr} {fd : FuncData} (B : Tx mg) (cD : Cd P w K mg base 1 "_law_digit" spDigit) (cT : Cd P w K mg base 2 "_law_tape" spTape) (cK : Cd P w K mg base 3 "_law_kinds" spKinds) (cN : Cd P w K mg base 2 "_law_names" spNames) (cE : Cd P w K mg base 15 "_law_deed" (spLDeed 12))
    (d : DefAt K mg "_law_house" sLHouse ["script", "start"] f fd) : Cd P w K mg base 16 "_law_house" spLHouse := by
  refine d.cd (fd_of d.fn scLHouse.fs (fun ds m Q h => by obtain ⟨q, a, rfl, _⟩ := h; rfl) fun cdv A outer s H ds m Q hr hgd h => ?_)
  obtain ⟨sc, ns, rfl, hsc, h⟩ := h
  conv in defBody _ => whnf
  refine stc scLHouse 2 <| fc cT hr hgd (hkj := by decide) <| da_cons <| v scLHouse 0 rfl <| da_cons <| v scLHouse 1 rfl <| da_nil ⟨sc, ns, 0, rfl, hsc, Int.le_refl _, fun p t hp => ?_⟩
  refine stc scLHouse 3 <| fc cK hr hgd (hkj := by decide) <| da_cons <| v scLHouse 2 rfl <| da_nil ⟨p, t, rfl, mup_same, fun t1 ks hk hk0 hkn => ?_⟩
  rw [mup_mup]
  obtain ⟨m1, hm1⟩ : ∃ m1, mup m p (.lst [.int t1]) = m1 := ⟨_, rfl⟩
  rw [hm1]
  have b1 : Sub (mup m p (.lst [.int t1])) m1 := by rw [hm1]; exact Sub.refl _
  refine stc scLHouse 4 ?_
  refine fc cN hr hgd (hkj := by decide) <| da_cons <| v scLHouse 2 rfl <| da_cons <| de_ix ?_
  refine de_lst ?_
  refine da_ints [0, 0, 0, 1, 2, 2] ?_ ⟨sl100 (by decide), fun z hz => ?_⟩
  · rfl
  have zp : z ≠ p := (mne b1.at hz).symm
  refine fc cD hr hgd (hkj := by decide) <| da_cons <| v scLHouse 2 rfl <| da_cons <| de_int <| da_nil ⟨p, t1, 6, rfl, mup_some b1.at hz, by decide, by decide, fun c t2 c0 c1 => ox_pick ((mup_ne zp).trans mup_same) c0 c1 fun x hx => da_nil ?_⟩
  have hx8 : 0 ≤ x ∧ x ≤ 2 := by simp at hx; omega
  have b2 : Sub (mup m p (.lst [.int t2])) (mup (mup m1 z (.lst ([0, 0, 0, 1, 2, 2].map D.int))) p (.lst [.int t2])) := (b1.trans (Sub.new hz)).put
  generalize mup (mup m1 z (.lst ([0, 0, 0, 1, 2, 2].map D.int))) p (.lst [.int t2]) = m2 at *
  refine ⟨p, t2, x, rfl, b2.at, by omega, by omega, fun q2 t3 ma hq2 hmal hmok => ?_⟩
  have q2p : q2 ≠ p := (mne b2.at hq2).symm
  have b3 : Sub (mup m p (.lst [.int t3])) (mup (mup m2 p (.lst [.int t3])) q2 (.lst (ma.map D.str))) := b2.put.trans (Sub.new (by rw [mup_ne q2p]; exact hq2))
  have l2 : mup (mup m2 p (.lst [.int t3])) q2 (.lst (ma.map D.str)) q2 = _ := mup_same
  generalize mup (mup m2 p (.lst [.int t3])) q2 (.lst (ma.map D.str)) = m3 at *
  clear b1 b2 hz hq2 hm1
  refine stc scLHouse 5 ?_
  refine de_ix ?_
  refine de_lst ?_
  refine da_ints [1, 2, 2, 3, 3, 5] ?_ ⟨sl100 (by decide), fun z hz => ?_⟩
  · rfl
  have zp : z ≠ p := (mne b3.at hz).symm
  refine fc cD hr hgd (hkj := by decide) <| da_cons <| v scLHouse 2 rfl <| da_cons <| de_int <| da_nil ⟨p, t3, 6, rfl, mup_some b3.at hz, by decide, by decide, fun c t4 c0 c1 => ox_pick ((mup_ne zp).trans mup_same) c0 c1 fun many hmany => ?_⟩
  have hm5 : 1 ≤ many ∧ many ≤ 5 := by simp at hmany; omega
  have b4 : Sub (mup m p (.lst [.int t4])) (mup (mup m3 z (.lst ([1, 2, 2, 3, 3, 5].map D.int))) p (.lst [.int t4])) := (b3.trans (Sub.new hz)).put
  have l2 : mup (mup m3 z (.lst ([1, 2, 2, 3, 3, 5].map D.int))) p (.lst [.int t4]) q2 = _ := (mup_ne q2p).trans (mup_some l2 hz)
  generalize mup (mup m3 z (.lst ([1, 2, 2, 3, 3, 5].map D.int))) p (.lst [.int t4]) = m4 at *
  clear b3 hz
  refine stc scLHouse 6 ?_
  refine fc cN hr hgd (hkj := by decide) <| da_cons <| v scLHouse 2 rfl <| da_cons <| v scLHouse 5 rfl <| da_nil ⟨p, t4, many, rfl, b4.at, by omega, by omega, fun q3 t5 na hq3 hnal hnok => ?_⟩
  have q3p : q3 ≠ p := (mne b4.at hq3).symm
  have b5 : Sub (mup m p (.lst [.int t5])) (mup (mup m4 p (.lst [.int t5])) q3 (.lst (na.map D.str))) := b4.put.trans (Sub.new (by rw [mup_ne q3p]; exact hq3))
  have l3 : mup (mup m4 p (.lst [.int t5])) q3 (.lst (na.map D.str)) q3 = _ := mup_same
  have l2 : mup (mup m4 p (.lst [.int t5])) q3 (.lst (na.map D.str)) q2 = _ := (mup_ne (mne l2 hq3)).trans ((mup_ne q2p).trans l2)
  generalize mup (mup m4 p (.lst [.int t5])) q3 (.lst (na.map D.str)) = m5 at *
  clear b4 hq3
  refine stc scLHouse 7 ?_
  refine de_disp ?_ ?_ ?_ ?_ ?_
  · rfl
  · rfl
  · exact List.cons_ne_nil _ _
  · decide
  intro kz hkz
  have kzp : kz ≠ p := (mne b5.at hkz).symm
  have kz0 : m kz = none := (mup_none (mup_noneS b5 hkz)).1
  have b6 : Sub (mup m p (.lst [.int t5])) (mup m5 kz (.dK [])) := b5.trans (Sub.new hkz)
  have l2 := mup_some (o := .dK []) l2 hkz
  have l3 := mup_some (o := .dK []) l3 hkz
  have lz : mup m5 kz (.dK []) kz = _ := mup_same
  generalize mup m5 kz (.dK []) = m6 at *
  clear b5 hkz
  refine de_str ?_
  refine de_map [("kind", 12)] ks kp (fun k => .str k.1) scLHouse.fs.nd (blkOk_by (N := nHouse) (sc := defScope sLHouse) (by decide +kernel)) (di_t <| v scLHouse 3 rfl ⟨_, rfl, rfl, sl100 (by have := hk.few; omega), fun _ _ _ => True.intro, fun pp acc y hpp hy => ?_, fun q1 hq1 => ?_⟩)
  · intro s H C cl fp
    refine tb scLHouse.fs.nd 12 ?_
    intro s H C cl fp
    refine de_ix <| vb 12 rfl <| de_int <| ox_t ix0 ?_
    exact ⟨Sub.refl _, rfl⟩
  have q1p : q1 ≠ p := (mne b6.at hq1).symm
  have q1k : q1 ≠ kz := (mne lz hq1).symm
  have b7 : Sub (mup m p (.lst [.int t5])) (mup m6 q1 (.lst (ks.map fun k => D.str k.1))) := b6.trans (Sub.new hq1)
  have l1 : mup m6 q1 (.lst (ks.map fun k => D.str k.1)) q1 = some (.lst ((ks.map (·.1)).map D.str)) := by rw [mup_same, List.map_map]; rfl
  have l2 := mup_some (o := .lst (ks.map fun k => D.str k.1)) l2 hq1
  have l3 := mup_some (o := .lst (ks.map fun k => D.str k.1)) l3 hq1
  have lz := mup_some (o := .lst (ks.map fun k => D.str k.1)) lz hq1
  generalize mup m6 q1 (.lst (ks.map fun k => D.str k.1)) = m7 at *
  clear b6 hq1
  refine de_str <| v scLHouse 4 rfl <| de_str <| v scLHouse 6 rfl <| de_str ?_
  refine fc cN hr hgd (hkj := by decide) <| da_cons <| v scLHouse 2 rfl <| da_cons <| de_int <| da_nil ⟨p, t5, 3, rfl, b7.at, by decide, by decide, fun q4 t6 wo hq4 hwl hwok => ?_⟩
  have q4p : q4 ≠ p := (mne b7.at hq4).symm
  have q4k : q4 ≠ kz := (mne lz hq4).symm
  have b8 : Sub (mup m p (.lst [.int t6])) (mup (mup m7 p (.lst [.int t6])) q4 (.lst (wo.map D.str))) := b7.put.trans (Sub.new (by rw [mup_ne q4p]; exact hq4))
  have l4 : mup (mup m7 p (.lst [.int t6])) q4 (.lst (wo.map D.str)) q4 = _ := mup_same
  have l1 : mup (mup m7 p (.lst [.int t6])) q4 (.lst (wo.map D.str)) q1 = _ := (mup_ne (mne l1 hq4)).trans ((mup_ne q1p).trans l1)
  have l2 : mup (mup m7 p (.lst [.int t6])) q4 (.lst (wo.map D.str)) q2 = _ := (mup_ne (mne l2 hq4)).trans ((mup_ne q2p).trans l2)
  have l3 : mup (mup m7 p (.lst [.int t6])) q4 (.lst (wo.map D.str)) q3 = _ := (mup_ne (mne l3 hq4)).trans ((mup_ne q3p).trans l3)
  have lz : mup (mup m7 p (.lst [.int t6])) q4 (.lst (wo.map D.str)) kz = _ := (mup_ne q4k.symm).trans ((mup_ne kzp).trans lz)
  generalize mup (mup m7 p (.lst [.int t6])) q4 (.lst (wo.map D.str)) = m8 at *
  clear b7 hq4
  refine ⟨lz, [(.inr "kinds", .ref q1), (.inr "marks", .ref q2), (.inr "rooms", .ref q3), (.inr "words", .ref q4)], rfl, Nat.le_of_ble_eq_true rfl, ?_⟩
  have q2k : q2 ≠ kz := mnf l2 lz (by simp)
  have q3k : q3 ≠ kz := mnf l3 lz (by simp)
  have b9 : Sub (mup m p (.lst [.int t6])) (mup m8 kz (.dK (mergeD [] [(.inr "kinds", .ref q1), (.inr "marks", .ref q2), (.inr "rooms", .ref q3), (.inr "words", .ref q4)]))) := sub_outT b8 (by rw [mup_ne kzp]; exact kz0)
  have l1 := (mup_ne (o := .dK (mergeD [] [(.inr "kinds", .ref q1), (.inr "marks", .ref q2), (.inr "rooms", .ref q3), (.inr "words", .ref q4)])) q1k).trans l1
  have l2 := (mup_ne (o := .dK (mergeD [] [(.inr "kinds", .ref q1), (.inr "marks", .ref q2), (.inr "rooms", .ref q3), (.inr "words", .ref q4)])) q2k).trans l2
  have l3 := (mup_ne (o := .dK (mergeD [] [(.inr "kinds", .ref q1), (.inr "marks", .ref q2), (.inr "rooms", .ref q3), (.inr "words", .ref q4)])) q3k).trans l3
  have l4 := (mup_ne (o := .dK (mergeD [] [(.inr "kinds", .ref q1), (.inr "marks", .ref q2), (.inr "rooms", .ref q3), (.inr "words", .ref q4)])) q4k).trans l4
  have lz : mup m8 kz (.dK (mergeD [] [(.inr "kinds", .ref q1), (.inr "marks", .ref q2), (.inr "rooms", .ref q3), (.inr "words", .ref q4)])) kz = some (.dK [(.inr "kinds", .ref q1), (.inr "marks", .ref q2), (.inr "rooms", .ref q3), (.inr "words", .ref q4)]) := mup_same
  generalize mup m8 kz (.dK (mergeD [] [(.inr "kinds", .ref q1), (.inr "marks", .ref q2), (.inr "rooms", .ref q3), (.inr "words", .ref q4)])) = m9 at *
  clear b8
  refine db_cons (ds_dput (u1 hr) rfl ?_)
  refine de_ix ?_
  refine de_lst ?_
  refine da_ints [2, 4, 4, 8] ?_ ⟨sl100 (by decide), fun z hz => ?_⟩
  · rfl
  have zp : z ≠ p := (mne b9.at hz).symm
  refine fc cD hr hgd (hkj := by decide) <| da_cons <| v scLHouse 2 rfl <| da_cons <| de_int <| da_nil ⟨p, t6, 4, rfl, mup_some b9.at hz, by decide, by decide, fun c t7 c0 c1 => ox_pick ((mup_ne zp).trans mup_same) c0 c1 fun sl hsl => ?_⟩
  have ba : Sub (mup m p (.lst [.int t7])) (mup (mup m9 z (.lst ([2, 4, 4, 8].map D.int))) p (.lst [.int t7])) := (b9.trans (Sub.new hz)).put
  have l1 : mup (mup m9 z (.lst ([2, 4, 4, 8].map D.int))) p (.lst [.int t7]) q1 = _ := (mup_ne q1p).trans (mup_some l1 hz)
  have l2 : mup (mup m9 z (.lst ([2, 4, 4, 8].map D.int))) p (.lst [.int t7]) q2 = _ := (mup_ne q2p).trans (mup_some l2 hz)
  have l3 : mup (mup m9 z (.lst ([2, 4, 4, 8].map D.int))) p (.lst [.int t7]) q3 = _ := (mup_ne q3p).trans (mup_some l3 hz)
  have l4 : mup (mup m9 z (.lst ([2, 4, 4, 8].map D.int))) p (.lst [.int t7]) q4 = _ := (mup_ne q4p).trans (mup_some l4 hz)
  have lz : mup (mup m9 z (.lst ([2, 4, 4, 8].map D.int))) p (.lst [.int t7]) kz = _ := (mup_ne kzp).trans (mup_some lz hz)
  generalize mup (mup m9 z (.lst ([2, 4, 4, 8].map D.int))) p (.lst [.int t7]) = ma' at *
  clear b9 hz
  refine v scLHouse 7 rfl <| de_str ⟨kz, _, "slips", rfl, rfl, lz, (show (4 : Nat) < sizeLine by decide), ?_⟩
  have eK : putD [((.inr "kinds" : Key), D.ref q1), (.inr "marks", .ref q2), (.inr "rooms", .ref q3), (.inr "words", .ref q4)] (.inr "slips") (.int sl) = kTab ⟨kz, q1, q2, q3, q4⟩ sl := rfl
  rw [eK]
  have bb : Sub (mup m p (.lst [.int t7])) (mup ma' kz (.dK (kTab ⟨kz, q1, q2, q3, q4⟩ sl))) := sub_outT ba (by rw [mup_ne kzp]; exact kz0)
  have l1 := (mup_ne (o := .dK (kTab ⟨kz, q1, q2, q3, q4⟩ sl)) q1k).trans l1
  have l2 := (mup_ne (o := .dK (kTab ⟨kz, q1, q2, q3, q4⟩ sl)) q2k).trans l2
  have l3 := (mup_ne (o := .dK (kTab ⟨kz, q1, q2, q3, q4⟩ sl)) q3k).trans l3
  have l4 := (mup_ne (o := .dK (kTab ⟨kz, q1, q2, q3, q4⟩ sl)) q4k).trans l4
  have lz : mup ma' kz (.dK (kTab ⟨kz, q1, q2, q3, q4⟩ sl)) kz = _ := mup_same
  generalize mup ma' kz (.dK (kTab ⟨kz, q1, q2, q3, q4⟩ sl)) = mb at *
  clear ba
  refine stc scLHouse 8 ?_
  refine de_op ?_
  refine de_ix ?_
  refine de_lst ?_
  refine da_ints [8, 14, 20, 45] ?_ ⟨sl100 (by decide), fun z hz => ?_⟩
  · rfl
  have zp : z ≠ p := (mne bb.at hz).symm
  refine fc cD hr hgd (hkj := by decide) <| da_cons <| v scLHouse 2 rfl <| da_cons <| de_int <| da_nil ⟨p, t7, 4, rfl, mup_some bb.at hz, by decide, by decide, fun c t8 c0 c1 => ox_pick ((mup_ne zp).trans mup_same) c0 c1 fun rm hrm => v scLHouse 5 rfl <| o2_fdiv ⟨by omega, by omega⟩ ?_⟩
  have hrm2 : 1 ≤ rm / many ∧ rm / many ≤ 45 := by
    have h5 : rm = 8 ∨ rm = 14 ∨ rm = 20 ∨ rm = 45 := by simpa using hrm
    have h6 : many = 1 ∨ many = 2 ∨ many = 3 ∨ many = 4 ∨ many = 5 := by omega
    rcases h5 with rfl | rfl | rfl | rfl <;> rcases h6 with rfl | rfl | rfl | rfl | rfl <;> decide
  have bc : Sub (mup m p (.lst [.int t8])) (mup (mup mb z (.lst ([8, 14, 20, 45].map D.int))) p (.lst [.int t8])) := (bb.trans (Sub.new hz)).put
  have l1 : mup (mup mb z (.lst ([8, 14, 20, 45].map D.int))) p (.lst [.int t8]) q1 = _ := (mup_ne q1p).trans (mup_some l1 hz)
  have l2 : mup (mup mb z (.lst ([8, 14, 20, 45].map D.int))) p (.lst [.int t8]) q2 = _ := (mup_ne q2p).trans (mup_some l2 hz)
  have l3 : mup (mup mb z (.lst ([8, 14, 20, 45].map D.int))) p (.lst [.int t8]) q3 = _ := (mup_ne q3p).trans (mup_some l3 hz)
  have l4 : mup (mup mb z (.lst ([8, 14, 20, 45].map D.int))) p (.lst [.int t8]) q4 = _ := (mup_ne q4p).trans (mup_some l4 hz)
  have lz : mup (mup mb z (.lst ([8, 14, 20, 45].map D.int))) p (.lst [.int t8]) kz = _ := (mup_ne kzp).trans (mup_some lz hz)
  generalize mup (mup mb z (.lst ([8, 14, 20, 45].map D.int))) p (.lst [.int t8]) = mc at *
  clear bb hz
  obtain ⟨rmv, hrv⟩ : ∃ x, rm / many = x := ⟨_, rfl⟩
  rw [hrv] at hrm2 ⊢
  have bd : Sub m mc := bc.old hp
  refine stc scLHouse 9 <| de_lst <| da_nil <| li fun rq hrq => ?_
  have rqk : rq ≠ kz := (mne lz hrq).symm
  have rqm : m rq = none := mup_noneS bd hrq
  have r1 : rq ≠ q1 := (mne l1 hrq).symm
  have r2 : rq ≠ q2 := (mne l2 hrq).symm
  have r3 : rq ≠ q3 := (mne l3 hrq).symm
  have r4 : rq ≠ q4 := (mne l4 hrq).symm
  refine db_cons (ds_for p0 rfl (di_r1 rfl B.range <| v scLHouse 5 rfl ⟨_, rfl, by omega, by omega, fun i Γ' m' => ∃ (g1 g2 : Option D) (rs : List (Str × T)) (s' : Int), Γ' = [some (.ref sc), some (.int 0), some (.ref p), some (.tup (ks.map kp)), some (.ref q2), some (.int many), some (.ref q3), some (.ref kz), some (.int rmv), some (.ref rq), g1, g2, none] ∧ Sub m m' ∧ m' kz = some (.dK (kTab ⟨kz, q1, q2, q3, q4⟩ s')) ∧
      m' q1 = some (.lst ((ks.map (·.1)).map D.str)) ∧ m' q2 = some (.lst (ma.map D.str)) ∧ m' q3 = some (.lst (na.map D.str)) ∧ m' q4 = some (.lst (wo.map D.str)) ∧ m' rq = some (.lst (rs.map fun r => .tup [.str r.1, enc r.2])) ∧ rs.map (·.1) = na.take i ∧ rs.length = i ∧ ∀ r ∈ rs, GOk (ks.map (·.1)) na false r.2 ∧ SzOk 45 r.2,
    ⟨_, _, [], sl, rfl, bd.trans (Sub.new hrq), mup_some lz hrq, mup_some l1 hrq, mup_some l2 hrq, mup_some l3 hrq, mup_some l4 hrq, mup_same, by simp, rfl, fun r hr2 => (by cases hr2)⟩, fun _ _ _ _ _ => True.intro, fun i d' Γ' m' hd hW => ?_, fun Γ' m' hW => ?_⟩))
  · obtain ⟨g1, g2, rs, s', rfl, sb, hkz, h1, h2, h3, h4, hrl, hrn, hrlen, hrg⟩ := hW
    obtain ⟨hi, rfl⟩ := rgD_at hd
    have hil : i < na.length := by omega
    rw [show (0 : Int) + (i : Int) * 1 = (i : Int) by omega]
    refine tg scLHouse 10 ?_
    refine stc scLHouse 11 <| fc cT hr hgd (hkj := by decide) <| da_cons <| v scLHouse 0 rfl <| da_cons <| de_op <| de_op <| v scLHouse 1 rfl <| de_int <| o2_add <| v scLHouse 10 rfl <| o2_add <| da_nil ⟨sc, ns, _, rfl, sb _ _ hsc, by omega, fun tp t9 htp => ?_⟩
    have kn : Kn (mup m' tp (.lst [.int t9])) tp ⟨kz, q1, q2, q3, q4⟩ (ks.map (·.1)) ma na wo t9 s' := by
      have hma8 : ma.length ≤ 8 := by omega
      refine ⟨mup_same, mup_some hkz htp, mup_some h1 htp, mup_some h2 htp, mup_some h3 htp, mup_some h4 htp, mne h1 htp, mne h2 htp, mne h3 htp, mne h4 htp, ?_, ?_, ?_, by rw [List.length_map]; exact hk.few, hma8, by omega, by omega⟩
      · simpa using hk0
      · intro e; rw [e] at hil; cases hil
      · intro e; rw [e] at hwl; cases hwl
    have hx : na[i]? = some na[i] := List.getElem?_eq_getElem hil
    have rqt : rq ≠ tp := mne hrl htp
    have tp0 : m tp = none := mup_noneS sb htp
    refine db_one (ds_expr <| de_append <| v scLHouse 9 rfl ⟨rq, rfl, ⟨_, mup_some hrl htp⟩, ?_⟩)
    refine de_tup <| da_cons <| de_ix <| v scLHouse 6 rfl <| v scLHouse 10 rfl <| ox_l (.inl (mup_some h3 htp)) (atI_map D.str (atI_get hx)) <| da_cons ?_
    refine fc cE hr hgd (hkj := by decide) <| da_cons <| v scLHouse 11 rfl <| da_cons <| v scLHouse 7 rfl <| da_cons <| c_max B.max <| da_cons <| de_int <| da_cons <| v scLHouse 8 rfl <| da_nil <| oc_max rfl <| da_cons <| de_tup <| da_cons <| de_bl <| da_cons <| de_bl <| da_cons <| de_bl <| da_cons <| de_int <| da_nil <| tu <| da_nil
      ⟨tp, ⟨kz, q1, q2, q3, q4⟩, _, _, _, _, t9, s', _, false, false, false, 0, rfl, kn, by split <;> omega, by split <;> omega, by decide, by decide, by decide, fun m9 t10 s10 u g hgu hsu => ?_⟩
    have kn9 := kn.gone g
    have hrl9 := g.keep (mup_some (o := .lst [.int t9]) hrl htp) rqt rqk
    have sb9 : Sub m m9 := fun a o e => g _ _ (by
      have n1 : a ≠ kz := mne e kz0
      have n2 : a ≠ tp := mne e tp0
      rw [mup_ne n1, mup_ne n2, mup_ne n2]; exact sb _ _ e)
    refine da_nil <| tu ⟨_, hrl9, Nat.lt_of_le_of_lt (show _ ≤ 100 by rw [List.length_map]; omega) (by decide), _, _, rs ++ [(na[i], u)], s10, rfl, sub_outT sb9 rqm, by rw [mup_ne rqk.symm]; exact kn9.hq, by rw [mup_ne r1.symm]; exact kn9.k1, by rw [mup_ne r2.symm]; exact kn9.k2, by rw [mup_ne r3.symm]; exact kn9.k3, by rw [mup_ne r4.symm]; exact kn9.k4, by rw [mup_same, List.map_append]; rfl, ?_, by simp [hrlen], fun r hr2 => ?_⟩
    · rw [List.map_append, hrn, List.take_succ, hx]; rfl
    · rcases List.mem_append.mp hr2 with hr2 | hr2
      · exact hrg r hr2
      · obtain rfl : r = (na[i], u) := by simpa using hr2
        refine ⟨hgu, fun pp => Int.le_trans (hsu pp) ?_⟩
        split <;> omega
  · obtain ⟨g1, g2, rs, s', rfl, sb, hkz, h1, h2, h3, h4, hrl, hrn, hrlen, hrg⟩ := hW
    rw [rgD_len, ← hnal, List.take_length] at hrn
    have hok : HouseOk ⟨ks, ma, rs⟩ := house_ok hk hnok (by omega) (fun e => by rw [e] at hnal; simp at hnal; omega) hrn hrg
    refine rt1 (de_tup <| da_cons <| v scLHouse 3 rfl <| da_cons <| c_tuple B.tuple <| da_cons <| v scLHouse 4 rfl <| da_nil <| oc_tuple_l (.inl h2) <| da_cons <| c_tuple B.tuple <| da_cons <| v scLHouse 9 rfl <| da_nil <| oc_tuple_l (.inl hrl) <| da_nil <| tu ⟨_, Sub.refl _, h _ ⟨ks, ma, rs⟩ sb hok⟩)
end
end SC

set_option maxHeartbeats 400000
/-! R1: the runner's state, and how it lies in the store. -/
namespace SC
open PySem L2 DL
inductive En | word (w : Str) | slip (s : List Key)
def enD : En → D
  | .word w => .str w
  | .slip s => encPl s
def hD : Option (List Key) → D
  | none => .non
  | some s => encPl s
def keptD : Option En → D
  | none => .non
  | some e => enD e
inductive Due | non | beg (p : List Key) (hand : Option (List Key)) | fin (e : En)
def dueD : Due → D
  | .non => .non
  | .beg p h => .tup [.str "begin", encPl p, hD h]
  | .fin e => .tup [.str "end", enD e]
structure Fr where
  p : List Key
  t : T
  hand : Option (List Key)
  part : Nat
  kept : Option En
def frD (f : Fr) : List D := [encPl f.p, enc f.t, hD f.hand, .int (f.part : Nat), keptD f.kept]
inductive Stp
  | say (p : List Key) (x : Str) | slip (p : List Key) | pass (p s : List Key) | take (p : List Key) (k : Nat) (s : List Key)
  | by_ (p s : List Key) | kept (p s : List Key) | lost (p s : List Key) | out (p s : List Key) | fin (s : List Key)
def stD : Stp → D
  | .say p x => .tup [.str "say", encPl p, .str x]
  | .slip p => mSlip p
  | .pass p s => mW "pass" p s
  | .take p k s => mTake p k s
  | .by_ p s => mW "by" p s
  | .kept p s => mW "kept" p s
  | .lost p s => mW "lost" p s
  | .out p s => mW "out" p s
  | .fin s => mEnd s
abbrev TS' := Option (List Key) × List (List Key)
def stepOk (h : House) (c : TS') : Stp → Prop
  | .say _ _ => True
  | .slip p => p ∈ slipsH h
  | .pass p s => IsMt h (mW "pass" p s)
  | .take p k s => IsMt h (mTake p k s) ∧ s ∈ c.2 ∧ c.1 = some s
  | .by_ p s => IsMt h (mW "by" p s) ∧ s ∈ c.2 ∧ c.1 = some s
  | .kept p s => IsMt h (mW "kept" p s) ∧ s ∈ c.2
  | .lost p s => IsMt h (mW "lost" p s) ∧ s ∈ c.2
  | .out p s => IsMt h (mW "out" p s) ∧ s ∈ c.2 ∧ c.1 = some s
  | .fin s => s ∈ slipsH h ∧ s ∈ c.2 ∧ c.1 = some s
def stepTo (c : TS') : Stp → TS'
  | .slip p => (some p, p :: c.2)
  | .pass _ s => (some s, c.2)
  | .take _ _ _ => (none, c.2)
  | .kept _ s => (some s, c.2)
  | _ => c
def TrOk (h : House) : TS' → List Stp → TS' → Prop
  | c, [], c' => c = c'
  | c, x :: l, c' => stepOk h c x ∧ TrOk h (stepTo c x) l c'
theorem TrOk.snoc {h : House} : ∀ {c c' : TS'} {l : List Stp} {x : Stp}, TrOk h c l c' → stepOk h c' x → TrOk h c (l ++ [x]) (stepTo c' x)
  | c, c', [], x, hl, hx => by cases hl; exact ⟨hx, rfl⟩
  | c, c', y :: l, x, hl, hx => ⟨hl.1, TrOk.snoc hl.2 hx⟩
structure RSt where
  nc : Nat
  bg : Nat
  trail : List Stp
  marks : List (Key × D)
  stack : List (Addr × Fr)
  due : Due
  ended : D
structure RA where
  r : Addr
  dd : Addr
  cc : Addr
  tt : Addr
  mm : Addr
  ss : Addr
def flds (a : RA) (hs : House) (S : RSt) : List (Str × D) := [("house", encH hs), ("deeds", .ref a.dd), ("choices", .ref a.cc), ("next_choice", .int (S.nc : Nat)), ("most", .int 200), ("begun", .int (S.bg : Nat)), ("trail", .ref a.tt), ("marks", .ref a.mm), ("stack", .ref a.ss), ("due", dueD S.due), ("ended", S.ended)]
structure RM (C : Addr) (m0 : M) (hs : House) (cs : List Int) (a : RA) (m : M) (S : RSt) : Prop where
  r : m a.r = some (.ins C (flds a hs S))
  dd : m a.dd = some (.dT (deedsH hs))
  cc : m a.cc = some (.lst (cs.map D.int))
  tt : m a.tt = some (.lst (S.trail.map stD))
  mm : m a.mm = some (.dK S.marks)
  ss : m a.ss = some (.lst (S.stack.map fun x => D.ref x.1))
  fr : ∀ x ∈ S.stack, m x.1 = some (.lst (frD x.2))
  nd : (a.cc :: a.tt :: a.ss :: S.stack.map (·.1)).Nodup
  sub : Sub m0 m
  outR : m0 a.r = none
  outT : m0 a.tt = none
  outM : m0 a.mm = none
  outS : m0 a.ss = none
  outF : ∀ x ∈ S.stack, m0 x.1 = none
section
variable {C : Addr} {m0 m : M} {hs : House} {cs : List Int} {a : RA} {S : RSt}
theorem RM.le {m' : M} (h : RM C m0 hs cs a m S) (s : Sub m m') : RM C m0 hs cs a m' S :=
  ⟨s _ _ h.r, s _ _ h.dd, s _ _ h.cc, s _ _ h.tt, s _ _ h.mm, s _ _ h.ss, fun x hx => s _ _ (h.fr x hx), h.nd, h.sub.trans s, h.outR, h.outT, h.outM, h.outS, h.outF⟩
theorem sub_out {q : Addr} {o : DO} (h : Sub m0 m) (hq : m0 q = none) : Sub m0 (mup m q o) := fun c x e => by
  rw [mup_ne (mne e hq)]; exact h c x e
/-- a field is written -/
theorem RM.fld (h : RM C m0 hs cs a m S) (S' : RSt) (e1 : S'.trail = S.trail) (e2 : S'.marks = S.marks) (e3 : S'.stack = S.stack) : RM C m0 hs cs a (mup m a.r (.ins C (flds a hs S'))) S' := by
  refine ⟨mup_same, ?_, ?_, ?_, ?_, ?_, fun x hx => ?_, by rw [e3]; exact h.nd, sub_out h.sub h.outR, h.outR, h.outT, h.outM, h.outS, by rw [e3]; exact h.outF⟩
  · rw [mup_ne (mnf h.dd h.r (by simp))]; exact h.dd
  · rw [mup_ne (mnf h.cc h.r (by simp))]; exact h.cc
  · rw [mup_ne (mnf h.tt h.r (by simp)), e1]; exact h.tt
  · rw [mup_ne (mnf h.mm h.r (by simp)), e2]; exact h.mm
  · rw [mup_ne (mnf h.ss h.r (by simp)), e3]; exact h.ss
  · rw [e3] at hx
    rw [mup_ne (mnf (h.fr x hx) h.r (by simp))]; exact h.fr x hx
theorem RM.nt (h : RM C m0 hs cs a m S) : a.cc ≠ a.tt ∧ a.ss ≠ a.tt ∧ a.cc ≠ a.ss ∧ ∀ x ∈ S.stack, x.1 ≠ a.cc ∧ x.1 ≠ a.tt ∧ x.1 ≠ a.ss := by
  have h1 := h.nd
  rw [List.nodup_cons] at h1
  obtain ⟨n1, h2⟩ := h1
  rw [List.nodup_cons] at h2
  obtain ⟨n2, h3⟩ := h2
  rw [List.nodup_cons] at h3
  obtain ⟨n3, _⟩ := h3
  refine ⟨fun e => n1 (by rw [e]; exact List.mem_cons_self), fun e => n2 (by rw [← e]; exact List.mem_cons_self), fun e => n1 (by rw [e]; exact List.mem_cons_of_mem _ List.mem_cons_self), fun x hx => ?_⟩
  have hm : x.1 ∈ S.stack.map (·.1) := List.mem_map_of_mem hx
  exact ⟨fun e => n1 (by rw [← e]; exact List.mem_cons_of_mem _ (List.mem_cons_of_mem _ hm)), fun e => n2 (by rw [← e]; exact List.mem_cons_of_mem _ hm), fun e => n3 (by rw [← e]; exact hm)⟩
/-- a step is told -/
theorem RM.tell (h : RM C m0 hs cs a m S) (x : Stp) : RM C m0 hs cs a (mup m a.tt (.lst (S.trail.map stD ++ [stD x]))) { S with trail := S.trail ++ [x] } := by
  obtain ⟨n1, n2, n3, n4⟩ := h.nt
  refine ⟨?_, ?_, ?_, by rw [mup_same, List.map_append]; rfl, ?_, ?_, fun x hx => ?_, h.nd, sub_out h.sub h.outT, h.outR, h.outT, h.outM, h.outS, h.outF⟩
  · rw [mup_ne (mnf h.r h.tt (by simp))]; exact h.r
  · rw [mup_ne (mnf h.dd h.tt (by simp))]; exact h.dd
  · rw [mup_ne n1]; exact h.cc
  · rw [mup_ne (mnf h.mm h.tt (by simp))]; exact h.mm
  · rw [mup_ne n2]; exact h.ss
  · rw [mup_ne (n4 x hx).2.1]; exact h.fr x hx
/-- a mark is put -/
theorem RM.mark (h : RM C m0 hs cs a m S) (kvs : List (Key × D)) : RM C m0 hs cs a (mup m a.mm (.dK kvs)) { S with marks := kvs } := by
  refine ⟨?_, ?_, ?_, ?_, mup_same, ?_, fun x hx => ?_, h.nd, sub_out h.sub h.outM, h.outR, h.outT, h.outM, h.outS, h.outF⟩
  · rw [mup_ne (mnf h.r h.mm (by simp))]; exact h.r
  · rw [mup_ne (mnf h.dd h.mm (by simp))]; exact h.dd
  · rw [mup_ne (mnf h.cc h.mm (by simp))]; exact h.cc
  · rw [mup_ne (mnf h.tt h.mm (by simp))]; exact h.tt
  · rw [mup_ne (mnf h.ss h.mm (by simp))]; exact h.ss
  · rw [mup_ne (mnf (h.fr x hx) h.mm (by simp))]; exact h.fr x hx
/-- a frame is laid on top -/
theorem RM.push {q : Addr} (h : RM C m0 hs cs a m S) (hq : m q = none) (f : Fr) : RM C m0 hs cs a (mup (mup m q (.lst (frD f))) a.ss (.lst ((S.stack.map fun x => D.ref x.1) ++ [D.ref q]))) { S with stack := S.stack ++ [(q, f)] } := by
  obtain ⟨n1, n2, n3, n4⟩ := h.nt
  have k := h.le (Sub.new (o := .lst (frD f)) hq)
  have qs : q ≠ a.ss := (mne h.ss hq).symm
  refine ⟨?_, ?_, ?_, ?_, ?_, by rw [mup_same, List.map_append]; rfl, fun x hx => ?_, ?_, sub_out k.sub h.outS, h.outR, h.outT, h.outM, h.outS, fun x hx => ?_⟩
  · rw [mup_ne (mnf k.r k.ss (by simp))]; exact k.r
  · rw [mup_ne (mnf k.dd k.ss (by simp))]; exact k.dd
  · rw [mup_ne n3]; exact k.cc
  · rw [mup_ne (Ne.symm n2)]; exact k.tt
  · rw [mup_ne (mnf k.mm k.ss (by simp))]; exact k.mm
  · rcases List.mem_append.mp hx with hx | hx
    · rw [mup_ne (n4 x hx).2.2]; exact k.fr x hx
    · obtain rfl : x = (q, f) := by simpa using hx
      rw [mup_ne qs, mup_same]
  · show (a.cc :: a.tt :: a.ss :: (S.stack ++ [(q, f)]).map (·.1)).Nodup
    rw [List.map_append]
    have e : a.cc :: a.tt :: a.ss :: (S.stack.map (·.1) ++ [(q, f)].map (·.1)) = (a.cc :: a.tt :: a.ss :: S.stack.map (·.1)) ++ [q] := rfl
    rw [e, List.nodup_append]
    refine ⟨h.nd, by simp, fun x hx y hy => ?_⟩
    obtain rfl : y = q := by simpa using hy
    rcases List.mem_cons.mp hx with rfl | hx
    · exact mne h.cc hq
    rcases List.mem_cons.mp hx with rfl | hx
    · exact mne h.tt hq
    rcases List.mem_cons.mp hx with rfl | hx
    · exact mne h.ss hq
    obtain ⟨z, hz, rfl⟩ := List.mem_map.mp hx
    exact mne (h.fr z hz) hq
  · rcases List.mem_append.mp hx with hx | hx
    · exact h.outF x hx
    · obtain rfl : x = (q, f) := by simpa using hx
      exact mup_noneO h.sub hq
/-- the top frame goes -/
theorem RM.pop {st : List (Addr × Fr)} {x : Addr × Fr} (h : RM C m0 hs cs a m S) (e : S.stack = st ++ [x]) : RM C m0 hs cs a (mup m a.ss (.lst (st.map fun x => D.ref x.1))) { S with stack := st } := by
  obtain ⟨n1, n2, n3, n4⟩ := h.nt
  have sb : ∀ y ∈ st, y ∈ S.stack := fun y hy => by rw [e]; exact List.mem_append_left _ hy
  refine ⟨?_, ?_, ?_, ?_, ?_, mup_same, fun x hx => ?_, ?_, sub_out h.sub h.outS, h.outR, h.outT, h.outM, h.outS, fun y hy => h.outF y (sb y hy)⟩
  · rw [mup_ne (mnf h.r h.ss (by simp))]; exact h.r
  · rw [mup_ne (mnf h.dd h.ss (by simp))]; exact h.dd
  · rw [mup_ne n3]; exact h.cc
  · rw [mup_ne (Ne.symm n2)]; exact h.tt
  · rw [mup_ne (mnf h.mm h.ss (by simp))]; exact h.mm
  · rw [mup_ne (n4 x (sb x hx)).2.2]; exact h.fr x (sb x hx)
  · have h1 := h.nd
    rw [e, List.map_append] at h1
    have e2 : a.cc :: a.tt :: a.ss :: (st.map (·.1) ++ [x].map (·.1)) = (a.cc :: a.tt :: a.ss :: st.map (·.1)) ++ [x.1] := rfl
    rw [e2, List.nodup_append] at h1
    exact h1.1
/-- the top frame is written -/
theorem RM.top {st : List (Addr × Fr)} {q : Addr} {f : Fr} (h : RM C m0 hs cs a m S) (e : S.stack = st ++ [(q, f)]) (f' : Fr) : RM C m0 hs cs a (mup m q (.lst (frD f'))) { S with stack := st ++ [(q, f')] } := by
  obtain ⟨n1, n2, n3, n4⟩ := h.nt
  have hm : (q, f) ∈ S.stack := by rw [e]; simp
  have hq := h.fr _ hm
  obtain ⟨q1, q2, q3⟩ := n4 _ hm
  have hmap : S.stack.map (·.1) = (st ++ [(q, f')]).map (·.1) := by rw [e]; simp
  refine ⟨?_, ?_, ?_, ?_, ?_, ?_, fun x hx => ?_, ?_, sub_out h.sub (h.outF _ hm), h.outR, h.outT, h.outM, h.outS, fun x hx => ?_⟩
  · rw [mup_ne (mnf h.r hq (by simp))]; exact h.r
  · rw [mup_ne (mnf h.dd hq (by simp))]; exact h.dd
  · rw [mup_ne (Ne.symm q1)]; exact h.cc
  · rw [mup_ne (Ne.symm q2)]; exact h.tt
  · rw [mup_ne (mnf h.mm hq (by simp))]; exact h.mm
  · rw [mup_ne (Ne.symm q3), h.ss, e]; simp
  · rcases List.mem_append.mp hx with hx | hx
    · have hx2 : x ∈ S.stack := by rw [e]; exact List.mem_append_left _ hx
      have hne : x.1 ≠ q := by
        have h1 := h.nd
        rw [e, List.map_append] at h1
        have e2 : a.cc :: a.tt :: a.ss :: (st.map (·.1) ++ [(q, f)].map (·.1)) = (a.cc :: a.tt :: a.ss :: st.map (·.1)) ++ [q] := rfl
        rw [e2, List.nodup_append] at h1
        refine h1.2.2 x.1 ?_ q List.mem_cons_self
        exact List.mem_cons_of_mem _ (List.mem_cons_of_mem _ (List.mem_cons_of_mem _ (List.mem_map_of_mem hx)))
      rw [mup_ne hne]; exact h.fr x hx2
    · obtain rfl : x = (q, f') := by simpa using hx
      exact mup_same
  · have h1 := h.nd
    rw [hmap] at h1; exact h1
  · rcases List.mem_append.mp hx with hx | hx
    · exact h.outF x (by rw [e]; exact List.mem_append_left _ hx)
    · obtain rfl : x = (q, f') := by simpa using hx
      exact (h.outF (q, f) hm : m0 q = none)
end
end SC

set_option maxHeartbeats 400000
/-! R2: the class Runner; choice. -/
namespace SC
open PySem L2 DL
def rfields : List Str := ["house", "deeds", "choices", "next_choice", "most", "begun", "trail", "marks", "stack", "due", "ended"]
/-- the class, as it stands -/
structure RC (K : PySem.W.Frag) (C : Addr) : Prop where
  cls : Cls K C
  no : ∀ f ∈ rfields, NoAttr K C f
structure MtAt (K : PySem.W.Frag) (C : Addr) (x qual : Str) (st : Stmt) (ps : List Str) (f : Addr) (fd : FuncData) : Prop where
  fn : Fun K x qual st f fd
  mt : Meth K C x f
  bi : Binds K fd ps []
section
variable {P : Program} {w : World} {K : PySem.W.Frag} {mg : Str → Option Value} {base : Heap}
theorem MtAt.md {C : Addr} {x qual : Str} {st : Stmt} {ps : List Str} {k : Nat} {sp : DSp} {f : Addr} {fd : FuncData} (d : MtAt K C x qual st ps f fd) (F : FD P w K mg base k f fd ps sp) : Md P w K mg base k C x sp :=
  ⟨f, fd, ps, F, d.mt, d.bi⟩
section
variable {N ex ps : List Str} {qual : Str} {sc : Scope} {f : Addr} {cd : Value} {A : Around} {outer : List Env} {s : Shared} {H : Hp} {Γ : G} {m m0 : M} {pos : Pos} {C : Addr} {hs : House} {cs : List Int} {a : RA} {St : RSt}
/-- self.x is read -/
theorem sf (S : Sf N ex ps sc) (kr : RC K C) (rm : RM C m0 hs cs a m St) {x fld : Str} {v : D} {p1 : Pos} {Q : D → M → Prop} (e : Γ[0]? = some (some (.ref a.r))) (l : (flds a hs St).lookup fld = some v) (q : Q v m) (hN : N[0]? = some x := by rfl) (hf : fld ∈ rfields := by decide +kernel)
    (hb : attributeBase (.Name x p1) fld (bx P w K mg base (N ++ ex) qual sc f cd A outer s H).env (eval (.Name x p1) (bx P w K mg base (N ++ ex) qual sc f cd A outer s H).env) = eval (.Name x p1) (bx P w K mg base (N ++ ex) qual sc f cd A outer s H).env := by rfl) :
    DE (bx P w K mg base (N ++ ex) qual sc f cd A outer s H) (.Attribute (.Name x p1) fld pos) Γ m Q :=
  de_fld hb (SC.v S 0 e ⟨a.r, C, _, v, rfl, rm.r, kr.cls, kr.no fld hf, l, q⟩ hN)
/-- self.x is written -/
theorem ws (S : Sf N ex ps sc) (kr : RC K C) {x fld : Str} {e : Expr} {p1 p2 : Pos} {E : DEnds} {sts : List Stmt} (e0 : Γ[0]? = some (some (.ref a.r)))
    (h : DE (bx P w K mg base (N ++ ex) qual sc f cd A outer s H) e Γ m fun d m1 => ∃ St St', RM C m0 hs cs a m1 St ∧ putFD fld d (flds a hs St) = flds a hs St' ∧ St'.trail = St.trail ∧ St'.marks = St.marks ∧ St'.stack = St.stack ∧ ∀ m2, RM C m0 hs cs a m2 St' → DB (bx P w K mg base (N ++ ex) qual sc f cd A outer s H) sts Γ m2 E)
    (hN : N[0]? = some x := by rfl) (hf : fld ∈ rfields := by decide +kernel)
    (hsw : swapsWith e (some (.Attribute (.Name x p1) fld p2)) pos.line (bx P w K mg base (N ++ ex) qual sc f cd A outer s H).env = pure false := by rfl) :
    DB (bx P w K mg base (N ++ ex) qual sc f cd A outer s H) (.Assign [.Attribute (.Name x p1) fld p2] e pos :: sts) Γ m E :=
  db_cons (ds_fld hsw (h.imp fun d m1 ⟨St, St', rm, ef, e1, e2, e3, q⟩ => SC.v S 0 e0 ⟨a.r, C, _, rfl, rm.r, kr.cls, kr.no fld hf, Nat.lt_of_le_of_lt (show (flds a _ St).length ≤ 11 from Nat.le_refl _) (by decide), q _ (by rw [ef]; exact rm.fld St' e1 e2 e3)⟩ hN))
end
/-! ### choice -/
abbrev sChoice : Stmt := inClass (top 14) 1
theorem scChoice : Sf ["self"] [] ["self"] (defScope sChoice) := sf_mk ⟨rfl, rfl, rfl, by decide +kernel, rfl, by decide +kernel, by decide +kernel⟩ (by decide +kernel)
def waits : D := .tup [.str "waits"]
def spChoice (C : Addr) : DSp := fun ds m Q => ∃ m0 hs cs a S, ds = [.ref a.r] ∧ RM C m0 hs cs a m S ∧ S.nc ≤ cs.length ∧ (∀ m', RM C m0 hs cs a m' { S with ended := waits } → Q .non m') ∧
  ∀ c m', S.nc < cs.length → RM C m0 hs cs a m' { S with nc := S.nc + 1 } → Q (.int c) m'
theorem ok_choice {C f : Addr} {fd : FuncData} (B : Tx mg) (kr : RC K C) (d : MtAt K C "choice" "Runner.choice" sChoice ["self"] f fd) : Md P w K mg base 1 C "choice" (spChoice C) := by
  refine d.md (fd_of d.fn scChoice.fs (fun ds m Q h => by obtain ⟨m0, hs, cs, a, S, rfl, _⟩ := h; rfl) fun cdv A outer s H ds m Q hr hgd h => ?_)
  obtain ⟨m0, hs, cs, a, S, rfl, rm, hnc, hN, hI⟩ := h
  conv in defBody _ => whnf
  refine if0 <| dt_cmp rfl <| sf scChoice kr rm rfl rfl <| c_len B.len <| da_cons <| sf scChoice kr rm rfl rfl <| da_nil <| oc_lenl (.inl rm.cc) <| o2_eqi ⟨_, rfl, fun hc => ?_, fun hc => ?_⟩
  · refine ws scChoice kr rfl <| de_tup <| da_cons <| de_str <| da_nil <| tu ⟨S, { S with ended := waits }, rm, rfl, rfl, rfl, rfl, fun m2 rm2 => ?_⟩
    exact rt1 (de_non ⟨_, Sub.refl _, hN _ rm2⟩)
  · have hlt : S.nc < cs.length := by
      have := of_decide_eq_false hc
      rw [List.length_map] at this
      omega
    refine ws scChoice kr rfl <| de_op <| sf scChoice kr rm rfl rfl <| de_int <| o2_add ⟨S, { S with nc := S.nc + 1 }, rm, ?_, rfl, rfl, rfl, fun m2 rm2 => ?_⟩
    · rfl
    · obtain ⟨c, hc2⟩ : ∃ c, cs[S.nc]? = some c := ⟨_, List.getElem?_eq_getElem hlt⟩
      refine rt1 (de_ix <| sf scChoice kr rm2 rfl rfl <| de_op <| sf scChoice kr rm2 rfl rfl <| de_int <| o2_sub <| ox_l (.inl rm2.cc) (d := .int c) ?_ ⟨_, Sub.refl _, hI c _ hlt rm2⟩)
      rw [show (((S.nc + 1 : Nat) : Int) - 1) = (S.nc : Int) by omega]
      exact atI_map D.int (atI_get hc2)
end
end SC

set_option maxHeartbeats 400000
/-! R3: what the runner keeps; leaf, turn, outward, finish. -/
namespace SC
open PySem L2 DL
def SlipKn (hs : House) (kn : List (List Key)) (s : List Key) : Prop := s ∈ kn ∧ s ∈ slipsH hs
def HandOk (hs : House) (kn : List (List Key)) (hand : Option (List Key)) : Prop := ∀ s, hand = some s → SlipKn hs kn s
def EndOk (hs : House) (c : TS') : En → Prop
  | .word _ => True
  | .slip s => c.1 = some s ∧ SlipKn hs c.2 s
structure FrOk (hs : House) (kn : List (List Key)) (f : Fr) : Prop where
  at_ : (f.p, f.t) ∈ walkH hs
  hand : HandOk hs kn f.hand
  ps : psOk f.hand.isSome f.t = true
  kept : ∀ s, f.kept = some (.slip s) → SlipKn hs kn s
  row : f.t.w = .row → f.part < f.t.ks.length
  cln : f.t.w = .clean → f.part ≠ 0 → ∃ e, f.kept = some e
def DueOk (hs : House) (c : TS') : Due → Prop
  | .non => False
  | .beg p hand => HandOk hs c.2 hand ∧ ∃ t, (p, t) ∈ walkH hs ∧ psOk hand.isSome t = true
  | .fin e => EndOk hs c e
structure RI (hs : House) (cs : List Int) (S : RSt) (c : TS') : Prop where
  tr : TrOk hs (none, []) S.trail c
  fr : ∀ x ∈ S.stack, FrOk hs c.2 x.2
  nc : S.nc ≤ cs.length
  mkb : ∀ x ∈ S.marks, ∃ b, x.2 = .bl b
  mkl : S.marks.length ≤ S.bg
  bg : S.bg ≤ 200
def isFin : Due → Nat
  | .fin _ => 1
  | _ => 0
/-- what is left -/
def mes (S : RSt) : Nat := 3 * (200 - S.bg) + S.stack.length + isFin S.due + 1
/-- the state between two turns -/
def LI (hs : House) (cs : List Int) (S : RSt) (n : Nat) : Prop := ∃ c, RI hs cs S c ∧ S.trail.length + n ≤ 602 ∧ ((S.ended = .non ∧ DueOk hs c S.due ∧ mes S = n) ∨ (isNon S.ended = false ∧ n = 0))
def LIx (hs : House) (cs : List Int) (S : RSt) (n : Nat) : Prop := ∃ n', n' < n ∧ LI hs cs S n'
theorem SlipKn.mono {hs : House} {kn kn' : List (List Key)} {s : List Key} (h : SlipKn hs kn s) (k : ∀ s ∈ kn, s ∈ kn') : SlipKn hs kn' s := ⟨k _ h.1, h.2⟩
theorem FrOk.mono {hs : House} {kn kn' : List (List Key)} {f : Fr} (h : FrOk hs kn f) (k : ∀ s ∈ kn, s ∈ kn') : FrOk hs kn' f :=
  ⟨h.at_, fun s e => (h.hand s e).mono k, h.ps, fun s e => (h.kept s e).mono k, h.row, h.cln⟩
theorem step_mono {c : TS'} {x : Stp} : ∀ s ∈ c.2, s ∈ (stepTo c x).2 := by
  intro s hs
  cases x <;> first | exact hs | exact List.mem_cons_of_mem _ hs
/-- a step is told -/
theorem RI.tell {hs : House} {cs : List Int} {S : RSt} {c : TS'} (h : RI hs cs S c) (x : Stp) (hx : stepOk hs c x) : RI hs cs { S with trail := S.trail ++ [x] } (stepTo c x) :=
  ⟨h.tr.snoc hx, fun y hy => (h.fr y hy).mono step_mono, h.nc, h.mkb, h.mkl, h.bg⟩
section
variable {P : Program} {w : World} {K : PySem.W.Frag} {mg : Str → Option Value} {base : Heap}
/-! ### leaf -/
abbrev sLeaf : Stmt := inClass (top 14) 5
theorem scLeaf : Sf ["self", "place", "deed", "hand", "word"] [] ["self", "place", "deed", "hand"] (defScope sLeaf) := sf_mk ⟨rfl, rfl, rfl, by decide +kernel, rfl, by decide +kernel, by decide +kernel⟩ (by decide +kernel)
def spLeaf (C : Addr) : DSp := fun ds m Q => ∃ m0 hs cs a S c p t hand, ds = [.ref a.r, encPl p, enc t, hD hand] ∧ RM C m0 hs cs a m S ∧ RI hs cs S c ∧ S.marks.length < S.bg ∧ S.trail.length ≤ 1000 ∧ HandOk hs c.2 hand ∧ (p, t) ∈ walkH hs ∧ psOk hand.isSome t = true ∧ t.okT ∧ t.ks = [] ∧ t.w ≠ .call ∧
  ∀ m' S' c' e, RM C m0 hs cs a m' S' → RI hs cs S' c' → S'.stack = S.stack → S'.bg = S.bg → S'.ended = S.ended → S'.trail.length ≤ S.trail.length + 1 → EndOk hs c' e → Q (enD e) m'
theorem valD_some {kvs : List (Key × D)} {k : Key} {v : D} (h : valD kvs k = some v) : ∃ x ∈ kvs, x.2 = v := by
  unfold valD at h
  cases e : kvs.find? (fun kv => decide (kv.1 = k)) with
  | none => rw [e] at h; cases h
  | some x => rw [e] at h; cases h; exact ⟨x, List.mem_of_find?_eq_some e, rfl⟩
theorem putD_bl {kvs : List (Key × D)} {k : Key} {b : Bool} (h : ∀ x ∈ kvs, ∃ b, x.2 = D.bl b) : ∀ x ∈ putD kvs k (.bl b), ∃ b, x.2 = D.bl b := by
  intro x hx
  unfold putD at hx
  split at hx
  · obtain ⟨y, hy, rfl⟩ := List.mem_map.mp hx
    split
    · exact ⟨b, rfl⟩
    · exact h y hy
  · rcases List.mem_append.mp hx with hx | hx
    · exact h x hx
    · obtain rfl : x = (k, D.bl b) := by simpa using hx
      exact ⟨b, rfl⟩
theorem ok_leaf {C f : Addr} {fd : FuncData} (B : Tx mg) (kr : RC K C) (d : MtAt K C "leaf" "Runner.leaf" sLeaf ["self", "place", "deed", "hand"] f fd) : Md P w K mg base 1 C "leaf" (spLeaf C) := by
  refine d.md (fd_of d.fn scLeaf.fs (fun ds m Q h => by obtain ⟨m0, hs, cs, a, S, c, p, t, hand, rfl, _⟩ := h; rfl) fun cdv A outer s H ds m Q hr hgd h => ?_)
  obtain ⟨m0, hs, cs, a, S, c, p, t, hand, rfl, rm, ri, hmk, htl, hho, hpt, hps, hok, hks, hnc, h⟩ := h
  have hz1 : S.trail.length < sizeLine := Nat.lt_of_le_of_lt htl (by decide)
  have hz2 : (S.trail.map stD).length < sizeLine := by rw [List.length_map]; exact hz1
  have hml : S.marks.length < sizeLine := Nat.lt_of_le_of_lt (show _ ≤ 200 by have := ri.bg; omega) (by decide)
  have etl : enc t = .tup (.str t.w.s :: encTl t.w t.a [] []) := by rw [enc_tl]; unfold T.tl; rw [hks]; rfl
  rw [etl]
  conv in defBody _ => whnf
  refine stc scLeaf 4 <| de_ix <| v scLeaf 2 rfl <| de_int <| ox_t ix0 ?_
  refine if1 <| dt_cmp rfl <| v scLeaf 4 rfl <| de_str <| o2_eqs ⟨_, rfl, fun h1 => ?_, fun h1 => ?_⟩
  · have hw := of_s .say h1
    rw [hw]
    refine db_one (ds_expr <| de_append <| sf scLeaf kr rm rfl rfl ⟨a.tt, rfl, ⟨_, rm.tt⟩, de_tup <| da_cons <| de_str <| da_cons <| v scLeaf 1 rfl <| da_cons <| de_ix <| v scLeaf 2 rfl <| de_int <| ox_t ix1 <| da_nil <| tu ⟨_, rm.tt, hz2, ?_⟩⟩)
    exact rt1 (de_str ⟨_, Sub.refl _, h _ _ _ (.word "done") (rm.tell (.say p t.a)) (ri.tell (.say p t.a) trivial) rfl rfl rfl (by simp) trivial⟩)
  refine db_one (ds_if <| dt_w <| dw_or <| dt_cmp rfl <| v scLeaf 4 rfl <| de_str <| o2_eqs ⟨_, rfl, fun h2 => ⟨fun _ => ?_, fun z => nomatch z⟩, fun h2 => dw_or1 <| dt_cmp rfl <| v scLeaf 4 rfl <| de_str <| o2_eqs ⟨_, rfl, fun h2 => ?_, fun h3 => ?_⟩⟩)
  · have hw := of_s .on h2
    rw [hw]
    refine db_one (ds_dput (u1 hr) rfl <| de_cmp rfl <| v scLeaf 4 rfl <| de_str <| o2_eqs <| sf scLeaf kr rm rfl rfl <| de_ix <| v scLeaf 2 rfl <| de_int <| ox_t ix1 ⟨a.mm, _, t.a, rfl, rfl, rm.mm, hml, ?_⟩)
    refine rt1 (de_str ⟨_, Sub.refl _, h _ _ _ (.word "done") (rm.mark _) ⟨ri.tr, ri.fr, ri.nc, putD_bl ri.mkb, ?_, ri.bg⟩ rfl rfl rfl (Nat.le_succ _) trivial⟩)
    exact Nat.le_trans (putD_len _ _ _) hmk
  · have hw := of_s .off h2
    rw [hw]
    refine db_one (ds_dput (u1 hr) rfl <| de_cmp rfl <| v scLeaf 4 rfl <| de_str <| o2_eqs <| sf scLeaf kr rm rfl rfl <| de_ix <| v scLeaf 2 rfl <| de_int <| ox_t ix1 ⟨a.mm, _, t.a, rfl, rfl, rm.mm, hml, ?_⟩)
    refine rt1 (de_str ⟨_, Sub.refl _, h _ _ _ (.word "done") (rm.mark _) ⟨ri.tr, ri.fr, ri.nc, putD_bl ri.mkb, ?_, ri.bg⟩ rfl rfl rfl (Nat.le_succ _) trivial⟩)
    exact Nat.le_trans (putD_len _ _ _) hmk
  refine db_one (ds_if <| dt_cmp rfl <| v scLeaf 4 rfl <| de_str <| o2_eqs ⟨_, rfl, fun h4 => ?_, fun h4 => ?_⟩)
  · have hw := of_s .slip h4
    have hs1 := walk_slip hpt hw
    refine ex1 <| de_append <| sf scLeaf kr rm rfl rfl ⟨a.tt, rfl, ⟨_, rm.tt⟩, de_tup <| da_cons <| de_str <| da_cons <| v scLeaf 1 rfl <| da_nil <| tu ⟨_, rm.tt, hz2, ?_⟩⟩
    exact rt1 (v scLeaf 1 rfl ⟨_, Sub.refl _, h _ _ _ (.slip p) (rm.tell (.slip p)) (ri.tell (.slip p) hs1) rfl rfl rfl (by simp) ⟨rfl, List.mem_cons_self, hs1⟩⟩)
  refine db_one (ds_if <| dt_cmp rfl <| v scLeaf 4 rfl <| de_str <| o2_eqs ⟨_, rfl, fun h5 => ?_, fun h5 => ?_⟩)
  · have hw := of_s .pass h5
    cases hand with
    | none =>
      rw [psOk_eq, hw] at hps
      cases hps
    | some sl =>
      have hk := hho sl rfl
      have hmt : IsMt hs (mW "pass" p sl) := .wd hpt (by rw [hw]; exact List.mem_cons_self) hk.2
      refine ex1 <| de_append <| sf scLeaf kr rm rfl rfl ⟨a.tt, rfl, ⟨_, rm.tt⟩, de_tup <| da_cons <| de_str <| da_cons <| v scLeaf 1 rfl <| da_cons <| v scLeaf 3 rfl <| da_nil <| tu ⟨_, rm.tt, hz2, ?_⟩⟩
      exact rt1 (v scLeaf 3 rfl ⟨_, Sub.refl _, h _ _ _ (.slip sl) (rm.tell (.pass p sl)) (ri.tell (.pass p sl) hmt) rfl rfl rfl (by simp) ⟨rfl, hk⟩⟩)
  refine db_one (ds_if <| dt_w <| dw_or <| dt_cmp rfl <| v scLeaf 4 rfl <| de_str <| o2_eqs ⟨_, rfl, fun h6 => ⟨fun _ => ?_, fun z => nomatch z⟩, fun h6 => dw_or1 <| dt_cmp rfl <| v scLeaf 4 rfl <| de_str <| o2_eqs ⟨_, rfl, fun h7 => ?_, fun h7 => ?_⟩⟩)
  · exact rt1 (v scLeaf 4 rfl ⟨_, Sub.refl _, h _ _ _ (.word t.w.s) rm ri rfl rfl rfl (Nat.le_succ _) trivial⟩)
  · exact rt1 (v scLeaf 4 rfl ⟨_, Sub.refl _, h _ _ _ (.word t.w.s) rm ri rfl rfl rfl (Nat.le_succ _) trivial⟩)
  · exact db_nil (rt1 (de_str ⟨_, Sub.refl _, h _ _ _ (.word "done") rm ri rfl rfl rfl (Nat.le_succ _) trivial⟩))
end
end SC

set_option maxHeartbeats 400000
/-! L1: _law_trail_right. -/
namespace SC
open PySem L2 DL
def stW : Stp → Str
  | .say _ _ => "say" | .slip _ => "slip" | .pass _ _ => "pass" | .take _ _ _ => "take" | .by_ _ _ => "by" | .kept _ _ => "kept" | .lost _ _ => "lost" | .out _ _ => "out" | .fin _ => "end"
def stS : Stp → List Key
  | .say p _ => p | .slip p => p | .pass _ s => s | .take _ _ s => s | .by_ _ s => s | .kept _ s => s | .lost _ s => s | .out _ s => s | .fin s => s
def stR : Stp → List D
  | .say p x => [encPl p, .str x] | .slip p => [encPl p] | .pass p s => [encPl p, encPl s] | .take p k s => [encPl p, .int k, encPl s] | .by_ p s => [encPl p, encPl s] | .kept p s => [encPl p, encPl s] | .lost p s => [encPl p, encPl s]
  | .out p s => [encPl p, encPl s] | .fin s => [encPl s]
theorem stD_eq (x : Stp) : stD x = .tup (.str (stW x) :: stR x) := by cases x <;> rfl
theorem stD_last {x : Stp} (h : stW x ≠ "say") : atI (D.str (stW x) :: stR x) (-1) = some (encPl (stS x)) := by
  cases x with
  | say p y => exact absurd rfl h
  | slip p => exact atI_last [_] _
  | fin p => exact atI_last [_] _
  | take p k s => exact atI_last [_, _, _] _
  | _ => exact atI_last [_, _] _
/-- what the first test makes of the state -/
def mid (c : TS') : Stp → TS'
  | .slip p => (some p, p :: c.2)
  | .pass _ s => (some s, c.2)
  | _ => c
theorem ok_mt {h : House} {c : TS'} {x : Stp} (hx : stepOk h c x) (hs : stW x ≠ "say") : IsMt h (stD x) := by
  cases x with
  | say p y => exact absurd rfl hs
  | slip p => exact .slip hx
  | pass p s => exact hx
  | fin s => exact .fin hx.1
  | _ => exact hx.1
theorem ok_kn {h : House} {c : TS'} {x : Stp} (hx : stepOk h c x) (h1 : stW x ≠ "say") (h2 : stW x ≠ "slip") (h3 : stW x ≠ "pass") : stS x ∈ c.2 ∧ mid c x = c := by
  cases x with
  | say p y => exact absurd rfl h1
  | slip p => exact absurd rfl h2
  | pass p s => exact absurd rfl h3
  | fin s => exact ⟨hx.2.1, rfl⟩
  | kept p s => exact ⟨hx.2, rfl⟩
  | lost p s => exact ⟨hx.2, rfl⟩
  | _ => exact ⟨hx.2.1, rfl⟩
theorem ok_fl {h : House} {c : TS'} {x : Stp} (hx : stepOk h c x) (h1 : stW x ∈ ([("take" : Str), ("by" : Str), ("out" : Str), ("end" : Str)] : List Str)) : (mid c x).1 = some (stS x) := by
  cases x with
  | take p k s => exact hx.2.2
  | by_ p s => exact hx.2.2
  | out p s => exact hx.2.2
  | fin s => exact hx.2.2
  | _ => simp only [stW] at h1; exact absurd h1 (by decide +kernel)
theorem st_slip {x : Stp} (h : stW x = "slip") : ∃ p, x = .slip p := by
  cases x with
  | slip p => exact ⟨p, rfl⟩
  | _ => simp only [stW] at h; exact absurd h (by decide +kernel)
theorem st_pass {x : Stp} (h : stW x = "pass") : ∃ p s, x = .pass p s := by
  cases x with
  | pass p s => exact ⟨p, s, rfl⟩
  | _ => simp only [stW] at h; exact absurd h (by decide +kernel)
theorem st_take {x : Stp} (h : stW x = "take") : ∃ p k s, x = .take p k s := by
  cases x with
  | take p k s => exact ⟨p, k, s, rfl⟩
  | _ => simp only [stW] at h; exact absurd h (by decide +kernel)
theorem st_kept {x : Stp} (h : stW x = "kept") : ∃ p s, x = .kept p s := by
  cases x with
  | kept p s => exact ⟨p, s, rfl⟩
  | _ => simp only [stW] at h; exact absurd h (by decide +kernel)
theorem st_rest {c : TS'} {x : Stp} (h1 : stW x ≠ "take") (h2 : stW x ≠ "kept") : stepTo c x = mid c x := by
  cases x with
  | take p k s => exact absurd rfl h1
  | kept p s => exact absurd rfl h2
  | _ => rfl
theorem st_say {c : TS'} {x : Stp} (h1 : stW x = "say") : stepTo c x = c := by
  cases x with
  | say p y => rfl
  | _ => simp only [stW] at h1; exact absurd h1 (by decide +kernel)
theorem keys_kin' : ∀ p : List Key, kinRs (p.map kD) = true ∧ deps (p.map kD) = 0
  | [] => ⟨rfl, rfl⟩
  | .inl i :: p => by
    obtain ⟨a, b⟩ := keys_kin' p
    rw [List.map_cons, kinRs, deps, a, b]; exact ⟨rfl, rfl⟩
  | .inr i :: p => by
    obtain ⟨a, b⟩ := keys_kin' p
    rw [List.map_cons, kinRs, deps, a, b]; exact ⟨rfl, rfl⟩
theorem keys_refs : ∀ p : List Key, refss (p.map kD) = []
  | [] => rfl
  | .inl i :: p => by rw [List.map_cons, refss, keys_refs p]; rfl
  | .inr i :: p => by rw [List.map_cons, refss, keys_refs p]; rfl
theorem db_join' {X : Cx} {st : Stmt} {sts : List Stmt} {Γ : G} {m : M} {E : DEnds} (W : G → M → Prop) (h : DS X st Γ m { E with nx := W }) (k : ∀ Γ' m', W Γ' m' → DB X sts Γ' m' E) : DB X (st :: sts) Γ m E :=
  db_cons (h.imp k (fun _ _ q => q) (fun _ _ q => q) (fun _ _ q => q))
section
variable {P : Program} {w : World} {K : PySem.W.Frag} {mg : Str → Option Value} {base : Heap}
abbrev sTrail : Stmt := top 33
theorem scTrail : Sf ["trail", "due", "flying", "known", "step"] [] ["trail", "due"] (defScope sTrail) := sf_mk ⟨rfl, rfl, rfl, by decide +kernel, rfl, by decide +kernel, by decide +kernel⟩ (by decide +kernel)
/-- the meets' texts stand in the table -/
def DueTab (h : House) (kvs : List (Key × D)) : Prop := ∀ d, IsMt h d → (valD kvs (.inr (pdOf d).shown)).isSome = true
def spTrail : DSp := fun ds m Q => ∃ h tt du tr kvs c, ds = [.ref tt, .ref du] ∧ HouseNm h ∧ m tt = some (.lst (List.map stD tr)) ∧ m du = some (.dK kvs) ∧ DueTab h kvs ∧ TrOk h (none, []) tr c ∧ tr.length ≤ 602 ∧ Q (.bl true) m
theorem ok_trail {f : Addr} {fd : FuncData} (B : Tx mg) (d : DefAt K mg "_law_trail_right" sTrail ["trail", "due"] f fd) : Cd P w K mg base 1 "_law_trail_right" spTrail := by
  refine d.cd (fd_of d.fn scTrail.fs (fun ds m Q h => by obtain ⟨h, a, b, c, e, g, rfl, _⟩ := h; rfl) fun cdv A outer s H ds m Q hr hgd h => ?_)
  obtain ⟨hs, tt, du, tr, kvs, c, rfl, hz, htt, hdu, hdt, htr, htl, h⟩ := h
  have hu := u64 hr
  have hu128 := u128 hr
  conv in defBody _ => whnf
  refine stc scTrail 2 <| de_non ?_
  refine stc scTrail 3 <| de_dnewT fun kz hkz => ?_
  refine db_cons (ds_for p0 rfl (di_l <| v scTrail 0 rfl ⟨tt, _, rfl, .inl (mup_some htt hkz), fun i Γ' m' => ∃ ci s0 kn, Γ' = [some (.ref tt), some (.ref du), some (hD ci.1), some (.ref kz), s0] ∧ Sub (mup m kz (.dT kn)) m' ∧ (∀ s ∈ ci.2, (valD kn s).isSome = true) ∧ kn.length ≤ i ∧ TrOk hs ci (tr.drop i) c,
    ⟨(none, []), _, [], rfl, Sub.refl _, fun s z => (by cases z), Nat.zero_le _, htr⟩, fun i Γ' m' _ hW => ?_, fun i d' Γ' m' hd hW => ?_, fun Γ' m' hW => ?_⟩))
  · obtain ⟨ci, s0, kn, _, sb, _⟩ := hW
    exact .inl (sb.old hkz _ _ htt)
  · obtain ⟨ci, s0, kn, rfl, sb, hkn, hkl, hto⟩ := hW
    obtain ⟨x, hx, rfl⟩ := get_map hd
    have hi : i < tr.length := (List.getElem?_eq_some_iff.mp hx).1
    have hdrop : tr.drop i = x :: tr.drop (i + 1) := by
      rw [List.drop_eq_getElem_cons hi]
      rw [List.getElem?_eq_getElem hi] at hx
      rw [Option.some.inj hx]
    rw [hdrop] at hto
    obtain ⟨hok, hto⟩ := hto
    refine tg scTrail 4 ?_
    rw [stD_eq]
    refine if0 <| dt_cmp rfl <| de_ix <| v scTrail 4 rfl <| de_int <| ox_t ix0 <| de_str <| o2_eqs ⟨_, rfl, fun h1 => ?_, fun h1 => ?_⟩
    · refine db_one (ds_continue ⟨ci, _, kn, rfl, sb, hkn, Nat.le_succ_of_le hkl, ?_⟩)
      rw [st_say (of_decide_eq_true h1)] at hto; exact hto
    have n1 := of_decide_eq_false h1
    have hmt := ok_mt hok n1
    have hth := hmt.th hz
    obtain ⟨s1, s2, s3⟩ := pok_repr hth.pok (Nat.le_trans hth.dep (by decide))
    refine if0 <| dt_cmp rfl <| c_repr B.repr <| da_cons <| v scTrail 4 rfl <| da_nil ?_
    rw [stD_eq] at hth hmt s1 s2 s3
    refine oc_repr hgd hu128 (rp_of (b := true) (kin_pure hth.kin)) (.inl ⟨_, rfl⟩) s1 s2 s3 <| v scTrail 1 rfl <| o2_notin (u1 hr) (DG1.s (sb.old hkz _ _ hdu)) ⟨_, rfl, fun h2 => ?_, fun h2 => ?_⟩
    · have := hdt _ hmt
      rw [this] at h2; cases h2
    clear s1 s2 s3
    refine db_join' (fun Γ' m2 => ∃ kn2, Γ' = [some (.ref tt), some (.ref du), some (hD (mid ci x).1), some (.ref kz), some (.tup (.str (stW x) :: stR x))] ∧ Sub (mup m kz (.dT kn2)) m2 ∧ (∀ s ∈ (mid ci x).2, (valD kn2 s).isSome = true) ∧ kn2.length ≤ i + 1) (ds_if <| dt_cmp rfl <| de_ix <| v scTrail 4 rfl <| de_int <| ox_t ix0 <| de_str <| o2_eqs ⟨_, rfl, fun h3 => ?_, fun h3 => ?_⟩) fun Γ' m2 hW => ?_
    · obtain ⟨p, rfl⟩ := st_slip (of_decide_eq_true h3)
      refine stc scTrail 2 <| de_ix <| v scTrail 4 rfl <| de_int <| ox_t (ix1 (y := encPl p) (l := [])) ?_
      refine db_one (ds_tput (u1 hr) rfl <| de_bl <| v scTrail 3 rfl <| v scTrail 2 rfl ⟨kz, kn, p, rfl, rfl, sb.at, Nat.lt_of_le_of_lt (show _ ≤ 602 by omega) (by decide), putD kn p (.bl true), rfl, sb.put, fun s hs2 => ?_, Nat.le_trans (putD_len _ _ _) (Nat.succ_le_succ hkl)⟩)
      rw [valD_put]
      split
      · rfl
      · rename_i hne
        rcases List.mem_cons.mp hs2 with e | hs2
        · exact absurd e.symm hne
        · exact hkn s hs2
    · have n3 := of_decide_eq_false h3
      refine db_one (ds_if <| dt_cmp rfl <| de_ix <| v scTrail 4 rfl <| de_int <| ox_t ix0 <| de_str <| o2_eqs ⟨_, rfl, fun h4 => ?_, fun h4 => ?_⟩)
      · obtain ⟨p, sl, rfl⟩ := st_pass (of_decide_eq_true h4)
        exact db_one (st scTrail 2 <| de_ix <| v scTrail 4 rfl <| de_int <| ox_t (ix2 (z := encPl sl) (l := [])) ⟨kn, rfl, sb, hkn, Nat.le_succ_of_le hkl⟩)
      · have n4 := of_decide_eq_false h4
        obtain ⟨hk, hm⟩ := ok_kn hok n1 n3 n4
        refine db_one (ds_if <| dt_cmp rfl <| de_ix <| v scTrail 4 rfl <| de_neg <| de_int ⟨1, rfl, ox_t (stD_last n1) <| v scTrail 3 rfl <| o2_notin (u1 hr) (DG1.t sb.at) ⟨_, rfl, fun h5 => ?_, fun h5 => db_nil ⟨kn, by rw [hm]; rfl, sb, by rw [hm]; exact hkn, Nat.le_succ_of_le hkl⟩⟩⟩)
        rw [hkn _ hk] at h5; cases h5
    obtain ⟨kn2, rfl, sb2, hkn2, hkl2⟩ := hW
    refine if0 (DT.imp (Q := fun b m3 => m2 = m3 ∧ b = false) ?_ ?_)
    · refine dt_w <| dw_and <| dt_cmp rfl <| de_ix <| v scTrail 4 rfl <| de_int <| ox_t ix0 <| de_tup <| da_cons <| de_str <| da_cons <| de_str <| da_cons <| de_str <| da_cons <| de_str <| da_nil <| tu <| o2_inst (ss := ["take", "by", "out", "end"]) rfl ⟨_, rfl, fun h6 => ?_, fun h6 => ⟨rfl, rfl⟩⟩
      have hfl := ok_fl hok (of_decide_eq_true h6)
      refine dw_and1 <| dt_cmp rfl <| de_ix <| v scTrail 4 rfl <| de_neg <| de_int ⟨1, rfl, ox_t (stD_last n1) <| v scTrail 2 rfl ?_⟩
      rw [hfl]
      refine o2_nett (bs := (stS x).map kD) hu (by rw [(keys_kin' (stS x)).2]; decide) (keys_kin' (stS x)).1 (fun q hq => ?_) ⟨_, rfl, rfl, ?_⟩
      · rw [keys_refs] at hq; cases hq
      · rw [deqs_refl (kins_pure (keys_kin' (stS x)).1)]; rfl
    rintro b m3 ⟨rfl, rfl⟩
    refine ⟨fun z => Bool.noConfusion z, fun _ => ?_⟩
    refine db_one (ds_if <| dt_cmp rfl <| de_ix <| v scTrail 4 rfl <| de_int <| ox_t ix0 <| de_str <| o2_eqs ⟨_, rfl, fun h7 => ?_, fun h7 => ?_⟩)
    · obtain ⟨p, k, sl, rfl⟩ := st_take (of_decide_eq_true h7)
      exact db_one (st scTrail 2 <| de_non ⟨(none, ci.2), _, kn2, rfl, sb2, hkn2, hkl2, hto⟩)
    refine db_one (ds_if <| dt_cmp rfl <| de_ix <| v scTrail 4 rfl <| de_int <| ox_t ix0 <| de_str <| o2_eqs ⟨_, rfl, fun h8 => ?_, fun h8 => ?_⟩)
    · obtain ⟨p, sl, rfl⟩ := st_kept (of_decide_eq_true h8)
      exact db_one (st scTrail 2 <| de_ix <| v scTrail 4 rfl <| de_int <| ox_t (ix2 (z := encPl sl) (l := [])) ⟨(some sl, ci.2), _, kn2, rfl, sb2, hkn2, hkl2, hto⟩)
    · rw [st_rest (of_decide_eq_false h7) (of_decide_eq_false h8)] at hto
      exact db_nil ⟨mid ci x, _, kn2, rfl, sb2, hkn2, hkl2, hto⟩
  · obtain ⟨ci, s0, kn, rfl, sb, _⟩ := hW
    exact rt1 (de_bl ⟨_, sb.old hkz, h⟩)
end
end SC

set_option maxHeartbeats 400000
/-! P17: _law_other. -/
namespace SC
open PySem L2 DL
/-- what may be told of a thing -/
def Told (m : M) (e : D) : Prop := ∃ b pe, RP b m e pe ∧ pok pe = true ∧ pe.depth ≤ 3 ∧ (∀ q ∈ refs e, RefOk m q) ∧ ((∃ ds, e = .tup ds) ∨ ∃ q, e = .ref q)
mutual
theorem pure_refs : ∀ {d : D}, pure' d = true → refs d = []
  | .non, _ => rfl
  | .bl _, _ => rfl
  | .int i, _ => rfl
  | .str x, _ => rfl
  | .tup l, h => by rw [pure'] at h; rw [refs]; exact pures_refs h
  | .ref _, h => by cases h
theorem pures_refs : ∀ {l : List D}, pures l = true → refss l = []
  | [], _ => rfl
  | x :: xs, h => by
    rw [pures, Bool.and_eq_true] at h
    rw [refss, pure_refs h.1, pures_refs h.2]; rfl
end
theorem rps_app {b : Bool} {m : M} : ∀ {l k : List D} {p q : List PyData}, RPs b m l p → RPs b m k q → RPs b m (l ++ k) (p ++ q)
  | _, _, _, _, .nil, h => h
  | _, _, _, _, .cons h1 h2, h => .cons h1 (rps_app h2 h)
theorem poks_app : ∀ (l k : List PyData), poks (l ++ k) = (poks l && poks k)
  | [], k => rfl
  | x :: l, k => by rw [List.cons_append, poks, poks, poks_app l k, Bool.and_assoc]
theorem depthAll_app : ∀ (l k : List PyData), PyData.depthAll (l ++ k) = max (PyData.depthAll l) (PyData.depthAll k)
  | [], k => by rw [List.nil_append, PyData.depthAll]; omega
  | x :: l, k => by rw [List.cons_append, PyData.depthAll, PyData.depthAll, depthAll_app l k]; omega
theorem refss_app : ∀ (l k : List D), refss (l ++ k) = refss l ++ refss k
  | [], k => rfl
  | x :: l, k => by rw [List.cons_append, refss, refss, refss_app l k, List.append_assoc]
structure TdOk (k : Nat) (d : D) : Prop where
  pu : pure' d = true
  pok : pok (pdOf d) = true
  dep : (pdOf d).depth ≤ k
theorem ThOk.td {k : Nat} {d : D} (h : ThOk k d) : TdOk k d := ⟨kin_pure h.kin, h.pok, h.dep⟩
theorem tdoks {k : Nat} : ∀ {l : List D}, (∀ d ∈ l, TdOk k d) → pures l = true ∧ poks (pdOfs l) = true ∧ PyData.depthAll (pdOfs l) ≤ k
  | [], _ => ⟨rfl, rfl, Nat.zero_le _⟩
  | x :: xs, h => by
    have h1 := h x List.mem_cons_self
    obtain ⟨a, b, c⟩ := tdoks (l := xs) fun d hd => h d (List.mem_cons_of_mem _ hd)
    refine ⟨by rw [pures, h1.pu, a]; rfl, by rw [pdOfs, poks, h1.pok, b]; rfl, ?_⟩
    rw [pdOfs, PyData.depthAll]
    have := h1.dep
    omega
theorem TdOk.tup {k : Nat} {l : List D} (hl : l.length ≤ 50) (h : ∀ d ∈ l, TdOk k d) : TdOk (k + 1) (.tup l) := by
  obtain ⟨a, b, c⟩ := tdoks h
  refine ⟨by rw [pure']; exact a, ?_, ?_⟩
  · rw [pdOf, SC.pok, b, pdOfs_map, List.length_map, decide_eq_true hl]; rfl
  · rw [pdOf, PyData.depth]; omega
theorem TdOk.bl (k : Nat) (b : Bool) : TdOk k (.bl b) := ⟨rfl, rfl, Nat.zero_le _⟩
theorem TdOk.non (k : Nat) : TdOk k .non := ⟨rfl, rfl, Nat.zero_le _⟩
theorem TdOk.mono {j k : Nat} {d : D} (h : TdOk j d) (hj : j ≤ k) : TdOk k d := ⟨h.pu, h.pok, Nat.le_trans h.dep hj⟩
theorem told_td {m : M} {l : List D} (h : TdOk 3 (.tup l)) : Told m (.tup l) :=
  ⟨true, _, rp_of h.pu, h.pok, h.dep, (fun q hq => by rw [pure_refs h.pu] at hq; cases hq), .inl ⟨_, rfl⟩⟩
/-- a row with an address at its end -/
theorem told_ref {m : M} {ini : List D} {e : D} {b : Bool} {pe : PyData} (hi : ∀ d ∈ ini, TdOk 1 d) (hl : ini.length ≤ 3) (he : RP b m e pe) (hp : pok pe = true) (hd : pe.depth ≤ 2) (hr : ∀ q ∈ refs e, RefOk m q) : Told m (.tup (ini ++ [e])) := by
  obtain ⟨a, b2, c⟩ := tdoks hi
  refine ⟨b, .tuple (pdOfs ini ++ [pe]), .tup (rps_app (rps_of a) (.cons he .nil)), ?_, ?_, ?_, .inl ⟨_, rfl⟩⟩
  · rw [SC.pok, pdOfs_map, Bool.and_eq_true]
    refine ⟨decide_eq_true (by simp; omega), ?_⟩
    rw [poks_app, ← pdOfs_map, b2, poks, hp]; rfl
  · rw [PyData.depth, depthAll_app]
    rw [PyData.depthAll, PyData.depthAll]
    omega
  · intro q hq
    rw [refs, refss_app, pures_refs a] at hq
    have : refss [e] = refs e := by rw [refss, refss, List.append_nil]
    rw [this] at hq
    exact hr q hq
/-- a meet in parts -/
structure MtP (h : House) (l : List D) (ini : List D) (s : List Key) (w : Str) (y : D) (r : List D) : Prop where
  e1 : l = ini ++ [encPl s]
  e2 : l = .str w :: y :: r
  il : ini.length ≤ 3
  ii : ∀ d ∈ ini, ThOk 1 d
  ps : PlOk s
  sn : ∃ s' k, s = s' ++ [k]
  wo : nmOk w = true
  yo : ThOk 1 y
  ro : ∀ d ∈ r, ThOk 1 d
theorem walk_ne {h : House} {x : PT'} (hx : x ∈ walkH h) : ∃ s' k, x.1 = s' ++ [k] := by
  obtain ⟨r, hr, hx2⟩ := List.mem_flatMap.mp hx
  obtain ⟨q, hq⟩ := walk_pre hx2 (Nat.le_refl _)
  rcases List.eq_nil_or_concat q with rfl | ⟨q', k, rfl⟩
  · exact ⟨[], .inr r.1, by rw [hq]; rfl⟩
  · exact ⟨[.inr r.1] ++ q', k, by rw [hq]; simp⟩
theorem slip_ne {h : House} {s : List Key} (hs : s ∈ slipsH h) : ∃ s' k, s = s' ++ [k] := by
  obtain ⟨t, ht, _⟩ := slip_walk hs
  exact walk_ne ht
theorem mt_parts {h : House} (z : HouseNm h) {d : D} (mt : IsMt h d) : ∃ l ini s w y r, d = .tup l ∧ MtP h l ini s w y r := by
  cases mt with
  | @fin s hs => exact ⟨_, [.str "end"], s, "end", encPl s, [], rfl, rfl, rfl, Nat.le_of_ble_eq_true rfl, fun d hd => by simp at hd; subst hd; exact (ThOk.str (by decide +kernel)).mono (by decide), z.slip hs, slip_ne hs, by decide +kernel, (z.slip hs).th, fun d hd => by cases hd⟩
  | @slip s hs => exact ⟨_, [.str "slip"], s, "slip", encPl s, [], rfl, rfl, rfl, Nat.le_of_ble_eq_true rfl, fun d hd => by simp at hd; subst hd; exact (ThOk.str (by decide +kernel)).mono (by decide), z.slip hs, slip_ne hs, by decide +kernel, (z.slip hs).th, fun d hd => by cases hd⟩
  | @wd x w s hx hw hs => exact ⟨_, [.str w, encPl x.1], s, w, encPl x.1, [encPl s], rfl, rfl, rfl, Nat.le_of_ble_eq_true rfl, fun d hd => by
      simp at hd
      rcases hd with rfl | rfl
      · exact (ThOk.str (word_ok hw)).mono (by decide)
      · exact (z.pl hx).th, z.slip hs, slip_ne hs, word_ok hw, (z.pl hx).th, fun d hd => by
      simp at hd; subst hd; exact (z.slip hs).th⟩
  | @take x k s hx hk hs =>
    have hk2 := takes_len (z.sz.kid hx)
    have hkt : ThOk 1 (.int (k : Nat)) := (ThOk.int (by omega) (by omega)).mono (by decide)
    exact ⟨_, [.str "take", encPl x.1, .int k], s, "take", encPl x.1, [.int k, encPl s], rfl, rfl, rfl, Nat.le_of_ble_eq_true rfl, fun d hd => by
      simp at hd
      rcases hd with rfl | rfl | rfl
      · exact (ThOk.str (by decide +kernel)).mono (by decide)
      · exact (z.pl hx).th
      · exact hkt, z.slip hs, slip_ne hs, by decide +kernel, (z.pl hx).th, fun d hd => by
      simp at hd
      rcases hd with rfl | rfl
      · exact hkt
      · exact (z.slip hs).th⟩
end SC

set_option maxHeartbeats 400000
/-! P18: _law_other, the walk. -/
namespace SC
open PySem L2 DL
theorem MtP.len {h : House} {l ini : List D} {s : List Key} {w : Str} {y : D} {r : List D} (p : MtP h l ini s w y r) : r.length ≤ 2 ∧ l.length ≤ 4 := by
  have h1 := congrArg List.length p.e1
  have h2 := congrArg List.length p.e2
  have h3 := p.il
  simp at h1 h2
  omega
theorem MtP.last {h : House} {l ini : List D} {s : List Key} {w : Str} {y : D} {r : List D} (p : MtP h l ini s w y r) : atI l (-1) = some (encPl s) := by rw [p.e1]; exact atI_last _ _
theorem MtP.all {h : House} {l ini : List D} {s : List Key} {w : Str} {y : D} {r : List D} (p : MtP h l ini s w y r) : ∀ d ∈ l, ThOk 1 d := fun d hd => by
  rw [p.e1] at hd
  rcases List.mem_append.mp hd with hd | hd
  · exact p.ii d hd
  · simp at hd; subst hd; exact p.ps.th
def words8 : List Str := ["say", "done", "pass", "by", "kept", "lost", "out", "end"]
theorem words8_ok : ∀ x ∈ words8, nmOk x = true := by decide +kernel
theorem o2_key1 {X : Cx} {m : M} {Q : D → M → Prop} {k : Key} {n : Int} (q : ∀ b, Q (.bl b) m) : O2 X (compareOp .Eq) (kD k) (.int n) m Q := by
  cases k with
  | inl i => exact o2_eqi (q _)
  | inr x => exact o2_eqsi (q _)
section
variable {P : Program} {w : World} {K : PySem.W.Frag} {mg : Str → Option Value} {base : Heap}
abbrev sOther : Stmt := top 32
theorem scOther : Sf ["tape", "house", "meet", "places", "place", "way"] ["deed"] ["tape", "house", "meet"] (defScope sOther) := sf_mk ⟨rfl, rfl, rfl, by decide +kernel, rfl, by decide +kernel, by decide +kernel⟩ (by decide +kernel)
def spOther : DSp := fun ds m Q => ∃ tp t h e, ds = [.ref tp, encH h, e] ∧ m tp = some (.lst [.int t]) ∧ HouseNm h ∧ IsMt h e ∧ ∀ m' e' t', Sub (mup m tp (.lst [.int t'])) m' → Told m' e' → Q e' m'
theorem ok_other {f : Addr} {fd : FuncData} (B : Tx mg) (cD : Cd P w K mg base 1 "_law_digit" spDigit) (cA : Cd P w K mg base 48 "_law_all" spWalk) (d : DefAt K mg "_law_other" sOther ["tape", "house", "meet"] f fd) : Cd P w K mg base 49 "_law_other" spOther := by
  refine d.cd (fd_of d.fn scOther.fs (fun ds m Q h => by obtain ⟨q, a, _, _, rfl, _⟩ := h; rfl) fun cdv A outer s H ds m Q hr hgd h => ?_)
  obtain ⟨tp, t, hs, e, rfl, htp, hz, hmt, h⟩ := h
  obtain ⟨l, ini, sp, wd, y, r, rfl, mp⟩ := mt_parts hz hmt
  have hlen := mp.len
  have hil := mp.il
  have hall := hz.sz.all
  have hu := u64 hr
  obtain ⟨s', k, hsk⟩ := mp.sn
  have hne : 0 < (walkH hs).length := by
    have := hz.sz.some
    match hh : hs.rooms, this with
    | r :: rs, _ =>
      have : ([.inr r.1], r.2) ∈ walkH hs := walk_room (by rw [hh]; exact List.mem_cons_self)
      exact List.length_pos_of_mem this
  conv in defBody _ => whnf
  refine db_cons (ds_map 3 [("place", 4), ("deed", 6)] (walkH hs) encPT (fun x => encPl x.1) scOther.fs.nd (blkOk_by (N := ["tape", "house", "meet", "places", "place", "way", "deed"]) (sc := defScope sOther) (by decide +kernel))
    (di_l <| fc cA hr hgd (hkj := by decide) <| da_cons <| v scOther 1 rfl <| da_nil ⟨hs, rfl, hz.sz, fun a ha => ⟨a, _, rfl, .inl mup_same, rfl, sl1000 (by omega), fun p acc hp => .inl (mup_some mup_same hp), fun p acc x hp hx => ?_, fun q hq => ?_⟩⟩))
  · intro s H C cl fp
    refine tb2 scOther.fs.nd 4 6 ?_
    intro s H C cl fp
    exact vb 4 rfl ⟨Sub.refl _, rfl⟩
  have htp2 := mup_some (o := .lst ((walkH hs).map fun x => encPl x.1)) (mup_some (o := .lst ((walkH hs).map encPT)) htp ha) hq
  have sb : Sub m (mup (mup m a (.lst ((walkH hs).map encPT))) q (.lst ((walkH hs).map fun x => encPl x.1))) := (Sub.new ha).trans (Sub.new hq)
  have hql : mup (mup m a (.lst ((walkH hs).map encPT))) q (.lst ((walkH hs).map fun x => encPl x.1)) q = _ := mup_same
  generalize mup (mup m a (.lst ((walkH hs).map encPT))) q (.lst ((walkH hs).map fun x => encPl x.1)) = m1 at *
  clear ha hq
  have hqt : q ≠ tp := fun e => by
    subst e
    rw [htp2] at hql
    have := Option.some.inj hql
    cases hw : walkH hs with
    | nil => rw [hw] at hne; cases hne
    | cons x xs => rw [hw] at this; cases this
  refine stc scOther 4 ?_
  refine de_ix <| v scOther 3 rfl <| fc cD hr hgd (hkj := by decide) <| da_cons <| v scOther 0 rfl <| da_cons <| c_len B.len <| da_cons <| v scOther 3 rfl <| da_nil <| oc_lenl (.inl hql) <| da_nil ⟨tp, t, _, rfl, htp2, by simp; omega, by simp; omega, fun c t1 c0 c1 => ?_⟩
  have hcl : c.toNat < (walkH hs).length := by simp at c1; omega
  have hat : atI ((walkH hs).map fun x => encPl x.1) c = some (encPl (walkH hs)[c.toNat].1) := by
    refine atI_map (fun x : PT' => encPl x.1) ?_
    have := atI_nat (xs := walkH hs) (List.getElem?_eq_getElem hcl)
    rwa [Int.toNat_of_nonneg c0] at this
  have hpl : PlOk (walkH hs)[c.toNat].1 := hz.pl (List.getElem_mem hcl)
  refine ox_l (.inl ((mup_ne hqt).trans hql)) hat ?_
  generalize (walkH hs)[c.toNat].1 = pl at *
  clear hat hcl c1 hql
  have sb1 : Sub (mup m tp (.lst [.int t1])) (mup m1 tp (.lst [.int t1])) := Sub.mupp sb
  generalize mup m1 tp (.lst [.int t1]) = m2 at *
  clear htp2
  refine stc scOther 5 <| fc cD hr hgd (hkj := by decide) <| da_cons <| v scOther 0 rfl <| da_cons <| de_int <| da_nil ⟨tp, t1, 10, rfl, sb1.at, by decide, by decide, fun wy t2 w0 w1 => ?_⟩
  have sb2 : Sub (mup m tp (.lst [.int t2])) (mup m2 tp (.lst [.int t2])) := sb1.put
  generalize mup m2 tp (.lst [.int t2]) = m3 at *
  clear sb1
  have hcut : cutD l none (some (-1)) = ini := by rw [mp.e1]; exact cut_last _ _
  have td : ∀ d ∈ ini, TdOk 1 d := fun d hd => (mp.ii d hd).td
  refine if0 <| dt_cmp rfl <| v scOther 5 rfl <| de_int <| o2_eqi ⟨_, rfl, fun _ => ?_, fun n8 => ?_⟩
  · refine rt1 ?_
    refine de_op ?_
    refine de_slt <| v scOther 2 rfl <| de_neg <| de_int ⟨1, rfl, _, rfl, l, rfl, ?_⟩
    rw [hcut]
    refine de_tup ?_
    refine da_cons ?_
    refine de_ix ?_
    refine de_lst ?_
    refine da_cons ?_
    refine de_ix <| v scOther 2 rfl <| de_neg <| de_int ⟨1, rfl, ox_t mp.last ?_⟩
    refine da_cons ?_
    refine de_dnew fun dq hdq => ?_
    refine da_cons ?_
    refine de_lst <| da_nil <| li fun lq hlq => ?_
    refine da_cons ?_
    refine de_non ?_
    refine da_nil ?_
    refine li fun z hz => ?_
    have sb3 := ((sb2.trans (Sub.new (o := .dK []) hdq)).trans (Sub.new (o := .lst []) hlq)).trans (Sub.new (o := .lst [encPl sp, .ref dq, .ref lq, .non]) hz)
    have hzl : mup (mup (mup m3 dq (.dK [])) lq (.lst [])) z (.lst [encPl sp, .ref dq, .ref lq, .non]) z = _ := mup_same
    have hdl := mup_some (o := .lst [encPl sp, .ref dq, .ref lq, .non]) (mup_some (o := .lst []) (mup_same (m := m3) (a := dq) (o := .dK [])) hlq) hz
    have hll := mup_some (o := .lst [encPl sp, .ref dq, .ref lq, .non]) (mup_same (m := mup m3 dq (.dK [])) (a := lq) (o := .lst [])) hz
    have hzt : z ≠ tp := (mne (mup_some (mup_some sb2.at hdq) hlq) hz).symm
    have hlt : lq ≠ tp := (mne (mup_some sb2.at hdq) hlq).symm
    have hdt : dq ≠ tp := (mne sb2.at hdq).symm
    generalize mup (mup (mup m3 dq (.dK [])) lq (.lst [])) z (.lst [encPl sp, .ref dq, .ref lq, .non]) = m4 at *
    refine fc cD hr hgd (hkj := by decide) <| da_cons <| v scOther 0 rfl <| da_cons <| de_int <| da_nil ⟨tp, t2, 4, rfl, sb3.at, by decide, by decide, fun c2 t3 c20 c21 => ?_⟩
    have sb5 : Sub (mup m tp (.lst [.int t3])) (mup m4 tp (.lst [.int t3])) := sb3.put
    have hzl := (mup_ne (o := .lst [.int t3]) hzt).trans hzl
    have hdl := (mup_ne (o := .lst [.int t3]) hdt).trans hdl
    have hll := (mup_ne (o := .lst [.int t3]) hlt).trans hll
    generalize mup m4 tp (.lst [.int t3]) = m5 at *
    have hc4 : c2 = 0 ∨ c2 = 1 ∨ c2 = 2 ∨ c2 = 3 := by omega
    rcases hc4 with rfl | rfl | rfl | rfl
    · exact ox_l (.inl hzl) ix0 <| da_nil <| tu <| o2_addt (sl100 (by simp; omega)) ⟨_, Sub.refl _, h _ _ t3 sb5 (told_ref (b := true) td hil (rp_of mp.ps.th.td.pu) mp.ps.th.pok (Nat.le_trans mp.ps.th.dep (by decide)) (fun q hq => by rw [pure_refs mp.ps.th.td.pu] at hq; cases hq))⟩
    · exact ox_l (.inl hzl) ix1 <| da_nil <| tu <| o2_addt (sl100 (by simp; omega)) ⟨_, Sub.refl _, h _ _ t3 sb5 (told_ref (b := true) td hil (.dic rfl hdl) rfl (by decide) (fun q hq => by
        have : q = dq := by simpa [refs] using hq
        subst this
        exact .inr ⟨[], hdl⟩))⟩
    · exact ox_l (.inl hzl) ix2 <| da_nil <| tu <| o2_addt (sl100 (by simp; omega)) ⟨_, Sub.refl _, h _ _ t3 sb5 (told_ref (b := false) td hil (.lst rfl hll .nil) rfl (by decide) (fun q hq => by
        have : q = lq := by simpa [refs] using hq
        subst this
        exact .inl ⟨[], .inl hll⟩))⟩
    · exact ox_l (.inl hzl) ix3 <| da_nil <| tu <| o2_addt (sl100 (by simp; omega)) ⟨_, Sub.refl _, h _ _ t3 sb5 (told_ref (b := true) td hil .non rfl (by decide) (fun q hq => by cases hq))⟩
  refine if0 <| dt_cmp rfl <| v scOther 5 rfl <| de_int <| o2_eqi ⟨_, rfl, fun _ => ?_, fun n9 => ?_⟩
  · have ekd : sp.map kD = s'.map kD ++ [kD k] := by rw [hsk]; simp
    have ecut2 : cutD (sp.map kD) none (some (-1)) = s'.map kD := by rw [ekd]; exact cut_last _ _
    have elast : atI (sp.map kD) (-1) = some (kD k) := by rw [ekd]; exact atI_last _ _
    have hpsl := mp.ps.len
    have hsl : s'.length ≤ 45 := by rw [hsk] at hpsl; simp at hpsl; omega
    refine rt1 (de_op <| de_slt <| v scOther 2 rfl <| de_neg <| de_int ⟨1, rfl, _, rfl, l, rfl, ?_⟩)
    rw [hcut]
    refine de_tup <| da_cons <| de_op <| de_slt <| de_ix <| v scOther 2 rfl <| de_neg <| de_int ⟨1, rfl, ox_t mp.last <| de_neg <| de_int ⟨1, rfl, _, rfl, sp.map kD, rfl, ?_⟩⟩
    rw [ecut2]
    refine de_tup <| da_cons <| de_cmp rfl <| de_ix <| de_ix <| v scOther 2 rfl <| de_neg <| de_int ⟨1, rfl, ox_t mp.last <| de_neg <| de_int ⟨1, rfl, ox_t elast <| de_int ?_⟩⟩
    refine o2_key1 fun bb => ?_
    refine da_nil <| tu <| o2_addt (sl100 (by simp; omega)) <| da_nil <| tu <| o2_addt (sl100 (by simp; omega)) ⟨_, Sub.refl _, h _ _ t2 sb2 (told_td ((TdOk.tup (k := 2) (by simp; omega) fun d hd => ?_)))⟩
    rcases List.mem_append.mp hd with hd | hd
    · exact (td d hd).mono (by decide)
    · obtain rfl : d = .tup (s'.map kD ++ [.bl bb]) := by simpa using hd
      refine (TdOk.tup (k := 0) (by simp; omega) fun d hd => ?_).mono (by decide)
      rcases List.mem_append.mp hd with hd | hd
      · obtain ⟨kk, hkk, rfl⟩ := List.mem_map.mp hd
        have hko := List.all_eq_true.mp mp.ps.key kk (by rw [hsk]; exact List.mem_append_left _ hkk)
        cases kk with
        | inl i =>
          have h2 : (decide (0 ≤ i) && decide (i < 100)) = true := hko
          rw [Bool.and_eq_true, decide_eq_true_eq, decide_eq_true_eq] at h2
          exact (ThOk.int h2.1 h2.2).td
        | inr x => exact (ThOk.str hko).td
      · simp at hd; subst hd; exact TdOk.bl 0 _
  refine if0 <| dt_cmp rfl <| v scOther 5 rfl <| de_int <| o2_eqi ⟨_, rfl, fun _ => ?_, fun n0 => ?_⟩
  · have ecut : cutD l (some 2) none = r := by rw [mp.e2]; exact cut_from _ 2 (by simp)
    have h0 : atI l 0 = some (.str wd) := by rw [mp.e2]; exact ix0
    refine rt1 (de_op <| de_tup <| da_cons <| de_ix <| v scOther 2 rfl <| de_int <| ox_t h0 <| da_cons <| v scOther 4 rfl <| da_nil <| tu <| de_slt <| v scOther 2 rfl <| de_int ⟨_, rfl, l, rfl, ?_⟩)
    rw [ecut]
    refine o2_addt (sl100 (by simp; omega)) ⟨_, Sub.refl _, h _ _ t2 sb2 (told_td ((TdOk.tup (k := 1) (by simp; omega) fun d hd => ?_).mono (by decide)))⟩
    rcases List.mem_append.mp hd with hd | hd
    · simp at hd
      rcases hd with rfl | rfl
      · exact ((ThOk.str mp.wo).mono (by decide)).td
      · exact hpl.th.td
    · exact (mp.ro d hd).td
  refine if0 <| dt_cmp rfl <| v scOther 5 rfl <| de_int <| o2_eqi ⟨_, rfl, fun _ => ?_, fun n1 => ?_⟩
  · refine rt1 (de_op <| de_slt <| v scOther 2 rfl <| de_neg <| de_int ⟨1, rfl, _, rfl, l, rfl, ?_⟩)
    rw [hcut]
    refine de_tup <| da_cons <| v scOther 4 rfl <| da_nil <| tu <| o2_addt (sl100 (by simp; omega)) ⟨_, Sub.refl _, h _ _ t2 sb2 (told_td ((TdOk.tup (k := 1) (by simp; omega) fun d hd => ?_).mono (by decide)))⟩
    rcases List.mem_append.mp hd with hd | hd
    · exact td d hd
    · simp at hd; subst hd; exact hpl.th.td
  refine if0 <| dt_cmp rfl <| v scOther 5 rfl <| de_int <| o2_eqi ⟨_, rfl, fun _ => ?_, fun n2 => ?_⟩
  · refine rt1 (de_tup <| da_cons <| de_str <| da_cons <| v scOther 4 rfl <| da_cons <| fc cD hr hgd (hkj := by decide) <| da_cons <| v scOther 0 rfl <| da_cons <| de_int <| da_nil ⟨tp, t2, 4, rfl, sb2.at, by decide, by decide, fun c2 t3 c20 c21 => ?_⟩)
    refine da_cons <| de_ix <| v scOther 2 rfl <| de_neg <| de_int ⟨1, rfl, ox_t mp.last <| da_nil <| tu ⟨_, Sub.refl _, h _ _ t3 sb2.put (told_td ((th4 ((ThOk.str (by decide +kernel)).mono (by decide)) hpl.th ((ThOk.int c20 (by omega)).mono (by decide)) mp.ps.th).td.mono (by decide)))⟩⟩
  refine if0 <| dt_cmp rfl <| v scOther 5 rfl <| de_int <| o2_eqi ⟨_, rfl, fun _ => ?_, fun n3 => ?_⟩
  · have h1 : atI l 1 = some y := by rw [mp.e2]; exact ix1
    refine rt1 (de_tup <| da_cons <| de_str <| da_cons <| de_ix <| v scOther 2 rfl <| de_int <| ox_t h1 <| da_cons <| de_cmp rfl <| fc cD hr hgd (hkj := by decide) <| da_cons <| v scOther 0 rfl <| da_cons <| de_int <| da_nil ⟨tp, t2, 2, rfl, sb2.at, by decide, by decide, fun c2 t3 c20 c21 => de_int <| o2_eqi ?_⟩)
    refine da_cons <| de_ix <| v scOther 2 rfl <| de_neg <| de_int ⟨1, rfl, ox_t mp.last <| da_nil <| tu ⟨_, Sub.refl _, h _ _ t3 sb2.put (told_td ((TdOk.tup (k := 1) (Nat.le_of_ble_eq_true rfl) fun d hd => ?_).mono (by decide)))⟩⟩
    simp at hd
    rcases hd with rfl | rfl | rfl | rfl
    · exact ((ThOk.str (by decide +kernel)).mono (by decide)).td
    · exact mp.yo.td
    · exact TdOk.bl 1 _
    · exact mp.ps.th.td
  refine if0 <| dt_cmp rfl <| v scOther 5 rfl <| de_int <| o2_eqi ⟨_, rfl, fun _ => ?_, fun n4 => ?_⟩
  · have ecut : cutD l (some 1) none = y :: r := by rw [mp.e2]; exact cut_from _ 1 (by simp)
    refine rt1 ?_
    refine de_op ?_
    refine de_tup ?_
    refine da_cons ?_
    refine de_ix ?_
    refine de_lst ?_
    refine da_strs words8 ?_ ⟨sl100 (by decide), fun z hz => ?_⟩
    · rfl
    have zt : z ≠ tp := (mne sb2.at hz).symm
    refine fc cD hr hgd (hkj := by decide) <| da_cons <| v scOther 0 rfl <| da_cons <| de_int <| da_nil ⟨tp, t2, 8, rfl, mup_some sb2.at hz, by decide, by decide, fun c2 t3 c20 c21 => ?_⟩
    have sb3 : Sub (mup m tp (.lst [.int t3])) (mup (mup m3 z (.lst (words8.map D.str))) tp (.lst [.int t3])) := (sb2.trans (Sub.new hz)).put
    have hzl : mup (mup m3 z (.lst (words8.map D.str))) tp (.lst [.int t3]) z = _ := (mup_ne zt).trans mup_same
    generalize mup (mup m3 z (.lst (words8.map D.str))) tp (.lst [.int t3]) = m4 at *
    have hcl : c2.toNat < words8.length := by show c2.toNat < 8; omega
    have hat : atI (words8.map D.str) c2 = some (.str words8[c2.toNat]) := by
      refine atI_map D.str ?_
      have := atI_nat (xs := words8) (List.getElem?_eq_getElem hcl)
      rwa [Int.toNat_of_nonneg c20] at this
    have hw8 := words8_ok _ (List.getElem_mem hcl)
    generalize words8[c2.toNat] = w8 at *
    refine ox_l (.inl hzl) hat <| da_nil <| tu <| de_slt <| v scOther 2 rfl <| de_int ⟨_, rfl, l, rfl, ?_⟩
    rw [ecut]
    refine o2_addt (sl100 (by simp; omega)) ⟨_, Sub.refl _, h _ _ t3 sb3 (told_td ((TdOk.tup (k := 1) (by simp; omega) fun d hd => ?_).mono (by decide)))⟩
    simp at hd
    rcases hd with rfl | rfl | hd
    · exact ((ThOk.str hw8).mono (by decide)).td
    · exact mp.yo.td
    · exact (mp.ro d hd).td
  have hwy : wy = 5 ∨ wy = 6 ∨ wy = 7 := by
    have a1 := of_decide_eq_false n8
    have a2 := of_decide_eq_false n9
    have a3 := of_decide_eq_false n0
    have a4 := of_decide_eq_false n1
    have a5 := of_decide_eq_false n2
    have a6 := of_decide_eq_false n3
    have a7 := of_decide_eq_false n4
    omega
  refine rt1 ?_
  refine de_ix ?_
  refine de_lst ?_
  refine da_cons ?_
  refine de_op ?_
  refine v scOther 2 rfl ?_
  refine de_tup ?_
  refine da_cons ?_
  refine de_ix ?_
  refine v scOther 2 rfl ?_
  refine de_neg ?_
  refine de_int ⟨1, rfl, ox_t mp.last ?_⟩
  refine da_nil ?_
  refine tu ?_
  refine o2_addt (sl100 (by simp; omega)) ?_
  refine da_cons ?_
  refine de_slt <| v scOther 2 rfl <| de_neg <| de_int ⟨1, rfl, _, rfl, l, rfl, ?_⟩
  rw [hcut]
  refine da_cons ?_
  refine c_list B.list <| da_cons <| v scOther 2 rfl <| da_nil <| oc_list_t fun lq hlq => da_nil <| li fun z hz => ?_
  have sb4 := (sb2.trans (Sub.new (o := .lst l) hlq)).trans (Sub.new (o := .lst [.tup (l ++ [encPl sp]), .tup ini, .ref lq]) hz)
  have hzl : mup (mup m3 lq (.lst l)) z (.lst [.tup (l ++ [encPl sp]), .tup ini, .ref lq]) z = _ := mup_same
  have hll := mup_some (o := .lst [.tup (l ++ [encPl sp]), .tup ini, .ref lq]) (mup_same (m := m3) (a := lq) (o := .lst l)) hz
  generalize mup (mup m3 lq (.lst l)) z (.lst [.tup (l ++ [encPl sp]), .tup ini, .ref lq]) = m5 at *
  refine de_op <| v scOther 5 rfl <| de_int <| o2_sub ?_
  have tl : ∀ d ∈ l, TdOk 1 d := fun d hd => (mp.all d hd).td
  rcases hwy with rfl | rfl | rfl
  · refine ox_l (.inl hzl) (ix0 : atI _ 0 = _) ⟨_, Sub.refl _, h _ _ t2 sb4 (told_td ((TdOk.tup (k := 1) (by simp; omega) fun d hd => ?_).mono (by decide)))⟩
    rcases List.mem_append.mp hd with hd | hd
    · exact tl d hd
    · simp at hd; subst hd; exact mp.ps.th.td
  · exact ox_l (.inl hzl) (ix1 : atI _ 1 = _) ⟨_, Sub.refl _, h _ _ t2 sb4 (told_td ((TdOk.tup (k := 1) (by omega) td).mono (by decide)))⟩
  · refine ox_l (.inl hzl) (ix2 : atI _ 2 = _) ⟨_, Sub.refl _, h _ _ t2 sb4 ?_⟩
    obtain ⟨a1, b1, c1⟩ := tdoks tl
    refine ⟨false, .list (pdOfs l), .lst rfl hll (rps_of a1), ?_, ?_, (fun q hq => ?_), .inr ⟨_, rfl⟩⟩
    · rw [pok, b1, pdOfs_map, List.length_map, decide_eq_true (by omega)]; rfl
    · rw [PyData.depth]; omega
    · have : q = lq := by simpa [refs] using hq
      subst this
      exact .inl ⟨l, .inl hll⟩
end
end SC

set_option maxHeartbeats 400000
/-! M11: sorted rows of the same texts. -/
namespace SC
open PySem L2 DL
theorem sort_eq : ∀ {ys zs : List Str}, ys.Perm zs → ys.Pairwise (fun a b => a.cps.toList ≤ b.cps.toList) → zs.Pairwise (fun a b => a.cps.toList ≤ b.cps.toList) → ys = zs
  | [], zs, hp, _, _ => (List.nil_perm.mp hp).symm
  | y :: ys, [], hp, _, _ => absurd hp.length_eq (by simp)
  | y :: ys, z :: zs, hp, hy, hz => by
    rw [List.pairwise_cons] at hy hz
    have h1 : y.cps.toList ≤ z.cps.toList := by
      rcases List.mem_cons.mp (hp.mem_iff.mpr List.mem_cons_self : z ∈ y :: ys) with e | e
      · rw [e]; exact List.le_refl _
      · exact hy.1 z e
    have h2 : z.cps.toList ≤ y.cps.toList := by
      rcases List.mem_cons.mp (hp.mem_iff.mp List.mem_cons_self : y ∈ z :: zs) with e | e
      · rw [e]; exact List.le_refl _
      · exact hz.1 y e
    have e : y = z := cL_inj (List.le_antisymm h1 h2)
    subst e
    rw [sort_eq (List.Perm.cons_inv hp) hy.2 hz.2]
end SC

set_option maxHeartbeats 400000
/-! M12: the fixed things of the law are no meets; the table of texts. -/
namespace SC
open PySem L2 DL
def frD1 (n : Str) : D := .tup [.str n]
def some1 (n : Str) : List D := [.tup [.str "take", frD1 n, .int (-1), frD1 n], .tup [.str "take", frD1 n, frD1 n, .int 0], .tup [.str "take", frD1 n, .str "0", frD1 n], .tup [.str "slip", .str "front"]]
def some2 (n : Str) : List D := [.tup [.str "end", .int 0], .tup [.str "out", .int 7, frD1 n], .tup [.str "pass", .tup ([.str n] ++ [.int (-1)]), frD1 n], .tup [.str "kept", .tup [.str "zzz"], frD1 n]]
def some0 (n : Str) (a b c d : Addr) : List D := [.non, .tup [], .str "slip", .int 7, .tup [.str "slip"], .tup [.str "say", frD1 n, .str "a"], .ref a, .tup [.ref b, .ref c], .tup [.str "end", .ref d]]
def things (n : Str) (a b c d : Addr) : List D := some0 n a b c d ++ (some1 n ++ some2 n)
theorem no2 {a b a' b' : D} {r r' : List D} (h : deq b b' = false) : deq (.tup (a :: b :: r)) (.tup (a' :: b' :: r')) = false := by
  rw [deq, deqs, deqs, h, Bool.false_and, Bool.and_false]
theorem no3 {a b c a' b' c' : D} {r r' : List D} (h : deq c c' = false) : deq (.tup (a :: b :: c :: r)) (.tup (a' :: b' :: c' :: r')) = false := by
  rw [deq, deqs, deqs, deqs, h, Bool.false_and, Bool.and_false, Bool.and_false]
theorem noL {l k : List D} (h : l.length ≠ k.length) : deq (.tup l) (.tup k) = false := by rw [deq]; exact deqs_len h
theorem pl_int (p : List Key) (i : Int) : deq (encPl p) (.int i) = false := by simp [encPl, deq]
theorem pl_str (p : List Key) (x : Str) : deq (encPl p) (.str x) = false := by simp [encPl, deq]
theorem pl_ref (p : List Key) (x : Addr) : deq (encPl p) (.ref x) = false := by simp [encPl, deq]
theorem int_str (i : Int) (x : Str) : deq (.int i) (.str x) = false := by simp [deq]
theorem int_tup (i : Int) (l : List D) : deq (.int i) (.tup l) = false := by simp [deq]
/-- a place of two parts, the second below 0 -/
theorem pl_neg {p : List Key} (hp : p.all keyOk = true) (n : Str) : deq (encPl p) (.tup ([.str n] ++ [.int (-1)])) = false := by
  unfold encPl
  match p, hp with
  | [], _ => exact noL (by simp)
  | [x], _ => exact noL (by simp)
  | x :: y :: z :: q, _ => exact noL (by simp)
  | [x, y], hp =>
    refine no2 ?_
    cases y with
    | inr s => show deq (.str s) (.int (-1)) = false; simp [deq]
    | inl i =>
      have h1 : keyOk (.inl i) = true := List.all_eq_true.mp hp _ (by simp)
      have h2 : (decide (0 ≤ i) && decide (i < 100)) = true := h1
      rw [Bool.and_eq_true, decide_eq_true_eq] at h2
      show deq (.int i) (.int (-1)) = false
      rw [deq, beq_eq_false_iff_ne]
      omega
/-- no place is of the room zzz -/
theorem pl_zzz {h : House} (z : HouseOk h) {x : PT'} (hx : x ∈ walkH h) : deq (encPl x.1) (.tup [.str "zzz"]) = false := by
  obtain ⟨r, hr, hx2⟩ := List.mem_flatMap.mp hx
  obtain ⟨q, hq⟩ := walk_pre hx2 (Nat.le_refl _)
  have hz := z.zzz r hr
  rw [hq]
  cases q with
  | nil =>
    show deq (.tup [.str r.1]) (.tup [.str "zzz"]) = false
    rw [deq, deqs, deq, beq_eq_false_iff_ne.mpr hz, Bool.false_and]
  | cons k q => exact noL (by simp)
theorem no_thing {h : House} (z : HouseOk h) {n : Str} {a b c d : Addr} {x : D} (hx : x ∈ things n a b c d) {mt : D} (hm : IsMt h mt) : deq mt x = false := by
  have hx' : x = .non ∨ x = .tup [] ∨ x = .str "slip" ∨ x = .int 7 ∨ x = .tup [.str "slip"] ∨ x = .tup [.str "say", frD1 n, .str "a"] ∨ x = .ref a ∨ x = .tup [.ref b, .ref c] ∨ x = .tup [.str "end", .ref d] ∨
    x = .tup [.str "take", frD1 n, .int (-1), frD1 n] ∨ x = .tup [.str "take", frD1 n, frD1 n, .int 0] ∨ x = .tup [.str "take", frD1 n, .str "0", frD1 n] ∨ x = .tup [.str "slip", .str "front"] ∨
    x = .tup [.str "end", .int 0] ∨ x = .tup [.str "out", .int 7, frD1 n] ∨ x = .tup [.str "pass", .tup ([.str n] ++ [.int (-1)]), frD1 n] ∨ x = .tup [.str "kept", .tup [.str "zzz"], frD1 n] := by
    simp only [things, some0, some1, some2, List.mem_append, List.mem_cons, List.not_mem_nil, or_false] at hx
    rcases hx with h | h | h
    · rcases h with h | h | h | h | h | h | h | h | h <;> simp only [h, true_or, or_true]
    · rcases h with h | h | h | h <;> simp only [h, true_or, or_true]
    · rcases h with h | h | h | h <;> simp only [h, true_or, or_true]
  clear hx
  cases hm with
  | fin hs =>
    rcases hx' with rfl | rfl | rfl | rfl | rfl | rfl | rfl | rfl | rfl | rfl | rfl | rfl | rfl | rfl | rfl | rfl | rfl
    all_goals first | (simp only [mEnd, deq]; done) | (refine noL ?_; simp; done) | exact no2 (pl_ref _ _) | exact no2 (pl_str _ _) | exact no2 (pl_int _ _)
  | slip hs =>
    rcases hx' with rfl | rfl | rfl | rfl | rfl | rfl | rfl | rfl | rfl | rfl | rfl | rfl | rfl | rfl | rfl | rfl | rfl
    all_goals first | (simp only [mSlip, deq]; done) | (refine noL ?_; simp; done) | exact no2 (pl_ref _ _) | exact no2 (pl_str _ _) | exact no2 (pl_int _ _)
  | wd hy hw hs =>
    rcases hx' with rfl | rfl | rfl | rfl | rfl | rfl | rfl | rfl | rfl | rfl | rfl | rfl | rfl | rfl | rfl | rfl | rfl
    all_goals first | (simp only [mW, deq]; done) | (refine noL ?_; simp; done) | exact no3 (pl_str _ _) | exact no2 (pl_int _ _) | exact no2 (pl_neg (z.nm.pl hy).key _) | exact no2 (pl_zzz z hy)
  | take hy hk hs =>
    rcases hx' with rfl | rfl | rfl | rfl | rfl | rfl | rfl | rfl | rfl | rfl | rfl | rfl | rfl | rfl | rfl | rfl | rfl
    all_goals first | (simp only [mTake, deq]; done) | (refine noL ?_; simp; done) | exact no3 (int_str _ _) | exact no3 (int_tup _ _) | (refine no3 ?_; rw [deq, beq_eq_false_iff_ne]; omega)
theorem refs_thing {n : Str} {a b c d : Addr} {x : D} (hx : x ∈ things n a b c d) : ∀ q ∈ refs x, q = a ∨ q = b ∨ q = c ∨ q = d := by
  simp only [things, some0, some1, some2, frD1, List.mem_append, List.mem_cons, List.not_mem_nil, or_false] at hx
  intro q hq
  rcases hx with h | h | h
  · rcases h with rfl | rfl | rfl | rfl | rfl | rfl | rfl | rfl | rfl
    all_goals simp only [refs, refss, List.append_nil, List.nil_append, List.mem_append, List.mem_cons, List.not_mem_nil, or_false, false_or] at hq
    · exact .inl hq
    · rcases hq with h | h
      · exact .inr (.inl h)
      · exact .inr (.inr (.inl h))
    · exact .inr (.inr (.inr hq))
  · rcases h with rfl | rfl | rfl | rfl <;> simp [refs, refss] at hq
  · rcases h with rfl | rfl | rfl | rfl <;> simp [refs, refss] at hq
/-! ### the table of texts -/
def dueT (h : House) : List (Key × D) := (lawMeetsH h).foldl (fun acc x => putD acc (.inr (pdOf x).shown) (.bl true)) []
theorem fold_none {κ α : Type} [DecidableEq κ] (kf : α → κ) (vf : α → D) (k : κ) : ∀ (l : List α) (acc : List (κ × D)), (∀ y ∈ l, kf y ≠ k) → valD acc k = none → valD (l.foldl (fun acc x => putD acc (kf x) (vf x)) acc) k = none
  | [], acc, _, h => h
  | x :: l, acc, hn, h => by
    rw [List.foldl_cons]
    refine fold_none kf vf k l _ (fun y hy => hn y (List.mem_cons_of_mem _ hy)) ?_
    rw [valD_put, if_neg (hn x List.mem_cons_self)]
    exact h
theorem due_tab (h : House) : DueTab h (dueT h) := fun d hd => by
  have := fold_get (fun x : D => (.inr (pdOf x).shown : Key)) (fun _ => D.bl true) (.inr (pdOf d).shown) (.bl true) (lawMeetsH h) [] (fun _ _ _ => rfl) (.inr ⟨d, meets_iff.mpr hd, rfl⟩)
  unfold dueT
  rw [this]; rfl
theorem due_told {h : House} (z : HouseNm h) {b : Bool} {m : M} {e : D} {pe : PyData} (hrp : RP b m e pe) (hpk : pok pe = true) : ((valD (dueT h) (.inr pe.shown)).isSome = true) ↔ IsMt h e := by
  constructor
  · intro hs
    by_cases hex : ∃ y ∈ lawMeetsH h, (pdOf y).shown = pe.shown
    · obtain ⟨y, hy, he⟩ := hex
      have hm := meets_iff.mp hy
      have ht := hm.th z
      have := shown_inj (pok_good ht.pok) (pok_good hpk) he
      rw [← this] at hrp
      rw [rp_kin ht.kin hrp]; exact hm
    · have := fold_none (fun x : D => (.inr (pdOf x).shown : Key)) (fun _ => D.bl true) (.inr pe.shown) (lawMeetsH h) [] (fun y hy e => hex ⟨y, hy, Sum.inr.inj e⟩) rfl
      unfold dueT at hs
      rw [this] at hs; cases hs
  · intro hm
    have := rp_det (kin_pure (hm.th z).kin) hrp
    rw [this]
    exact due_tab h e hm
end SC

set_option maxHeartbeats 400000
/-! R4: turn, outward, finish. -/
namespace SC
open PySem L2 DL
theorem kid_due {hs : House} {c : TS'} {f : Fr} {k : Nat} {u : T} (h : FrOk hs c.2 f) (hu : f.t.ks[k]? = some u) (hc : f.t.w ≠ .catch ∨ k = 0) : DueOk hs c (.beg (f.p ++ [.inl (k : Int)]) f.hand) :=
  ⟨h.hand, u, walk_kid h.at_ hu, ps_kid h.ps hc hu⟩
theorem fr_len {hs : House} (z : HouseOk hs) {kn : List (List Key)} {f : Fr} (h : FrOk hs kn f) : f.p.length ≤ 45 := walkT_plen h.at_ z.nm.sz.each
theorem ri_due {hs : House} {cs : List Int} {S : RSt} {c : TS'} (h : RI hs cs S c) (d : Due) : RI hs cs { S with due := d } c := ⟨h.tr, h.fr, h.nc, h.mkb, h.mkl, h.bg⟩
theorem ri_pop {hs : House} {cs : List Int} {S : RSt} {c : TS'} {st : List (Addr × Fr)} {x : Addr × Fr} (h : RI hs cs S c) (e : S.stack = st ++ [x]) : RI hs cs { S with stack := st } c :=
  ⟨h.tr, fun y hy => h.fr y (by rw [e]; exact List.mem_append_left _ hy), h.nc, h.mkb, h.mkl, h.bg⟩
theorem tup_map (p : List Key) (k : Nat) : (D.tup (p.map kD ++ [.int (k : Nat)])) = encPl (p ++ [.inl (k : Int)]) := encPl_app p k
section
variable {P : Program} {w : World} {K : PySem.W.Frag} {mg : Str → Option Value} {base : Heap}
/-! ### turn -/
abbrev sTurn : Stmt := inClass (top 14) 6
theorem scTurn : Sf ["self", "frame", "choice"] [] ["self", "frame"] (defScope sTurn) := sf_mk ⟨rfl, rfl, rfl, by decide +kernel, rfl, by decide +kernel, by decide +kernel⟩ (by decide +kernel)
def spTurn (C : Addr) : DSp := fun ds m Q => ∃ m0 hs cs a S c st q f n u, ds = [.ref a.r, .ref q] ∧ HouseOk hs ∧ RM C m0 hs cs a m S ∧ RI hs cs S c ∧ S.stack = st ++ [(q, f)] ∧ f.t.ks[0]? = some u ∧ 3 * (200 - S.bg) + S.stack.length + 1 < n ∧ S.trail.length + n ≤ 602 ∧ S.ended = .non ∧
  ∀ m' S', RM C m0 hs cs a m' S' → LIx hs cs S' n → Q .non m'
theorem ok_turn {C f : Addr} {fd : FuncData} (B : Tx mg) (kr : RC K C) (mC : Md P w K mg base 1 C "choice" (spChoice C)) (d : MtAt K C "turn" "Runner.turn" sTurn ["self", "frame"] f fd) : Md P w K mg base 2 C "turn" (spTurn C) := by
  refine d.md (fd_of d.fn scTurn.fs (fun ds m Q h => by obtain ⟨m0, hs, cs, a, S, c, st, q, f, n, u, rfl, _⟩ := h; rfl) fun cdv A outer s H ds m Q hr hgd h => ?_)
  obtain ⟨m0, hs, cs, a, S, c, st, q, fr, n, u, rfl, hz, rm, ri, hst, hu, hn, htn, hen, h⟩ := h
  have hmem : (q, fr) ∈ S.stack := by rw [hst]; simp
  have hfr := ri.fr _ hmem
  conv in defBody _ => whnf
  refine stc scTurn 2 <| de_meth0 kr.cls mC hr hgd rfl <| v scTurn 0 rfl ⟨a.r, _, rfl, rm.r, rfl, m0, hs, cs, a, S, rfl, rm, ri.nc, fun m1 rm1 => ?_, fun ch m1 hlt rm1 => ?_⟩
  · refine if0 <| dt_cmp rfl <| v scTurn 2 rfl <| de_non <| o2_isN ⟨_, rfl, fun hc => ?_, fun hc => ?_⟩
    · refine db_one (ds_retN ⟨_, Sub.refl _, h _ _ rm1 ⟨0, by omega, c, ⟨ri.tr, ri.fr, ri.nc, ri.mkb, ri.mkl, ri.bg⟩, ?_, .inr ⟨rfl, rfl⟩⟩⟩)
      show S.trail.length + 0 ≤ 602
      omega
    · cases hc
  · refine if0 <| dt_cmp rfl <| v scTurn 2 rfl <| de_non <| o2_isN ⟨_, rfl, fun hc => ?_, fun hc => ?_⟩
    · cases hc
    have ri1 : RI hs cs { S with nc := S.nc + 1 } c := ⟨ri.tr, ri.fr, hlt, ri.mkb, ri.mkl, ri.bg⟩
    refine db_one (ds_if <| dt_cmp rfl <| de_op <| v scTurn 2 rfl <| de_int <| o2_mod (by decide) <| de_int <| o2_eqi ⟨_, rfl, fun hc => ?_, fun hc => ?_⟩)
    · refine ex1 <| de_pop <| sf scTurn kr rm1 rfl rfl ⟨a.ss, st.map (fun x => D.ref x.1), .ref q, rfl, ?_, ?_⟩
      · rw [rm1.ss]
        show some (DO.lst (S.stack.map _)) = _
        rw [hst]; simp
      have rm2 := rm1.pop hst
      have ri2 := ri_pop ri1 hst
      refine ws scTurn kr rfl <| de_tup <| da_cons <| de_str <| da_cons <| de_str <| da_nil <| tu ⟨_, { S with nc := S.nc + 1, stack := st, due := .fin (.word "done") }, rm2, rfl, rfl, rfl, rfl, fun m2 rm3 => ?_⟩
      refine db_nil ⟨_, Sub.refl _, h _ _ rm3 ⟨3 * (200 - S.bg) + st.length + 1 + 1, ?_, c, ri_due ri2 _, ?_, .inl ⟨hen, trivial, rfl⟩⟩⟩
      · rw [hst, List.length_append, List.length_singleton] at hn
        omega
      · show S.trail.length + _ ≤ 602
        rw [hst, List.length_append, List.length_singleton] at hn
        omega
    · have hpl : fr.p.length ≤ 45 := fr_len hz hfr
      refine ws scTurn kr rfl <| de_tup <| da_cons <| de_str <| da_cons <| de_op <| de_ix <| v scTurn 1 rfl <| de_int <| ox_l (.inl (rm1.fr _ hmem)) ix0 <| de_tup <| da_cons <| de_int <| da_nil <| tu <| o2_addt (sl100 (by simp; omega)) <| da_cons <| de_ix <| v scTurn 1 rfl <| de_int <| ox_l (.inl (rm1.fr _ hmem)) ix2 <| da_nil <| tu
        ⟨_, { S with nc := S.nc + 1, due := .beg (fr.p ++ [.inl ((0 : Nat) : Int)]) fr.hand }, rm1, ?_, rfl, rfl, rfl, fun m2 rm3 => ?_⟩
      · rw [show (D.tup (fr.p.map kD ++ [D.int 0])) = encPl (fr.p ++ [.inl ((0 : Nat) : Int)]) from encPl_app fr.p 0]; rfl
      · refine db_nil ⟨_, Sub.refl _, h _ _ rm3 ⟨3 * (200 - S.bg) + S.stack.length + 0 + 1, by omega, c, ri_due ri1 _, ?_, .inl ⟨hen, kid_due hfr hu (.inr rfl), rfl⟩⟩⟩
        show S.trail.length + _ ≤ 602
        omega

/-! ### ends -/
def enIs : En → Str → Bool
  | .word x, y => decide (x = y)
  | .slip _, _ => false
def enTup : En → Bool
  | .word _ => false
  | .slip _ => true
theorem keys_kin : ∀ p : List Key, kinRs (p.map kD) = true ∧ deps (p.map kD) = 0
  | [] => ⟨rfl, rfl⟩
  | .inl i :: p => by
    obtain ⟨a, b⟩ := keys_kin p
    rw [List.map_cons, kinRs, deps, a, b]; exact ⟨rfl, rfl⟩
  | .inr i :: p => by
    obtain ⟨a, b⟩ := keys_kin p
    rw [List.map_cons, kinRs, deps, a, b]; exact ⟨rfl, rfl⟩
theorem o2_eqe {X : Cx} {m : M} {Q : D → M → Prop} (e : En) (y : Str) (hu : X.A.units + 64 < cLine) (q : Q (.bl (enIs e y)) m) : O2 X (compareOp .Eq) (enD e) (.str y) m Q := by
  cases e with
  | word x => exact o2_eqs q
  | slip s =>
    refine o2_eqd hu (by rw [(keys_kin s).2]; decide) (keys_kin s).1 (fun q hq => by cases hq) ?_
    exact q
theorem ty_en {m : M} {Q : D → M → Prop} (e : En) (q : Q (.bl (enTup e)) m) : ∃ sn c, TyD m (enD e) sn ∧ kitB sn "tuple" = some c ∧ Q (.bl c) m := by
  cases e with
  | word x => exact ⟨"str", false, .str x, by decide +kernel, q⟩
  | slip s => exact ⟨"tuple", true, .tup _, by decide +kernel, q⟩
/-! ### outward -/
abbrev sOutw : Stmt := inClass (top 14) 8
theorem scOutw : Sf ["self", "frame", "end", "word"] [] ["self", "frame", "end"] (defScope sOutw) := sf_mk ⟨rfl, rfl, rfl, by decide +kernel, rfl, by decide +kernel, by decide +kernel⟩ (by decide +kernel)
def spOutw (C : Addr) : DSp := fun ds m Q => ∃ m0 hs cs a S c q f e, ds = [.ref a.r, .ref q, enD e] ∧ RM C m0 hs cs a m S ∧ RI hs cs S c ∧ m q = some (.lst (frD f)) ∧ FrOk hs c.2 f ∧ EndOk hs c e ∧ S.trail.length ≤ 1000 ∧
  ∀ m' S' c' e', RM C m0 hs cs a m' S' → RI hs cs S' c' → S'.stack = S.stack → S'.bg = S.bg → S'.ended = S.ended → S'.trail.length ≤ S.trail.length + 1 → EndOk hs c' e' → Q (enD e') m'
theorem ok_outw {C f : Addr} {fd : FuncData} (B : Tx mg) (kr : RC K C) (d : MtAt K C "outward" "Runner.outward" sOutw ["self", "frame", "end"] f fd) : Md P w K mg base 1 C "outward" (spOutw C) := by
  refine d.md (fd_of d.fn scOutw.fs (fun ds m Q h => by obtain ⟨m0, hs, cs, a, S, c, q, f, e, rfl, _⟩ := h; rfl) fun cdv A outer s H ds m Q hr hgd h => ?_)
  obtain ⟨m0, hs, cs, a, S, c, q, fr, e, rfl, rm, ri, hq, hfr, heo, htl, h⟩ := h
  have hu := u64 hr
  have hz2 : (S.trail.map stD).length < sizeLine := by rw [List.length_map]; exact Nat.lt_of_le_of_lt htl (by decide)
  conv in defBody _ => whnf
  refine stc scOutw 3 <| de_ix <| de_ix <| v scOutw 1 rfl <| de_int <| ox_l (.inl hq) ix1 <| de_int <| ox_w ?_
  refine if0 (DT.imp (Q := fun _ m1 => m1 = m) ?_ ?_)
  · refine dt_w <| dw_or <| dt_w <| dw_and <| dt_cmp rfl <| v scOutw 3 rfl <| de_str <| o2_eqs ⟨_, rfl, fun _ => ?_, fun _ => ?_⟩
    · refine dw_and1 <| dt_cmp rfl <| v scOutw 2 rfl <| de_str <| o2_eqe e "stop" hu ⟨_, rfl, fun _ => rfl, fun _ => ?_⟩
      refine dw_or1 <| dt_w <| dw_and <| dt_cmp rfl <| v scOutw 3 rfl <| de_str <| o2_eqs ⟨_, rfl, fun _ => ?_, fun _ => rfl⟩
      exact dw_and1 <| dt_cmp rfl <| v scOutw 2 rfl <| de_str <| o2_eqe e "leave" hu ⟨_, rfl, rfl⟩
    · refine ⟨fun z => Bool.noConfusion z, fun _ => ?_⟩
      refine dw_or1 <| dt_w <| dw_and <| dt_cmp rfl <| v scOutw 3 rfl <| de_str <| o2_eqs ⟨_, rfl, fun _ => ?_, fun _ => rfl⟩
      exact dw_and1 <| dt_cmp rfl <| v scOutw 2 rfl <| de_str <| o2_eqe e "leave" hu ⟨_, rfl, rfl⟩
  · rintro cc m1 rfl
    refine ⟨fun _ => rt1 (de_str ⟨_, Sub.refl _, h _ _ _ (.word "done") rm ri rfl rfl rfl (Nat.le_succ _) trivial⟩), fun _ => ?_⟩
    refine if0 <| dt_w <| dw_and <| dt_cmp rfl <| v scOutw 3 rfl <| de_str <| o2_eqs ⟨_, rfl, fun hc => ?_, fun hc => ⟨fun z => Bool.noConfusion z, fun _ => ?_⟩⟩
    · refine dw_and1 <| dt_val (fun _ => rfl) <| de_isinT B.isinstance B.tuple rfl (by decide) (by decide) <| v scOutw 2 rfl <| ty_en e ⟨_, rfl, fun ht => ?_, fun ht => ?_⟩
      · have hw := of_s .call hc
        cases e with
        | word x => cases ht
        | slip sl =>
          have hmt : IsMt hs (mW "out" fr.p sl) := .wd hfr.at_ (by rw [hw]; exact List.mem_cons_self) heo.2.2
          refine db_one (ds_expr <| de_append <| sf scOutw kr rm rfl rfl ⟨a.tt, rfl, ⟨_, rm.tt⟩, de_tup <| da_cons <| de_str <| da_cons <| de_ix <| v scOutw 1 rfl <| de_int <| ox_l (.inl hq) ix0 <| da_cons <| v scOutw 2 rfl <| da_nil <| tu ⟨_, rm.tt, hz2, ?_⟩⟩)
          exact rt1 (v scOutw 2 rfl ⟨_, Sub.refl _, h _ _ _ (.slip sl) (rm.tell (.out fr.p sl)) (ri.tell (.out fr.p sl) ⟨hmt, heo.2.1, heo.1⟩) rfl rfl rfl (by simp) heo⟩)
      · exact rt1 (v scOutw 2 rfl ⟨_, Sub.refl _, h _ _ _ e rm ri rfl rfl rfl (Nat.le_succ _) heo⟩)
    · exact rt1 (v scOutw 2 rfl ⟨_, Sub.refl _, h _ _ _ e rm ri rfl rfl rfl (Nat.le_succ _) heo⟩)
/-! ### finish -/
abbrev sFinish : Stmt := inClass (top 14) 3
theorem scFinish : Sf ["self", "end"] [] ["self", "end"] (defScope sFinish) := sf_mk ⟨rfl, rfl, rfl, by decide +kernel, rfl, by decide +kernel, by decide +kernel⟩ (by decide +kernel)
def spFinish (C : Addr) : DSp := fun ds m Q => ∃ m0 hs cs a S c e n, ds = [.ref a.r, enD e] ∧ RM C m0 hs cs a m S ∧ RI hs cs S c ∧ EndOk hs c e ∧ S.trail.length + n ≤ 602 ∧ 0 < n ∧
  ∀ m' S', RM C m0 hs cs a m' S' → LIx hs cs S' n → Q .non m'
theorem ok_finish {C f : Addr} {fd : FuncData} (B : Tx mg) (kr : RC K C) (d : MtAt K C "finish" "Runner.finish" sFinish ["self", "end"] f fd) : Md P w K mg base 1 C "finish" (spFinish C) := by
  refine d.md (fd_of d.fn scFinish.fs (fun ds m Q h => by obtain ⟨m0, hs, cs, a, S, c, e, n, rfl, _⟩ := h; rfl) fun cdv A outer s H ds m Q hr hgd h => ?_)
  obtain ⟨m0, hs, cs, a, S, c, e, n, rfl, rm, ri, heo, htl, hn, h⟩ := h
  have hz2 : (S.trail.map stD).length < sizeLine := by rw [List.length_map]; exact Nat.lt_of_le_of_lt (show _ ≤ 602 by omega) (by decide)
  conv in defBody _ => whnf
  refine db_one (ds_if <| dt_val (fun _ => rfl) <| de_isinT B.isinstance B.tuple rfl (by decide) (by decide) <| v scFinish 1 rfl <| ty_en e ⟨_, rfl, fun ht => ?_, fun ht => ?_⟩)
  · cases e with
    | word x => cases ht
    | slip sl =>
      refine ex1 <| de_append <| sf scFinish kr rm rfl rfl ⟨a.tt, rfl, ⟨_, rm.tt⟩, de_tup <| da_cons <| de_str <| da_cons <| v scFinish 1 rfl <| da_nil <| tu ⟨_, rm.tt, hz2, ?_⟩⟩
      have ri1 := ri.tell (.fin sl) ⟨heo.2.2, heo.2.1, heo.1⟩
      have rm1 := rm.tell (.fin sl)
      refine ws scFinish kr rfl <| de_tup <| da_cons <| de_str <| da_cons <| v scFinish 1 rfl <| da_nil <| tu ⟨_, { S with trail := S.trail ++ [.fin sl], ended := .tup [.str "slip", encPl sl] }, rm1, rfl, rfl, rfl, rfl, fun m2 rm2 => ?_⟩
      refine db_nil ⟨_, Sub.refl _, h _ _ rm2 ⟨0, hn, _, ⟨ri1.tr, ri1.fr, ri1.nc, ri1.mkb, ri1.mkl, ri1.bg⟩, ?_, .inr ⟨rfl, rfl⟩⟩⟩
      show (S.trail ++ [Stp.fin sl]).length + 0 ≤ 602
      rw [List.length_append, List.length_singleton]; omega
  · refine ws scFinish kr rfl <| de_tup <| da_cons <| de_str <| da_nil <| tu ⟨S, { S with ended := .tup [.str "done"] }, rm, rfl, rfl, rfl, rfl, fun m2 rm2 => ?_⟩
    refine db_nil ⟨_, Sub.refl _, h _ _ rm2 ⟨0, hn, c, ⟨ri.tr, ri.fr, ri.nc, ri.mkb, ri.mkl, ri.bg⟩, ?_, .inr ⟨rfl, rfl⟩⟩⟩
    show S.trail.length + 0 ≤ 602
    omega
end
end SC

set_option maxHeartbeats 400000
/-! R5: behind_clean, behind_catch. -/
namespace SC
open PySem L2 DL
theorem ox_2 {X : Cx} {m : M} {Q : D → M → Prop} {p : Addr} {x y : D} {b : Bool} (h : m p = some (.lst [x, y])) (q : Q (if b then y else x) m) : OX X (.ref p) (.int (if b then 1 else 0)) m Q := by
  cases b with
  | true => exact ox_l (.inl h) ix1 q
  | false => exact ox_l (.inl h) ix0 q
section
variable {P : Program} {w : World} {K : PySem.W.Frag} {mg : Str → Option Value} {base : Heap}
/-! ### behind_clean -/
abbrev sClean : Stmt := inClass (top 14) 9
theorem scClean : Sf ["self", "frame", "end", "kept"] [] ["self", "frame", "end"] (defScope sClean) := sf_mk ⟨rfl, rfl, rfl, by decide +kernel, rfl, by decide +kernel, by decide +kernel⟩ (by decide +kernel)
def spClean (C : Addr) : DSp := fun ds m Q => ∃ m0 hs cs a S c st q f n e, ds = [.ref a.r, .ref q, enD e] ∧ HouseOk hs ∧ RM C m0 hs cs a m S ∧ RI hs cs S c ∧ S.stack = st ++ [(q, f)] ∧ f.t.w = .clean ∧ EndOk hs c e ∧ 3 * (200 - S.bg) + S.stack.length + 1 < n ∧ S.trail.length + n ≤ 602 ∧ S.ended = .non ∧
  ∀ m' S', RM C m0 hs cs a m' S' → LIx hs cs S' n → Q .non m'
theorem ri_top {hs : House} {cs : List Int} {S : RSt} {c : TS'} {st : List (Addr × Fr)} {q : Addr} {f f' : Fr} (h : RI hs cs S c) (e : S.stack = st ++ [(q, f)]) (hf : FrOk hs c.2 f') : RI hs cs { S with stack := st ++ [(q, f')] } c := by
  refine ⟨h.tr, fun y hy => ?_, h.nc, h.mkb, h.mkl, h.bg⟩
  rcases List.mem_append.mp hy with hy | hy
  · exact h.fr y (by rw [e]; exact List.mem_append_left _ hy)
  · obtain rfl : y = (q, f') := by simpa using hy
    exact hf
theorem ok_clean {C f : Addr} {fd : FuncData} (B : Tx mg) (kr : RC K C) (d : MtAt K C "behind_clean" "Runner.behind_clean" sClean ["self", "frame", "end"] f fd) : Md P w K mg base 1 C "behind_clean" (spClean C) := by
  refine d.md (fd_of d.fn scClean.fs (fun ds m Q h => by obtain ⟨m0, hs, cs, a, S, c, st, q, f, n, e, rfl, _⟩ := h; rfl) fun cdv A outer s H ds m Q hr hgd h => ?_)
  obtain ⟨m0, hs, cs, a, S, c, st, q, fr, n, e, rfl, hz, rm, ri, hst, hw, heo, hn, htn, hen, h⟩ := h
  have hu := u64 hr
  have hmem : (q, fr) ∈ S.stack := by rw [hst]; simp
  have hfr := ri.fr _ hmem
  have hpl : fr.p.length ≤ 45 := fr_len hz hfr
  have hok := hz.nm.sz.ok _ hfr.at_
  obtain ⟨u0, u, hks⟩ : ∃ x y, fr.t.ks = [x, y] := by
    have : fr.t.ks.length = 2 := by unfold T.okT at hok; rw [hw] at hok; exact hok
    match hh : fr.t.ks, this with
    | [x, y], _ => exact ⟨x, y, rfl⟩
  conv in defBody _ => whnf
  refine if0 <| dt_cmp rfl <| de_ix <| v scClean 1 rfl <| de_int <| ox_l (.inl (rm.fr _ hmem)) ix3 <| de_int <| o2_eqi ⟨_, rfl, fun hc => ?_, fun hc => ?_⟩
  · refine db_cons (ds_lput <| de_int <| v scClean 1 rfl <| de_int ⟨q, 3, 3, _, rfl, rfl, rm.fr _ hmem, rfl, ?_⟩)
    have rm1 := rm.top hst { fr with part := 1 }
    refine db_cons (ds_lput <| v scClean 2 rfl <| v scClean 1 rfl <| de_int ⟨q, 4, 4, _, rfl, rfl, mup_same, rfl, ?_⟩)
    have rm2 := rm1.top rfl { fr with part := 1, kept := some e }
    have hfr2 : FrOk hs c.2 { fr with part := 1, kept := some e } := ⟨hfr.at_, hfr.hand, hfr.ps, fun s es => (by
      cases es; exact heo.2), fun z => (by rw [hw] at z; cases z), fun _ _ => ⟨e, rfl⟩⟩
    have ri2 := ri_top ri hst hfr2
    have hmem2 : (q, { fr with part := 1, kept := some e }) ∈ st ++ [(q, { fr with part := 1, kept := some e })] := by simp
    have hq2 := rm2.fr _ hmem2
    refine ws scClean kr rfl <| de_tup <| da_cons <| de_str <| da_cons <| de_op <| de_ix <| v scClean 1 rfl <| de_int <| ox_l (.inl hq2) ix0 <| de_tup <| da_cons <| de_int <| da_nil <| tu <| o2_addt (sl100 (by simp; omega)) <| da_cons <| de_ix <| v scClean 1 rfl <| de_int <| ox_l (.inl hq2) ix2 <| da_nil <| tu
      ⟨_, { S with stack := st ++ [(q, { fr with part := 1, kept := some e })], due := .beg (fr.p ++ [.inl ((1 : Nat) : Int)]) fr.hand }, rm2, ?_, rfl, rfl, rfl, fun m3 rm3 => ?_⟩
    · rw [show (D.tup (fr.p.map kD ++ [D.int 1])) = encPl (fr.p ++ [.inl ((1 : Nat) : Int)]) from encPl_app fr.p 1]; rfl
    · refine db_one (ds_retN ⟨_, Sub.refl _, h _ _ rm3 ⟨3 * (200 - S.bg) + S.stack.length + 0 + 1, by omega, c, ri_due ri2 _, ?_, .inl ⟨hen, ?_, ?_⟩⟩⟩)
      · show S.trail.length + _ ≤ 602
        omega
      · exact kid_due (k := 1) (u := u) hfr (by rw [hks]; rfl) (.inl (by rw [hw]; decide))
      · show 3 * (200 - S.bg) + (st ++ [_]).length + 0 + 1 = _
        rw [hst, List.length_append, List.length_append]; rfl
  · have hp0 : fr.part ≠ 0 := fun z => by
      have := of_decide_eq_false hc
      exact this (by rw [z]; rfl)
    obtain ⟨k0, hk0⟩ := hfr.cln hw hp0
    have hq := rm.fr _ hmem
    refine ex1 <| de_pop <| sf scClean kr rm rfl rfl ⟨a.ss, st.map (fun x => D.ref x.1), .ref q, rfl, ?_, ?_⟩
    · rw [rm.ss, hst]; simp
    have rm1 := rm.pop hst
    have ri1 := ri_pop ri hst
    have hq1 : mup m a.ss (.lst (st.map fun x => D.ref x.1)) q = some (.lst (frD fr)) := by
      rw [mup_ne (rm.nt.2.2.2 _ hmem).2.2]; exact hq
    have hk : (frD fr) = [encPl fr.p, enc fr.t, hD fr.hand, .int (fr.part : Nat), enD k0] := by unfold frD; rw [hk0]; rfl
    rw [hk] at hq1
    generalize mup m a.ss (.lst (st.map fun x => D.ref x.1)) = m1 at *
    refine stc scClean 3 <| de_ix <| v scClean 1 rfl <| de_int <| ox_l (.inl hq1) (atI_nat (j := 4) rfl) ?_
    have hstl : st.length + 1 = S.stack.length := by rw [hst]; simp
    have fin : ∀ m2 S2 c2, RM C m0 hs cs a m2 S2 → RI hs cs S2 c2 → S2.stack = st → S2.bg = S.bg → S2.ended = .non → S2.trail.length ≤ S.trail.length + 1 → EndOk hs c2 (if enIs e "done" then k0 else e) →
        ∀ m3, RM C m0 hs cs a m3 { S2 with due := .fin (if enIs e "done" then k0 else e) } → Q .non m3 := fun m2 S2 c2 rm2 ri2 e1 e2 e3 e4 e5 m3 rm3 => by
      refine h _ _ rm3 ⟨3 * (200 - S.bg) + st.length + 1 + 1, by omega, c2, ri_due ri2 _, ?_, .inl ⟨e3, e5, ?_⟩⟩
      · show S2.trail.length + _ ≤ 602
        omega
      · show 3 * (200 - S2.bg) + S2.stack.length + 1 + 1 = _
        rw [e1, e2]
    refine if0 <| dt_val (fun _ => rfl) <| de_isinT B.isinstance B.tuple rfl (by decide) (by decide) <| v scClean 3 rfl <| ty_en k0 ⟨_, rfl, fun ht => ?_, fun ht => ?_⟩
    · cases k0 with
      | word x => cases ht
      | slip sl =>
        have hsk := hfr.kept sl hk0
        have hz2 : (S.trail.map stD).length < sizeLine := by rw [List.length_map]; exact Nat.lt_of_le_of_lt (show _ ≤ 602 by omega) (by decide)
        have hmt1 : IsMt hs (mW "kept" fr.p sl) := .wd hfr.at_ (by rw [hw]; exact List.mem_cons_self) hsk.2
        have hmt2 : IsMt hs (mW "lost" fr.p sl) := .wd hfr.at_ (by rw [hw]; exact List.mem_cons_of_mem _ List.mem_cons_self) hsk.2
        refine db_one (ds_expr <| de_append <| sf scClean kr rm1 rfl rfl ⟨a.tt, rfl, ⟨_, rm1.tt⟩, ?_⟩)
        refine de_tup <| da_cons <| de_ix <| de_lst <| da_cons <| de_str <| da_cons <| de_str <| da_nil <| li fun z hzn => ?_
        have rm2 := rm1.le (Sub.new (o := .lst [D.str "lost", D.str "kept"]) hzn)
        have hq2 := mup_some (o := .lst [D.str "lost", D.str "kept"]) hq1 hzn
        have hzl : mup m1 z (.lst [D.str "lost", D.str "kept"]) z = _ := mup_same
        generalize mup m1 z (.lst [D.str "lost", D.str "kept"]) = m2 at *
        refine c_int B.int <| da_cons <| de_cmp rfl <| v scClean 2 rfl <| de_str <| o2_eqe e "done" hu <| da_nil <| oc_int_b <| ox_2 hzl ?_
        refine da_cons <| de_ix <| v scClean 1 rfl <| de_int <| ox_l (.inl hq2) ix0 <| da_cons <| v scClean 3 rfl <| da_nil <| tu ⟨_, rm2.tt, hz2, ?_⟩
        obtain ⟨stp, hstp, hso, hend⟩ : ∃ stp : Stp, D.tup [if enIs e "done" = true then D.str "kept" else D.str "lost", encPl fr.p, enD (.slip sl)] = stD stp ∧ stepOk hs c stp ∧ EndOk hs (stepTo c stp) (if enIs e "done" then .slip sl else e) := by
          cases hd : enIs e "done" with
          | true => exact ⟨.kept fr.p sl, rfl, ⟨hmt1, hsk.1⟩, ⟨rfl, hsk⟩⟩
          | false => exact ⟨.lost fr.p sl, rfl, ⟨hmt2, hsk.1⟩, heo⟩
        rw [hstp]
        have rm3 := rm2.tell stp
        have ri3 := ri1.tell stp hso
        have hq3 : mup m2 a.tt (.lst (S.trail.map stD ++ [stD stp])) q = some (.lst [encPl fr.p, enc fr.t, hD fr.hand, .int (fr.part : Nat), enD (.slip sl)]) := by
          rw [mup_ne (rm.nt.2.2.2 _ hmem).2.1]; exact hq2
        generalize hm3 : mup m2 a.tt (.lst (S.trail.map stD ++ [stD stp])) = m3 at *
        refine ws (cs := cs) (m0 := m0) (hs := hs) scClean kr rfl <| de_tup <| da_cons <| de_str <| da_cons <| de_ix <| de_lst <| da_cons <| v scClean 2 rfl <| da_cons <| v scClean 3 rfl <| da_nil <| li fun y hyn => ?_
        have rm4 := rm3.le (Sub.new (o := .lst [enD e, enD (.slip sl)]) hyn)
        refine c_int B.int <| da_cons <| de_cmp rfl <| v scClean 2 rfl <| de_str <| o2_eqe e "done" hu <| da_nil <| oc_int_b <| ox_2 mup_same <| da_nil <| tu
          ⟨_, { S with stack := st, trail := S.trail ++ [stp], due := .fin (if enIs e "done" then .slip sl else e) }, rm4, ?_, rfl, rfl, rfl, fun m5 rm5 => ?_⟩
        · cases hd : enIs e "done" <;> rfl
        · exact db_nil ⟨_, Sub.refl _, fin _ _ _ rm4 ri3 rfl rfl hen (by simp) hend _ rm5⟩
    · refine ws (cs := cs) (m0 := m0) (hs := hs) scClean kr rfl <| de_tup <| da_cons <| de_str <| da_cons <| de_ix <| de_lst <| da_cons <| v scClean 2 rfl <| da_cons <| v scClean 3 rfl <| da_nil <| li fun y hyn => ?_
      have rm4 := rm1.le (Sub.new (o := .lst [enD e, enD k0]) hyn)
      refine c_int B.int <| da_cons <| de_cmp rfl <| v scClean 2 rfl <| de_str <| o2_eqe e "done" hu <| da_nil <| oc_int_b <| ox_2 mup_same <| da_nil <| tu
        ⟨_, { S with stack := st, due := .fin (if enIs e "done" then k0 else e) }, rm4, ?_, rfl, rfl, rfl, fun m5 rm5 => ?_⟩
      · cases hd : enIs e "done" <;> rfl
      · refine db_nil ⟨_, Sub.refl _, fin _ _ _ rm4 ri1 rfl rfl hen (Nat.le_succ _) ?_ _ rm5⟩
        cases k0 with
        | word x =>
          cases hd : enIs e "done" with
          | true => exact trivial
          | false => exact heo
        | slip sl => cases ht
end
end SC

set_option maxHeartbeats 400000
/-! R6: behind_catch, behind. -/
namespace SC
open PySem L2 DL
/-- what a method of the frame on top asks, and leaves -/
structure TopQ (C : Addr) (m0 : M) (hs : House) (cs : List Int) (a : RA) (m : M) (S : RSt) (c : TS') (st : List (Addr × Fr)) (q : Addr) (f : Fr) (n : Nat) (e : En) : Prop where
  hz : HouseOk hs
  rm : RM C m0 hs cs a m S
  ri : RI hs cs S c
  hst : S.stack = st ++ [(q, f)]
  eo : EndOk hs c e
  hn : 3 * (200 - S.bg) + S.stack.length + 1 < n
  tl : S.trail.length + n ≤ 602
  en : S.ended = .non
section
variable {P : Program} {w : World} {K : PySem.W.Frag} {mg : Str → Option Value} {base : Heap}
/-! ### behind_catch -/
abbrev sCatch : Stmt := inClass (top 14) 10
theorem scCatch : Sf ["self", "frame", "slip", "number"] [] ["self", "frame", "slip"] (defScope sCatch) := sf_mk ⟨rfl, rfl, rfl, by decide +kernel, rfl, by decide +kernel, by decide +kernel⟩ (by decide +kernel)
def spCatch (C : Addr) : DSp := fun ds m Q => ∃ m0 hs cs a S c st q f n sl, ds = [.ref a.r, .ref q, encPl sl] ∧ TopQ C m0 hs cs a m S c st q f n (.slip sl) ∧ f.t.w = .catch ∧
  ∀ m' S', RM C m0 hs cs a m' S' → LIx hs cs S' n → Q .non m'
theorem ok_catch {C f : Addr} {fd : FuncData} (B : Tx mg) (kr : RC K C) (cT : Cd P w K mg base 3 "taker_for" spTaker) (d : MtAt K C "behind_catch" "Runner.behind_catch" sCatch ["self", "frame", "slip"] f fd) : Md P w K mg base 4 C "behind_catch" (spCatch C) := by
  refine d.md (fd_of d.fn scCatch.fs (fun ds m Q h => by obtain ⟨m0, hs, cs, a, S, c, st, q, f, n, e, rfl, _⟩ := h; rfl) fun cdv A outer s H ds m Q hr hgd h => ?_)
  obtain ⟨m0, hs, cs, a, S, c, st, q, fr, n, sl, rfl, ⟨hz, rm, ri, hst, heo, hn, htn, hen⟩, hw, h⟩ := h
  have hmem : (q, fr) ∈ S.stack := by rw [hst]; simp
  have hfr := ri.fr _ hmem
  have hpl : fr.p.length ≤ 45 := fr_len hz hfr
  have hok := hz.nm.sz.ok _ hfr.at_
  have hq := rm.fr _ hmem
  have hz2 : (S.trail.map stD).length < sizeLine := by rw [List.length_map]; exact Nat.lt_of_le_of_lt (show _ ≤ 602 by omega) (by decide)
  have hstl : st.length + 1 = S.stack.length := by rw [hst]; simp
  conv in defBody _ => whnf
  refine stc scCatch 3 <| fc cT hr hgd (hkj := Nat.le_refl _) <| da_cons <| sf scCatch kr rm rfl rfl <| da_cons <| sf scCatch kr rm rfl rfl <| da_cons <| de_ix <| v scCatch 1 rfl <| de_int <| ox_l (.inl hq) ix1 <| da_cons <| v scCatch 2 rfl <| da_nil
    ⟨hs, a.dd, fr.t, sl, rfl, hz, rm.dd, hw, hok, heo.2.2, ?_, fun k hk => ?_⟩
  · refine db_one (ds_if <| dt_cmp rfl <| v scCatch 3 rfl <| de_non <| o2_isN ⟨_, rfl, fun _ => ?_, fun hc => (by cases hc)⟩)
    have hmt : IsMt hs (mW "by" fr.p sl) := .wd hfr.at_ (by rw [hw]; exact List.mem_cons_self) heo.2.2
    refine ex1 <| de_append <| sf scCatch kr rm rfl rfl ⟨a.tt, rfl, ⟨_, rm.tt⟩, de_tup <| da_cons <| de_str <| da_cons <| de_ix <| v scCatch 1 rfl <| de_int <| ox_l (.inl hq) ix0 <| da_cons <| v scCatch 2 rfl <| da_nil <| tu ⟨_, rm.tt, hz2, ?_⟩⟩
    have rm1 := rm.tell (.by_ fr.p sl)
    have ri1 := ri.tell (.by_ fr.p sl) ⟨hmt, heo.2.1, heo.1⟩
    refine ex1 <| de_pop <| sf scCatch kr rm1 rfl rfl ⟨a.ss, st.map (fun x => D.ref x.1), .ref q, rfl, ?_, ?_⟩
    · have := rm1.ss
      rw [show ({ S with trail := S.trail ++ [Stp.by_ fr.p sl] } : RSt).stack = st ++ [(q, fr)] from hst] at this
      rw [List.map_append] at this
      exact this
    have rm2 := rm1.pop hst
    have ri2 := ri_pop ri1 hst
    refine ws scCatch kr rfl <| de_tup <| da_cons <| de_str <| da_cons <| v scCatch 2 rfl <| da_nil <| tu ⟨_, { S with stack := st, trail := S.trail ++ [.by_ fr.p sl], due := .fin (.slip sl) }, rm2, rfl, rfl, rfl, rfl, fun m3 rm3 => ?_⟩
    refine db_nil ⟨_, Sub.refl _, h _ _ rm3 ⟨3 * (200 - S.bg) + st.length + 1 + 1, by omega, _, ri_due ri2 _, ?_, .inl ⟨hen, heo, rfl⟩⟩⟩
    show (S.trail ++ [_]).length + _ ≤ 602
    rw [List.length_append, List.length_singleton]; omega
  · refine db_one (ds_if <| dt_cmp rfl <| v scCatch 3 rfl <| de_non <| o2_isN ⟨_, rfl, fun hc => (by cases hc), fun _ => ?_⟩)
    have hmt : IsMt hs (mTake fr.p k sl) := .take hfr.at_ hk heo.2.2
    obtain ⟨u, hu⟩ : ∃ u, fr.t.ks[1 + k]? = some u := by
      unfold takes at hk
      rw [if_pos hw] at hk
      exact ⟨_, List.getElem?_eq_getElem (by omega)⟩
    refine ex1 <| de_append <| sf scCatch kr rm rfl rfl ⟨a.tt, rfl, ⟨_, rm.tt⟩, de_tup <| da_cons <| de_str <| da_cons <| de_ix <| v scCatch 1 rfl <| de_int <| ox_l (.inl hq) ix0 <| da_cons <| v scCatch 3 rfl <| da_cons <| v scCatch 2 rfl <| da_nil <| tu ⟨_, rm.tt, hz2, ?_⟩⟩
    have rm1 := rm.tell (.take fr.p k sl)
    have ri1 := ri.tell (.take fr.p k sl) ⟨hmt, heo.2.1, heo.1⟩
    have hq1 := rm1.fr _ hmem
    refine db_cons (ds_lput <| de_int <| v scCatch 1 rfl <| de_int ⟨q, 3, 3, _, rfl, rfl, hq1, rfl, ?_⟩)
    have rm2 := rm1.top hst { fr with part := 1 }
    have hfr2 : FrOk hs c.2 { fr with part := 1 } := ⟨hfr.at_, hfr.hand, hfr.ps, hfr.kept, fun z => (by rw [hw] at z; cases z), fun z => (by rw [hw] at z; cases z)⟩
    have ri2 := ri_top ri1 hst hfr2
    have hmem2 : (q, { fr with part := 1 }) ∈ st ++ [(q, { fr with part := 1 })] := by simp
    have hq2 := rm2.fr _ hmem2
    refine ws scCatch kr rfl <| de_tup <| da_cons <| de_str <| da_cons <| de_op <| de_ix <| v scCatch 1 rfl <| de_int <| ox_l (.inl hq2) ix0 <| de_tup <| da_cons <| de_op <| de_int <| v scCatch 3 rfl <| o2_add <| da_nil <| tu <| o2_addt (sl100 (by simp; omega)) <| da_cons <| v scCatch 2 rfl <| da_nil <| tu
      ⟨_, { S with stack := st ++ [(q, { fr with part := 1 })], trail := S.trail ++ [.take fr.p k sl], due := .beg (fr.p ++ [.inl ((1 + k : Nat) : Int)]) (some sl) }, rm2, ?_, rfl, rfl, rfl, fun m3 rm3 => ?_⟩
    · rw [show (D.tup (fr.p.map kD ++ [D.int (1 + (k : Int))])) = encPl (fr.p ++ [.inl ((1 + k : Nat) : Int)]) from by rw [encPl_app]; congr 3]; rfl
    · refine db_nil ⟨_, Sub.refl _, h _ _ rm3 ⟨3 * (200 - S.bg) + S.stack.length + 0 + 1, by omega, _, ri_due ri2 _, ?_, .inl ⟨hen, ⟨fun s es => ?_, u, walk_kid hfr.at_ hu, ps_taker hfr.ps hu⟩, ?_⟩⟩⟩
      · show (S.trail ++ [_]).length + _ ≤ 602
        rw [List.length_append, List.length_singleton]; omega
      · cases es; exact heo.2
      · show 3 * (200 - S.bg) + (st ++ [_]).length + 0 + 1 = _
        rw [hst, List.length_append, List.length_append]; rfl
/-! ### behind -/
abbrev sBehind : Stmt := inClass (top 14) 7
theorem scBehind : Sf ["self", "frame", "end", "word"] [] ["self", "frame", "end"] (defScope sBehind) := sf_mk ⟨rfl, rfl, rfl, by decide +kernel, rfl, by decide +kernel, by decide +kernel⟩ (by decide +kernel)
def spBehind (C : Addr) : DSp := fun ds m Q => ∃ m0 hs cs a S c st q f n e, ds = [.ref a.r, .ref q, enD e] ∧ TopQ C m0 hs cs a m S c st q f n e ∧
  ∀ m' S', RM C m0 hs cs a m' S' → LIx hs cs S' n → Q .non m'
theorem row_len {t : T} (hw : t.w = .row) : ((D.str t.w.s :: t.tl).length : Int) - 1 = (t.ks.length : Nat) := by
  have e : t.tl = t.ks.map enc := by unfold T.tl; rw [hw]; rfl
  rw [e, List.length_cons, List.length_map]; omega
theorem ok_behind {C f : Addr} {fd : FuncData} (B : Tx mg) (kr : RC K C) (mT : Md P w K mg base 2 C "turn" (spTurn C)) (mL : Md P w K mg base 1 C "behind_clean" (spClean C)) (mC : Md P w K mg base 4 C "behind_catch" (spCatch C)) (mO : Md P w K mg base 1 C "outward" (spOutw C))
    (d : MtAt K C "behind" "Runner.behind" sBehind ["self", "frame", "end"] f fd) : Md P w K mg base 5 C "behind" (spBehind C) := by
  refine d.md (fd_of d.fn scBehind.fs (fun ds m Q h => by obtain ⟨m0, hs, cs, a, S, c, st, q, f, n, e, rfl, _⟩ := h; rfl) fun cdv A outer s H ds m Q hr hgd h => ?_)
  obtain ⟨m0, hs, cs, a, S, c, st, q, fr, n, e, rfl, tq, h⟩ := h
  have ⟨hz, rm, ri, hst, heo, hn, htn, hen⟩ := tq
  have hu := u64 hr
  have hmem : (q, fr) ∈ S.stack := by rw [hst]; simp
  have hfr := ri.fr _ hmem
  have hpl : fr.p.length ≤ 45 := fr_len hz hfr
  have hok := hz.nm.sz.ok _ hfr.at_
  have hq := rm.fr _ hmem
  have hstl : st.length + 1 = S.stack.length := by rw [hst]; simp
  conv in defBody _ => whnf
  refine stc scBehind 3 <| de_ix <| de_ix <| v scBehind 1 rfl <| de_int <| ox_l (.inl hq) ix1 <| de_int <| ox_w ?_
  refine db_one (ds_if (DT.imp (Q := fun b m1 => m = m1 ∧ (b = true → fr.t.w = .row ∧ fr.part + 1 < fr.t.ks.length)) ?_ ?_))
  · refine dt_w <| dw_and <| dt_cmp rfl <| v scBehind 3 rfl <| de_str <| o2_eqs ⟨_, rfl, fun h1 => ?_, fun _ => ⟨rfl, fun z => Bool.noConfusion z⟩⟩
    have hw := of_s .row h1
    refine dw_and <| dt_cmp rfl <| v scBehind 2 rfl <| de_str <| o2_eqe e "done" hu ⟨_, rfl, fun _ => ?_, fun _ => ⟨rfl, fun z => Bool.noConfusion z⟩⟩
    refine dw_and1 <| dt_cmp rfl <| de_op <| de_ix <| v scBehind 1 rfl <| de_int <| ox_l (.inl hq) ix3 <| de_int <| o2_add <| de_op <| c_len B.len <| da_cons <| de_ix <| v scBehind 1 rfl <| de_int <| ox_l (.inl hq) ix1 <| da_nil <| oc_lene <| de_int <| o2_sub ?_
    rw [row_len hw]
    refine o2_lt ⟨_, rfl, rfl, fun z => ⟨hw, ?_⟩⟩
    have h9 : (fr.part : Int) + 1 < (fr.t.ks.length : Nat) := of_decide_eq_true z
    omega
  rintro b m1 ⟨rfl, hb⟩
  refine ⟨fun hbt => ?_, fun _ => ?_⟩
  · obtain ⟨hw, hlt⟩ := hb hbt
    obtain ⟨u, hu2⟩ : ∃ u, fr.t.ks[fr.part + 1]? = some u := ⟨_, List.getElem?_eq_getElem hlt⟩
    refine db_cons (ds_lput <| de_op <| de_ix <| v scBehind 1 rfl <| de_int <| ox_l (.inl hq) ix3 <| de_int <| o2_add <| v scBehind 1 rfl <| de_int ⟨q, 3, 3, _, rfl, rfl, hq, rfl, ?_⟩)
    have rm2 := rm.top hst { fr with part := fr.part + 1 }
    have hfr2 : FrOk hs c.2 { fr with part := fr.part + 1 } := ⟨hfr.at_, hfr.hand, hfr.ps, hfr.kept, fun _ => hlt, fun z => (by rw [hw] at z; cases z)⟩
    have ri2 := ri_top ri hst hfr2
    have hmem2 : (q, { fr with part := fr.part + 1 }) ∈ st ++ [(q, { fr with part := fr.part + 1 })] := by simp
    have hq2 := rm2.fr _ hmem2
    refine ws scBehind kr rfl <| de_tup <| da_cons <| de_str <| da_cons <| de_op <| de_ix <| v scBehind 1 rfl <| de_int <| ox_l (.inl hq2) ix0 <| de_tup <| da_cons <| de_ix <| v scBehind 1 rfl <| de_int <| ox_l (.inl hq2) ix3 <| da_nil <| tu <| o2_addt (sl100 (by simp; omega)) <| da_cons <| de_ix <| v scBehind 1 rfl <| de_int <| ox_l (.inl hq2) ix2 <| da_nil <| tu
      ⟨_, { S with stack := st ++ [(q, { fr with part := fr.part + 1 })], due := .beg (fr.p ++ [.inl ((fr.part + 1 : Nat) : Int)]) fr.hand }, rm2, ?_, rfl, rfl, rfl, fun m3 rm3 => ?_⟩
    · rw [show (D.tup (fr.p.map kD ++ [D.int ((fr.part + 1 : Nat) : Int)])) = encPl (fr.p ++ [.inl ((fr.part + 1 : Nat) : Int)]) from encPl_app fr.p _]; rfl
    · refine db_nil ⟨_, Sub.refl _, h _ _ rm3 ⟨3 * (200 - S.bg) + S.stack.length + 0 + 1, by omega, c, ri_due ri2 _, ?_, .inl ⟨hen, kid_due hfr hu2 (.inl (by rw [hw]; decide)), ?_⟩⟩⟩
      · show S.trail.length + _ ≤ 602
        omega
      · show 3 * (200 - S.bg) + (st ++ [_]).length + 0 + 1 = _
        rw [hst, List.length_append, List.length_append]; rfl
  refine db_one (ds_if (DT.imp (Q := fun b m1 => m = m1 ∧ (b = true → fr.t.w = .again)) ?_ ?_))
  · refine dt_w <| dw_and <| dt_cmp rfl <| v scBehind 3 rfl <| de_str <| o2_eqs ⟨_, rfl, fun h1 => ?_, fun _ => ⟨rfl, fun z => Bool.noConfusion z⟩⟩
    exact dw_and1 <| dt_cmp rfl <| v scBehind 2 rfl <| de_str <| o2_eqe e "done" hu ⟨_, rfl, rfl, fun _ => of_s .again h1⟩
  rintro b m1 ⟨rfl, hb⟩
  refine ⟨fun hbt => ?_, fun _ => ?_⟩
  · have hw := hb hbt
    obtain ⟨u, hu2⟩ : ∃ u, fr.t.ks[0]? = some u := by
      have : fr.t.ks.length = 1 := by unfold T.okT at hok; rw [hw] at hok; exact hok
      exact ⟨_, List.getElem?_eq_getElem (by omega)⟩
    exact (ex1 <| de_meth kr.cls mT (hr.mono (by decide)) hgd rfl <| v scBehind 0 rfl ⟨a.r, _, rfl, rm.r, rfl, da_cons <| v scBehind 1 rfl <| da_nil ⟨m0, hs, cs, a, S, c, st, q, fr, n, u, rfl, hz, rm, ri, hst, hu2, hn, htn, hen, fun m' S' rm' li => db_nil ⟨_, Sub.refl _, h _ _ rm' li⟩⟩⟩)
  refine db_one (ds_if <| dt_cmp rfl <| v scBehind 3 rfl <| de_str <| o2_eqs ⟨_, rfl, fun h1 => ?_, fun _ => ?_⟩)
  · have hw := of_s .clean h1
    exact (ex1 <| de_meth kr.cls mL (hr.mono (by decide)) hgd rfl <| v scBehind 0 rfl ⟨a.r, _, rfl, rm.r, rfl, da_cons <| v scBehind 1 rfl <| da_cons <| v scBehind 2 rfl <| da_nil ⟨m0, hs, cs, a, S, c, st, q, fr, n, e, rfl, hz, rm, ri, hst, hw, heo, hn, htn, hen, fun m' S' rm' li => db_nil ⟨_, Sub.refl _, h _ _ rm' li⟩⟩⟩)
  refine db_one (ds_if (DT.imp (Q := fun b m1 => m = m1 ∧ (b = true → fr.t.w = .catch ∧ ∃ sl, e = .slip sl)) ?_ ?_))
  · refine dt_w <| dw_and <| dt_cmp rfl <| v scBehind 3 rfl <| de_str <| o2_eqs ⟨_, rfl, fun h1 => ?_, fun _ => ⟨rfl, fun z => Bool.noConfusion z⟩⟩
    refine dw_and <| dt_cmp rfl <| de_ix <| v scBehind 1 rfl <| de_int <| ox_l (.inl hq) ix3 <| de_int <| o2_eqi ⟨_, rfl, fun _ => ?_, fun _ => ⟨rfl, fun z => Bool.noConfusion z⟩⟩
    refine dw_and1 <| dt_val (fun _ => rfl) <| de_isinT B.isinstance B.tuple rfl (by decide) (by decide) <| v scBehind 2 rfl <| ty_en e ⟨_, rfl, rfl, fun ht => ⟨of_s .catch h1, ?_⟩⟩
    cases e with
    | word x => cases ht
    | slip sl => exact ⟨sl, rfl⟩
  rintro b m1 ⟨rfl, hb⟩
  refine ⟨fun hbt => ?_, fun _ => ?_⟩
  · obtain ⟨hw, sl, rfl⟩ := hb hbt
    exact (ex1 <| de_meth kr.cls mC (hr.mono (by decide)) hgd rfl <| v scBehind 0 rfl ⟨a.r, _, rfl, rm.r, rfl, da_cons <| v scBehind 1 rfl <| da_cons <| v scBehind 2 rfl <| da_nil ⟨m0, hs, cs, a, S, c, st, q, fr, n, sl, rfl, tq, hw, fun m' S' rm' li => db_nil ⟨_, Sub.refl _, h _ _ rm' li⟩⟩⟩)
  · refine ex1 <| de_pop <| sf scBehind kr rm rfl rfl ⟨a.ss, st.map (fun x => D.ref x.1), .ref q, rfl, ?_, ?_⟩
    · rw [rm.ss, hst]; simp
    have rm1 := rm.pop hst
    have ri1 := ri_pop ri hst
    have hq1 : mup m a.ss (.lst (st.map fun x => D.ref x.1)) q = some (.lst (frD fr)) := by
      rw [mup_ne (rm.nt.2.2.2 _ hmem).2.2]; exact hq
    refine ws (cs := cs) (m0 := m0) (hs := hs) scBehind kr rfl <| de_tup <| da_cons <| de_str <| da_cons <| de_meth kr.cls mO (hr.mono (by decide)) hgd rfl <| v scBehind 0 rfl ⟨a.r, _, rfl, rm1.r, rfl, da_cons <| v scBehind 1 rfl <| da_cons <| v scBehind 2 rfl <| da_nil
      ⟨m0, hs, cs, a, { S with stack := st }, c, q, fr, e, rfl, rm1, ri1, hq1, hfr, heo, show S.trail.length ≤ 1000 by omega, fun m' S' c' e' rm' ri' e1 e2 e3 e4 eo' => ?_⟩⟩
    refine da_nil <| tu ⟨S', { S' with due := .fin e' }, rm', rfl, rfl, rfl, rfl, fun m3 rm3 => ?_⟩
    refine db_nil ⟨_, Sub.refl _, h _ _ rm3 ⟨3 * (200 - S.bg) + st.length + 1 + 1, by omega, c', ri_due ri' _, ?_, .inl ⟨e3.trans hen, eo', ?_⟩⟩⟩
    · have e5 : S'.trail.length ≤ S.trail.length + 1 := e4
      show S'.trail.length + _ ≤ 602
      omega
    · show 3 * (200 - S'.bg) + S'.stack.length + 1 + 1 = _
      rw [e1, e2]
end
end SC

set_option maxHeartbeats 400000
/-! R7: start. -/
namespace SC
open PySem L2 DL
section
variable {P : Program} {w : World} {K : PySem.W.Frag} {mg : Str → Option Value} {base : Heap}
/-- two ways come together -/
theorem db_join {X : Cx} {st : Stmt} {sts : List Stmt} {Γ : G} {m : M} {E : DEnds} (W : G → M → Prop) (h : DS X st Γ m { E with nx := W }) (k : ∀ Γ' m', W Γ' m' → DB X sts Γ' m' E) : DB X (st :: sts) Γ m E :=
  db_cons (h.imp k (fun _ _ q => q) (fun _ _ q => q) (fun _ _ q => q))
/-- deed[1] -/
theorem ox_e1 {X : Cx} {m : M} {Q : D → M → Prop} {t : T} {y : D} {l : List D} (h : t.tl = y :: l) (q : Q y m) : OX X (enc t) (.int 1) m Q := by rw [enc_tl, h]; exact ox_t ix1 q
abbrev sStart : Stmt := inClass (top 14) 4
theorem scStart : Sf ["self", "place", "hand", "deed", "part"] [] ["self", "place", "hand"] (defScope sStart) := sf_mk ⟨rfl, rfl, rfl, by decide +kernel, rfl, by decide +kernel, by decide +kernel⟩ (by decide +kernel)
def spStart (C : Addr) : DSp := fun ds m Q => ∃ m0 hs cs a S c p t hand n, ds = [.ref a.r, encPl p, hD hand] ∧ HouseOk hs ∧ RM C m0 hs cs a m S ∧ RI hs cs S c ∧ HandOk hs c.2 hand ∧ (p, t) ∈ walkH hs ∧ psOk hand.isSome t = true ∧ 3 * (200 - S.bg) + S.stack.length + 1 = n ∧ S.trail.length + n ≤ 602 ∧ S.ended = .non ∧
  ∀ m' S', RM C m0 hs cs a m' S' → LIx hs cs S' n → Q .non m'
theorem ok_start {C f : Addr} {fd : FuncData} (B : Tx mg) (kr : RC K C) (cP : Cd P w K mg base 1 "parts_of" spParts) (mL : Md P w K mg base 1 C "leaf" (spLeaf C)) (mC : Md P w K mg base 1 C "choice" (spChoice C)) (mT : Md P w K mg base 2 C "turn" (spTurn C))
    (d : MtAt K C "start" "Runner.start" sStart ["self", "place", "hand"] f fd) : Md P w K mg base 3 C "start" (spStart C) := by
  refine d.md (fd_of d.fn scStart.fs (fun ds m Q h => by obtain ⟨m0, hs, cs, a, S, c, p, t, hand, n, rfl, _⟩ := h; rfl) fun cdv A outer s H ds m Q hr hgd h => ?_)
  obtain ⟨m0, hs, cs, a, S, c, p, t, hand, n, rfl, hz, rm, ri, hho, hpt, hps, hn, htn, hen, h⟩ := h
  have hok := hz.nm.sz.ok _ hpt
  have hk44 := hz.nm.sz.kid hpt
  have hbg := ri.bg
  conv in defBody _ => whnf
  refine if0 <| dt_cmp rfl <| sf scStart kr rm rfl rfl <| sf scStart kr rm rfl rfl <| o2_eqi ⟨_, rfl, fun hc => ?_, fun hc => ?_⟩
  · refine ws scStart kr rfl <| de_tup <| da_cons <| de_str <| da_nil <| tu ⟨S, { S with ended := .tup [.str "long"] }, rm, rfl, rfl, rfl, rfl, fun m2 rm2 => ?_⟩
    refine db_one (ds_retN ⟨_, Sub.refl _, h _ _ rm2 ⟨0, by omega, c, ⟨ri.tr, ri.fr, ri.nc, ri.mkb, ri.mkl, ri.bg⟩, ?_, .inr ⟨rfl, rfl⟩⟩⟩)
    show S.trail.length + 0 ≤ 602
    omega
  have hb2 : S.bg < 200 := by
    have h9 : ¬ (S.bg : Int) = 200 := of_decide_eq_false hc
    omega
  refine ws scStart kr rfl <| de_op <| sf scStart kr rm rfl rfl <| de_int <| o2_add ⟨S, { S with bg := S.bg + 1 }, rm, rfl, rfl, rfl, rfl, fun m1 rm1 => ?_⟩
  have ri1 : RI hs cs { S with bg := S.bg + 1 } c := ⟨ri.tr, ri.fr, ri.nc, ri.mkb, Nat.le_succ_of_le ri.mkl, hb2⟩
  refine stc scStart 3 <| de_dget (u1 hr) <| sf scStart kr rm1 rfl rfl <| v scStart 1 rfl ⟨a.dd, enc t, rfl, ?_, ?_⟩
  · have := DG1.t (m := m1) (ks := p) rm1.dd
    rw [hz.deeds hpt] at this
    exact this
  refine if0 (DT.imp (Q := fun b m2 => RM C m0 hs cs a m2 { S with bg := S.bg + 1 } ∧ (b = true → t.ks = [] ∧ t.w ≠ .call) ∧ (b = false → t.ks ≠ [] ∨ t.w = .call)) ?_ ?_)
  · refine dt_w <| dw_and <| dt_cmp rfl <| fc cP hr hgd (hkj := by decide) <| da_cons <| v scStart 3 rfl <| da_nil ⟨t, rfl, hok, by simp at hk44; omega, fun y hy => ?_⟩
    have rm2 := rm1.le (Sub.new (o := .lst (t.ks.map enc)) hy)
    have hyl : mup m1 y (.lst (t.ks.map enc)) y = _ := mup_same
    generalize mup m1 y (.lst (t.ks.map enc)) = m2 at *
    refine de_lst <| da_nil <| li fun z hzn => o2_eqnil (u1 hr) (mup_some hyl hzn) mup_same ⟨_, rfl, fun h1 => ?_, fun h1 => ?_⟩
    · have hk0 : t.ks = [] := by
        cases hks : t.ks with
        | nil => rfl
        | cons x l => rw [hks] at h1; cases h1
      refine dw_and1 <| dt_cmp rfl <| de_ix <| v scStart 3 rfl <| de_int <| ox_w <| de_str <| o2_nes ⟨_, rfl, rm2.le (Sub.new hzn), fun h2 => ⟨hk0, of_nn .call h2⟩, fun h2 => .inr (of_nnF .call h2)⟩
    · refine ⟨rm2.le (Sub.new hzn), fun z => Bool.noConfusion z, fun _ => .inl fun e => ?_⟩
      rw [e] at h1; cases h1
  rintro b m2 ⟨rm2, hbt, hbf⟩
  clear rm1 rm
  refine ⟨fun e => ?_, fun e => ?_⟩
  · obtain ⟨hk0, hwc⟩ := hbt e
    refine ws (cs := cs) (m0 := m0) (hs := hs) scStart kr rfl <| de_tup <| da_cons <| de_str <| da_cons <| de_meth kr.cls mL (hr.mono (by decide)) hgd rfl <| v scStart 0 rfl ⟨a.r, _, rfl, rm2.r, rfl, da_cons <| v scStart 1 rfl <| da_cons <| v scStart 3 rfl <| da_cons <| v scStart 2 rfl <| da_nil
      ⟨m0, hs, cs, a, { S with bg := S.bg + 1 }, c, p, t, hand, rfl, rm2, ri1, Nat.lt_succ_of_le ri.mkl, show S.trail.length ≤ 1000 by omega, hho, hpt, hps, hok, hk0, hwc, fun m' S' c' e' rm' ri' e1 e2 e3 e4 eo' => ?_⟩⟩
    refine da_nil <| tu ⟨S', { S' with due := .fin e' }, rm', rfl, rfl, rfl, rfl, fun m3 rm3 => ?_⟩
    refine db_one (ds_retN ⟨_, Sub.refl _, h _ _ rm3 ⟨3 * (200 - (S.bg + 1)) + S.stack.length + 1 + 1, by omega, c', ri_due ri' _, ?_, .inl ⟨e3.trans hen, eo', ?_⟩⟩⟩)
    · have e5 : S'.trail.length ≤ S.trail.length + 1 := e4
      show S'.trail.length + _ ≤ 602
      omega
    · show 3 * (200 - S'.bg) + S'.stack.length + 1 + 1 = _
      rw [e1, e2]
  have hkw := hbf e
  clear hbt hbf
  refine stc scStart 4 <| de_int ?_
  refine db_join (fun Γ' m' => ∃ S' k, Γ' = [some (.ref a.r), some (encPl p), some (hD hand), some (enc t), some (.int (k : Nat))] ∧ RM C m0 hs cs a m' S' ∧ RI hs cs S' c ∧ S'.bg = S.bg + 1 ∧ S'.stack = S.stack ∧ S'.trail = S.trail ∧ S'.ended = .non ∧ (t.w ≠ .pick → k = 0) ∧ (t.w ≠ .call → k < t.ks.length)) (ds_if <| dt_cmp rfl <| de_ix <| v scStart 3 rfl <| de_int <| ox_w <| de_str <| o2_eqs ⟨_, rfl, fun h1 => ?_, fun h1 => ?_⟩) fun Γ' m' hW => ?_
  · have hw := of_s .pick h1
    have hkl : 0 < t.ks.length := by
      have : t.ks ≠ [] := by unfold T.okT at hok; rw [hw] at hok; exact hok
      exact List.length_pos_iff.mpr this
    refine stc scStart 4 <| de_meth0 kr.cls mC (hr.mono (by decide)) hgd rfl <| v scStart 0 rfl ⟨a.r, _, rfl, rm2.r, rfl, m0, hs, cs, a, _, rfl, rm2, ri.nc, fun m3 rm3 => ?_, fun ch m3 hlt rm3 => ?_⟩
    · refine if0 <| dt_cmp rfl <| v scStart 4 rfl <| de_non <| o2_isN ⟨_, rfl, fun _ => ?_, fun hc => (by cases hc)⟩
      refine db_one (ds_retN ⟨_, Sub.refl _, h _ _ rm3 ⟨0, by omega, c, ⟨ri.tr, ri.fr, ri.nc, ri.mkb, Nat.le_succ_of_le ri.mkl, hb2⟩, ?_, .inr ⟨rfl, rfl⟩⟩⟩)
      show S.trail.length + 0 ≤ 602
      omega
    · refine if0 <| dt_cmp rfl <| v scStart 4 rfl <| de_non <| o2_isN ⟨_, rfl, fun hc => (by cases hc), fun _ => ?_⟩
      refine db_one (st scStart 4 <| de_op <| v scStart 4 rfl <| de_op <| c_len B.len <| da_cons <| v scStart 3 rfl <| da_nil <| oc_lene <| de_int <| o2_sub ?_)
      have e5 : t.tl = t.ks.map enc := by unfold T.tl; rw [hw]; rfl
      rw [show ((D.str t.w.s :: t.tl).length : Int) - 1 = (t.ks.length : Nat) by rw [e5, List.length_cons, List.length_map]; omega]
      refine o2_mod (by omega) ?_
      have hm1 := Int.emod_nonneg ch (show ((t.ks.length : Nat) : Int) ≠ 0 by omega)
      have hm2 := Int.emod_lt_of_pos ch (show (0 : Int) < (t.ks.length : Nat) by omega)
      refine ⟨{ S with bg := S.bg + 1, nc := S.nc + 1 }, (ch % (t.ks.length : Nat)).toNat, ?_, rm3, ⟨ri.tr, ri.fr, hlt, ri.mkb, Nat.le_succ_of_le ri.mkl, hb2⟩, rfl, rfl, rfl, hen, fun z => absurd hw z, fun _ => by omega⟩
      rw [Int.toNat_of_nonneg hm1]; rfl
  · refine db_nil ⟨{ S with bg := S.bg + 1 }, 0, rfl, rm2, ri1, rfl, rfl, rfl, hen, fun _ => rfl, fun z => ?_⟩
    rcases hkw with hkw | hkw
    · exact List.length_pos_iff.mpr hkw
    · exact absurd hkw z
  obtain ⟨S1, k, rfl, rm3, ri3, eb, es, et, ee, hk0, hkl⟩ := hW
  clear rm2 ri1
  refine db_join (fun Γ' m' => ∃ k, Γ' = [some (.ref a.r), some (encPl p), some (hD hand), some (enc t), some (.int (k : Nat))] ∧ RM C m0 hs cs a m' S1 ∧ (t.w = .catch → k = 0) ∧ (t.w ≠ .call → k < t.ks.length)) (ds_if <| dt_cmp rfl <| de_ix <| v scStart 3 rfl <| de_int <| ox_w <| de_str <| o2_eqs ⟨_, rfl, fun h1 => ?_, fun h1 => ?_⟩) fun Γ' m' hW => ?_
  · have hw := of_s .when h1
    have hk2 : t.ks.length = 2 := by unfold T.okT at hok; rw [hw] at hok; exact hok
    have e5 : t.tl = .str t.a :: t.ks.map enc := by unfold T.tl; rw [hw]; rfl
    refine db_one (st scStart 4 ?_)
    refine c_int B.int <| da_cons <| de_not ?_
    refine de_get2 ?_ ?_ ?_
    · exact u1 hr
    · exact ⟨rfl, rfl, rfl, rfl⟩
    refine sf scStart kr rm3 rfl rfl ⟨a.mm, rfl, ⟨_, rm3.mm, .inl ⟨_, rfl⟩⟩, de_ix <| v scStart 3 rfl <| de_int ?_⟩
    rw [enc_tl, e5]
    refine ox_t ix1 <| de_bl ⟨_, DG1.s rm3.mm, ?_⟩
    obtain ⟨b, hb⟩ : ∃ b, (valD S1.marks (.inr t.a)).getD (.bl false) = .bl b := by
      cases hv : valD S1.marks (.inr t.a) with
      | none => exact ⟨false, rfl⟩
      | some v2 =>
        obtain ⟨x, hx, rfl⟩ := valD_some hv
        obtain ⟨b, hb⟩ := ri3.mkb x hx
        exact ⟨b, hb⟩
    rw [hb]
    refine ⟨b, rfl, da_nil <| oc_int_b ⟨if (!b) = true then 1 else 0, ?_, rm3, fun z => (by rw [hw] at z; cases z), fun _ => ?_⟩⟩
    · rw [← e5, ← enc_tl]
      cases b <;> rfl
    · rw [hk2]; split <;> decide
  · exact db_nil ⟨k, rfl, rm3, fun z => hk0 (by rw [z]; decide), hkl⟩
  clear hk0 hkl rm3
  obtain ⟨k, rfl, rm3, hk0, hkl⟩ := hW
  have hsl : S.stack.length ≤ 602 := by omega
  refine ex1 <| de_append <| sf scStart kr rm3 rfl rfl ⟨a.ss, rfl, ⟨_, rm3.ss⟩, de_lst <| da_cons <| v scStart 1 rfl <| da_cons <| v scStart 3 rfl <| da_cons <| v scStart 2 rfl <| da_cons <| de_int <| da_cons <| de_non <| da_nil <| li fun q hq => ⟨_, mup_some rm3.ss hq, ?_, ?_⟩⟩
  · rw [List.length_map, es]; exact Nat.lt_of_le_of_lt hsl (by decide)
  have rm4 := rm3.push hq ⟨p, t, hand, 0, none⟩
  have hf4 : FrOk hs c.2 ⟨p, t, hand, 0, none⟩ := ⟨hpt, hho, hps, fun s z => (by cases z), fun z => (by
    have hkl2 := hkl (by rw [z]; decide)
    show 0 < t.ks.length
    omega), fun _ z => absurd rfl z⟩
  have ri4 : RI hs cs { S1 with stack := S1.stack ++ [(q, ⟨p, t, hand, 0, none⟩)] } c := ⟨ri3.tr, fun y hy => by
    rcases List.mem_append.mp hy with hy | hy
    · exact ri3.fr y hy
    · obtain rfl : y = (q, ⟨p, t, hand, 0, none⟩) := by simpa using hy
      exact hf4, ri3.nc, ri3.mkb, ri3.mkl, ri3.bg⟩
  have hst4 : (S1.stack ++ [(q, (⟨p, t, hand, 0, none⟩ : Fr))]).length = S.stack.length + 1 := by rw [List.length_append, List.length_singleton, es]
  refine db_one (ds_if <| dt_cmp rfl <| de_ix <| v scStart 3 rfl <| de_int <| ox_w <| de_str <| o2_eqs ⟨_, rfl, fun h1 => ?_, fun h1 => ?_⟩)
  · have hw := of_s .again h1
    obtain ⟨u, hu2⟩ : ∃ u, t.ks[0]? = some u := by
      have : t.ks.length = 1 := by unfold T.okT at hok; rw [hw] at hok; exact hok
      exact ⟨_, List.getElem?_eq_getElem (by omega)⟩
    refine ex1 <| de_meth kr.cls mT (hr.mono (by decide)) hgd rfl <| v scStart 0 rfl ⟨a.r, _, rfl, rm4.r, rfl, da_cons <| de_ix <| sf scStart kr rm4 rfl rfl <| de_neg <| de_int ⟨1, rfl, ox_l (.inl rm4.ss) (d := .ref q) ?_ <| da_nil
      ⟨m0, hs, cs, a, _, c, S1.stack, q, ⟨p, t, hand, 0, none⟩, n, u, rfl, hz, rm4, ri4, rfl, hu2, ?_, ?_, ee, fun m' S' rm' li => db_nil ⟨_, Sub.refl _, h _ _ rm' li⟩⟩⟩⟩
    · rw [List.map_append]; exact atI_last _ _
    · show 3 * (200 - S1.bg) + (S1.stack ++ [_]).length + 1 < n
      rw [hst4, eb]; omega
    · show S1.trail.length + n ≤ 602
      rw [et]; omega
  refine db_one (ds_if <| dt_cmp rfl <| de_ix <| v scStart 3 rfl <| de_int <| ox_w <| de_str <| o2_eqs ⟨_, rfl, fun h2 => ?_, fun h2 => ?_⟩)
  · have hw := of_s .call h2
    obtain ⟨r, hr2, hra⟩ := hz.call _ hpt hw
    have hks : t.ks = [] := by unfold T.okT at hok; rw [hw] at hok; exact hok
    have etl : t.tl = [.str t.a] := by unfold T.tl; rw [hw]; rfl
    refine ws (cs := cs) (m0 := m0) (hs := hs) scStart kr rfl <| de_tup <| da_cons <| de_str <| da_cons <| de_tup <| da_cons <| de_ix <| v scStart 3 rfl <| de_int <| ox_e1 etl <| da_nil <| tu <| da_cons <| de_non <| da_nil <| tu ⟨_, { S1 with stack := S1.stack ++ [(q, ⟨p, t, hand, 0, none⟩)], due := .beg [.inr t.a] none }, rm4, rfl, rfl, rfl, rfl, fun m5 rm5 => ?_⟩
    refine db_nil ⟨_, Sub.refl _, h _ _ rm5 ⟨3 * (200 - (S.bg + 1)) + (S.stack.length + 1) + 0 + 1, by omega, c, ri_due ri4 _, ?_, .inl ⟨ee, ⟨fun s z => (by cases z), r.2, ?_, hz.ps r hr2⟩, ?_⟩⟩⟩
    · show S1.trail.length + _ ≤ 602
      rw [et]; omega
    · have := walk_room hr2
      rw [hra] at this
      exact this
    · show 3 * (200 - S1.bg) + (S1.stack ++ [_]).length + 0 + 1 = _
      rw [hst4, eb]
  · have hwc := of_ns .call h2
    have hkl2 := hkl hwc
    obtain ⟨u, hu2⟩ : ∃ u, t.ks[k]? = some u := ⟨_, List.getElem?_eq_getElem hkl2⟩
    have hpl : p.length ≤ 45 := walkT_plen hpt hz.nm.sz.each
    refine ws scStart kr rfl <| de_tup <| da_cons <| de_str <| da_cons <| de_op <| v scStart 1 rfl <| de_tup <| da_cons <| v scStart 4 rfl <| da_nil <| tu <| o2_addt (sl100 (by simp; omega)) <| da_cons <| v scStart 2 rfl <| da_nil <| tu
      ⟨_, { S1 with stack := S1.stack ++ [(q, ⟨p, t, hand, 0, none⟩)], due := .beg (p ++ [.inl (k : Int)]) hand }, rm4, ?_, rfl, rfl, rfl, fun m5 rm5 => ?_⟩
    · rw [encPl_app]; rfl
    · refine db_nil ⟨_, Sub.refl _, h _ _ rm5 ⟨3 * (200 - (S.bg + 1)) + (S.stack.length + 1) + 0 + 1, by omega, c, ri_due ri4 _, ?_, .inl ⟨ee, kid_due hf4 hu2 ?_, ?_⟩⟩⟩
      · show S1.trail.length + _ ≤ 602
        rw [et]; omega
      · by_cases hcat : t.w = .catch
        · exact .inr (hk0 hcat)
        · exact .inl hcat
      · show 3 * (200 - S1.bg) + (S1.stack ++ [_]).length + 0 + 1 = _
        rw [hst4, eb]
end
end SC

set_option maxHeartbeats 400000
/-! R8: __init__, go, run. -/
namespace SC
open PySem L2 DL
def S0 : RSt := ⟨0, 0, [], [], [], .non, .non⟩
section
variable {P : Program} {w : World} {K : PySem.W.Frag} {mg : Str → Option Value} {base : Heap}
section
variable {N ex ps : List Str} {qual : Str} {sc : Scope} {f : Addr} {cd : Value} {A : Around} {outer : List Env} {s : Shared} {H : Hp} {Γ : G} {m : M} {pos : Pos} {C q : Addr} {fs : List (Str × D)} {mB mX : M}
theorem wi (S : Sf N ex ps sc) (kr : RC K C) (fs : List (Str × D)) {x fld : Str} {e : Expr} {p1 p2 : Pos} {E : DEnds} {sts : List Stmt} (e0 : Γ[0]? = some (some (.ref q)))
    (h : DE (bx P w K mg base (N ++ ex) qual sc f cd A outer s H) e Γ m fun d m1 => ∃ mB fs', Sub (mup mB q (.ins C fs)) m1 ∧ putFD fld d fs = fs' ∧ ∀ m2, Sub (mup mB q (.ins C fs')) m2 → DB (bx P w K mg base (N ++ ex) qual sc f cd A outer s H) sts Γ m2 E)
    (hl : Nat.blt fs.length 1000 = true := by rfl) (hN : N[0]? = some x := by rfl) (hf : fld ∈ rfields := by decide +kernel)
    (hsw : swapsWith e (some (.Attribute (.Name x p1) fld p2)) pos.line (bx P w K mg base (N ++ ex) qual sc f cd A outer s H).env = pure false := by rfl) :
    DB (bx P w K mg base (N ++ ex) qual sc f cd A outer s H) (.Assign [.Attribute (.Name x p1) fld p2] e pos :: sts) Γ m E :=
  db_cons (ds_fld hsw (h.imp fun d m1 ⟨mB, fs', sb, ef, q2⟩ => SC.v S 0 e0 ⟨q, C, _, rfl, sb.at, kr.cls, kr.no fld hf, by simpa [Nat.blt_eq] using hl, q2 _ (by rw [ef]; exact sb.put)⟩ hN))
theorem jnew {z : Addr} {o u : DO} (h : Sub (mup mB q u) mX) (hz : mX z = none) : Sub (mup (mup mB z o) q u) (mup mX z o) := fun x y e => by
  by_cases hx : x = q
  · subst hx
    rw [mup_same] at e
    rw [mup_ne (mne h.at hz), ← e]; exact h.at
  · rw [mup_ne hx] at e
    by_cases hxz : x = z
    · subst hxz; rw [mup_same] at e ⊢; exact e
    · rw [mup_ne hxz] at e ⊢
      exact h x y (by rw [mup_ne hx]; exact e)
end
abbrev sInit : Stmt := inClass (top 14) 0
theorem scInit : Sf ["self", "house", "choices", "most"] [] ["self", "house", "choices", "most"] (defScope sInit) := sf_mk ⟨rfl, rfl, rfl, by decide +kernel, rfl, by decide +kernel, by decide +kernel⟩ (by decide +kernel)
def spInit (C : Addr) : DSp := fun ds m Q => ∃ m0 hs cs q cc, ds = [.ref q, encH hs, .ref cc, .int 200] ∧ HouseOk hs ∧ m0 q = none ∧ m0 cc = some (.lst (List.map D.int cs)) ∧ m = mup m0 q (.ins C []) ∧
  ∀ a m', a.r = q → RM C m0 hs cs a m' S0 → Q .non m'
theorem ok_init {C f : Addr} {fd : FuncData} (B : Tx mg) (kr : RC K C) (cD : Cd P w K mg base 3 "deeds_of" spDeeds) (d : MtAt K C "__init__" "Runner.__init__" sInit ["self", "house", "choices", "most"] f fd) : FD P w K mg base 4 f fd ["self", "house", "choices", "most"] (spInit C) := by
  refine fd_of d.fn scInit.fs (fun ds m Q h => by obtain ⟨m0, hs, cs, q, cc, rfl, _⟩ := h; rfl) fun cdv A outer s H ds m Q hr hgd h => ?_
  obtain ⟨m0, hs, cs, q, cc, rfl, hz, hq, hcc, rfl, h⟩ := h
  conv in defBody _ => whnf
  refine wi scInit kr [] rfl <| v scInit 1 rfl ⟨m0, [("house", encH hs)], Sub.refl _, rfl, fun m1 s1 => ?_⟩
  refine wi scInit kr [("house", encH hs)] rfl <| fc cD hr hgd (hkj := Nat.le_refl _) <| da_cons <| v scInit 1 rfl <| da_nil ⟨hs, rfl, hz.nm.sz, fun dd hdd => ⟨mup m0 dd (.dT (deedsH hs)), [("house", encH hs), ("deeds", .ref dd)], jnew s1 hdd, rfl, fun m2 s2 => ?_⟩⟩
  have hdd0 : m0 dd = none ∧ dd ≠ q := by
    have := mup_noneO s1 hdd
    exact ⟨(mup_none this).1, (mup_none this).2⟩
  clear hdd s1
  refine wi scInit kr [("house", encH hs), ("deeds", .ref dd)] rfl <| v scInit 2 rfl ⟨_, [("house", encH hs), ("deeds", .ref dd), ("choices", .ref cc)], s2, rfl, fun m3 s3 => ?_⟩
  refine wi scInit kr [("house", encH hs), ("deeds", .ref dd), ("choices", .ref cc)] rfl <| de_int ⟨_, [("house", encH hs), ("deeds", .ref dd), ("choices", .ref cc), ("next_choice", .int 0)], s3, rfl, fun m4 s4 => ?_⟩
  refine wi scInit kr [("house", encH hs), ("deeds", .ref dd), ("choices", .ref cc), ("next_choice", .int 0)] rfl <| v scInit 3 rfl ⟨_, [("house", encH hs), ("deeds", .ref dd), ("choices", .ref cc), ("next_choice", .int 0), ("most", .int 200)], s4, rfl, fun m5 s5 => ?_⟩
  refine wi scInit kr [("house", encH hs), ("deeds", .ref dd), ("choices", .ref cc), ("next_choice", .int 0), ("most", .int 200)] rfl <| de_int ⟨_, [("house", encH hs), ("deeds", .ref dd), ("choices", .ref cc), ("next_choice", .int 0), ("most", .int 200), ("begun", .int 0)], s5, rfl, fun m6 s6 => ?_⟩
  clear s2 s3 s4 s5
  refine wi scInit kr [("house", encH hs), ("deeds", .ref dd), ("choices", .ref cc), ("next_choice", .int 0), ("most", .int 200), ("begun", .int 0)] rfl <| de_lst <| da_nil <| li fun tt htt => ⟨_, [("house", encH hs), ("deeds", .ref dd), ("choices", .ref cc), ("next_choice", .int 0), ("most", .int 200), ("begun", .int 0), ("trail", .ref tt)], jnew s6 htt, rfl, fun m7 s7 => ?_⟩
  have ht0 := mup_noneO s6 htt
  refine wi scInit kr [("house", encH hs), ("deeds", .ref dd), ("choices", .ref cc), ("next_choice", .int 0), ("most", .int 200), ("begun", .int 0), ("trail", .ref tt)] rfl <| de_dnew fun mm hmm => ⟨_, [("house", encH hs), ("deeds", .ref dd), ("choices", .ref cc), ("next_choice", .int 0), ("most", .int 200), ("begun", .int 0), ("trail", .ref tt), ("marks", .ref mm)], jnew s7 hmm, rfl, fun m8 s8 => ?_⟩
  have hm0 := mup_noneO s7 hmm
  refine wi scInit kr [("house", encH hs), ("deeds", .ref dd), ("choices", .ref cc), ("next_choice", .int 0), ("most", .int 200), ("begun", .int 0), ("trail", .ref tt), ("marks", .ref mm)] rfl <| de_lst <| da_nil <| li fun ss hss => ⟨_, [("house", encH hs), ("deeds", .ref dd), ("choices", .ref cc), ("next_choice", .int 0), ("most", .int 200), ("begun", .int 0), ("trail", .ref tt), ("marks", .ref mm), ("stack", .ref ss)], jnew s8 hss, rfl, fun m9 s9 => ?_⟩
  have hs0 := mup_noneO s8 hss
  clear hss hmm htt s6 s7 s8
  refine wi scInit kr [("house", encH hs), ("deeds", .ref dd), ("choices", .ref cc), ("next_choice", .int 0), ("most", .int 200), ("begun", .int 0), ("trail", .ref tt), ("marks", .ref mm), ("stack", .ref ss)] rfl <| de_non ⟨_, [("house", encH hs), ("deeds", .ref dd), ("choices", .ref cc), ("next_choice", .int 0), ("most", .int 200), ("begun", .int 0), ("trail", .ref tt), ("marks", .ref mm), ("stack", .ref ss), ("due", .non)], s9, rfl, fun m10 s10 => ?_⟩
  refine wi scInit kr [("house", encH hs), ("deeds", .ref dd), ("choices", .ref cc), ("next_choice", .int 0), ("most", .int 200), ("begun", .int 0), ("trail", .ref tt), ("marks", .ref mm), ("stack", .ref ss), ("due", .non)] rfl <| de_non ⟨_, flds ⟨q, dd, cc, tt, mm, ss⟩ hs S0, s10, rfl, fun m11 s11 => ?_⟩
  clear s9 s10
  obtain ⟨ht1, htq⟩ := mup_none ht0
  obtain ⟨ht2, htd⟩ := mup_none ht1
  obtain ⟨hm1, hmq⟩ := mup_none hm0
  obtain ⟨hm2, hmt⟩ := mup_none hm1
  obtain ⟨hm3, hmd⟩ := mup_none hm2
  obtain ⟨h1, hsq⟩ := mup_none hs0
  obtain ⟨h2, hsm⟩ := mup_none h1
  obtain ⟨h3, hst⟩ := mup_none h2
  obtain ⟨h4, hsd⟩ := mup_none h3
  have hcq : cc ≠ q := mne hcc hq
  have hct : cc ≠ tt := mne hcc ht2
  have hcs : cc ≠ ss := mne hcc h4
  have hcm : cc ≠ mm := mne hcc hm3
  have hcd : cc ≠ dd := mne hcc hdd0.1
  refine db_nil ⟨_, Sub.refl _, h ⟨q, dd, cc, tt, mm, ss⟩ _ rfl ⟨s11.at, s11 _ _ ?_, s11 _ _ ?_, s11 _ _ ?_, s11 _ _ ?_, s11 _ _ ?_, fun x hx => (by cases hx), ?_, ?_, hq, ht2, hm3, h4, fun x hx => (by cases hx)⟩⟩
  · rw [mup_ne hdd0.2, mup_ne hsd.symm, mup_ne hmd.symm, mup_ne htd.symm, mup_same]
  · rw [mup_ne hcq, mup_ne hcs, mup_ne hcm, mup_ne hct, mup_ne hcd]; exact hcc
  · rw [mup_ne htq, mup_ne hst.symm, mup_ne hmt.symm, mup_same]; rfl
  · rw [mup_ne hmq, mup_ne hsm.symm, mup_same]; rfl
  · rw [mup_ne hsq, mup_same]; rfl
  · show [cc, tt, ss].Nodup
    simp [hct, hcs, hst.symm]
  · intro x o e
    refine s11 x o ?_
    rw [mup_ne (mne e hq), mup_ne (mne e h4), mup_ne (mne e hm3), mup_ne (mne e ht2), mup_ne (mne e hdd0.1)]; exact e
end
end SC

set_option maxHeartbeats 400000
/-! R9: go, run. -/
namespace SC
open PySem L2 DL
section
variable {P : Program} {w : World} {K : PySem.W.Frag} {mg : Str → Option Value} {base : Heap}
abbrev sGo : Stmt := inClass (top 14) 2
theorem scGo : Sf ["self"] [] ["self"] (defScope sGo) := sf_mk ⟨rfl, rfl, rfl, by decide +kernel, rfl, by decide +kernel, by decide +kernel⟩ (by decide +kernel)
def spGo (C : Addr) : DSp := fun ds m Q => ∃ m0 hs cs a, ds = [.ref a.r] ∧ HouseOk hs ∧ RM C m0 hs cs a m S0 ∧
  ∀ m' S c, RM C m0 hs cs a m' S → TrOk hs (none, []) S.trail c → S.trail.length ≤ 602 → Q (.tup [.ref a.tt, S.ended, .int (S.bg : Nat)]) m'
theorem front_at {hs : House} {r : Str × T} {rs : List (Str × T)} (h : hs.rooms = r :: rs) : atI (hs.rooms.map fun r => D.tup [.str r.1, enc r.2]) 0 = some (.tup [.str r.1, enc r.2]) := by rw [h]; exact ix0
theorem ok_go {C f : Addr} {fd : FuncData} (B : Tx mg) (kr : RC K C) (mS : Md P w K mg base 3 C "start" (spStart C)) (mF : Md P w K mg base 1 C "finish" (spFinish C)) (mB : Md P w K mg base 5 C "behind" (spBehind C))
    (d : MtAt K C "go" "Runner.go" sGo ["self"] f fd) : Md P w K mg base 6 C "go" (spGo C) := by
  refine d.md (fd_of d.fn scGo.fs (fun ds m Q h => by obtain ⟨m0, hs, cs, a, rfl, _⟩ := h; rfl) fun cdv A outer s H ds m Q hr hgd h => ?_)
  obtain ⟨m0, hs, cs, a, rfl, hz, rm, h⟩ := h
  obtain ⟨r, rs, hrr⟩ : ∃ r rs, hs.rooms = r :: rs := by
    have := hz.nm.sz.some
    match hh : hs.rooms, this with
    | r :: rs, _ => exact ⟨r, rs, rfl⟩
  have hrm : r ∈ hs.rooms := by rw [hrr]; exact List.mem_cons_self
  conv in defBody _ => whnf
  refine ws scGo kr rfl <| de_tup <| da_cons <| de_str <| da_cons <| de_tup <| da_cons <| de_ix <| de_ix <| de_ix <| sf scGo kr rm rfl rfl <| de_int <| ox_t ix2 <| de_int <| ox_t (front_at hrr) <| de_int <| ox_t ix0 <| da_nil <| tu <| da_cons <| de_non <| da_nil <| tu
    ⟨S0, { S0 with due := .beg [.inr r.1] none }, rm, rfl, rfl, rfl, rfl, fun m1 rm1 => ?_⟩
  clear rm
  refine db_cons (ds_while p0 (fun n Γ' m' => ∃ S, Γ' = [some (.ref a.r)] ∧ RM C m0 hs cs a m' S ∧ LI hs cs S n) 601 ⟨_, rfl, rm1, (none, []), ⟨rfl, fun x hx => (by cases hx), Nat.zero_le _, fun x hx => (by cases hx), Nat.le_refl _, Nat.zero_le _⟩, (Nat.le_succ _ : 601 ≤ 602), .inl ⟨rfl, ⟨fun s z => (by cases z), r.2, walk_room hrm, hz.ps r hrm⟩, rfl⟩⟩ fun n Γ' m' hW => ?_)
  obtain ⟨S, rfl, rm, lii⟩ := hW
  have nxt : ∀ m2 S2, RM C m0 hs cs a m2 S2 → LIx hs cs S2 n → ∃ n', n' < n ∧ ∃ S, [some (.ref a.r)] = [some (D.ref a.r)] ∧ RM C m0 hs cs a m2 S ∧ LI hs cs S n' := fun m2 S2 rm2 ⟨n', hn', li'⟩ => ⟨n', hn', S2, rfl, rm2, li'⟩
  refine dt_cmp rfl <| sf scGo kr rm rfl rfl <| de_non <| o2_isN ⟨_, rfl, fun hc => ?_, fun hc => ?_⟩
  · obtain ⟨c, ri, htn, ⟨hen, hdu, hmes⟩ | ⟨hen, _⟩⟩ := lii
    · unfold mes at hmes
      cases hdue : S.due with
      | non => rw [hdue] at hdu; exact False.elim hdu
      | beg p hand =>
        rw [hdue] at hdu hmes
        obtain ⟨hho, t, hpt, hps⟩ := hdu
        have lk : (flds a hs S).lookup ("due" : Str) = some (.tup [.str "begin", encPl p, hD hand]) := by
          have : (flds a hs S).lookup ("due" : Str) = some (dueD S.due) := rfl
          rw [this, hdue]; rfl
        refine db_one (ds_if <| dt_cmp rfl <| de_ix <| sf scGo kr rm rfl lk <| de_int <| ox_t ix0 <| de_str <| o2_eqs ⟨_, rfl, fun _ => ?_, fun hf => absurd hf (by decide +kernel)⟩)
        exact (ex1 <| de_meth kr.cls mS (hr.mono (by decide)) hgd rfl <| v scGo 0 rfl ⟨a.r, _, rfl, rm.r, rfl, da_cons <| de_ix <| sf scGo kr rm rfl lk <| de_int <| ox_t ix1 <| da_cons <| de_ix <| sf scGo kr rm rfl lk <| de_int <| ox_t ix2 <| da_nil
          ⟨m0, hs, cs, a, S, c, p, t, hand, n, rfl, hz, rm, ri, hho, hpt, hps, hmes, htn, hen, fun m2 S2 rm2 li2 => db_nil (nxt m2 S2 rm2 li2)⟩⟩)
      | fin e =>
        rw [hdue] at hdu hmes
        have hmes2 : 3 * (200 - S.bg) + S.stack.length + 1 + 1 = n := hmes
        have lk : (flds a hs S).lookup ("due" : Str) = some (.tup [.str "end", enD e]) := by
          have : (flds a hs S).lookup ("due" : Str) = some (dueD S.due) := rfl
          rw [this, hdue]; rfl
        refine db_one (ds_if <| dt_cmp rfl <| de_ix <| sf scGo kr rm rfl lk <| de_int <| ox_t ix0 <| de_str <| o2_eqs ⟨_, rfl, fun hf => absurd hf (by decide +kernel), fun _ => ?_⟩)
        refine db_one (ds_if <| dt_cmp rfl <| sf scGo kr rm rfl rfl <| de_lst <| da_nil <| li fun z hz2 => o2_eqnil (u1 hr) (mup_some rm.ss hz2) mup_same ⟨_, rfl, fun h1 => ?_, fun h1 => ?_⟩)
        · have rm2 := rm.le (Sub.new (o := .lst []) hz2)
          exact (ex1 <| de_meth kr.cls mF (hr.mono (by decide)) hgd rfl <| v scGo 0 rfl ⟨a.r, _, rfl, rm2.r, rfl, da_cons <| de_ix <| sf scGo kr rm2 rfl lk <| de_int <| ox_t ix1 <| da_nil
            ⟨m0, hs, cs, a, S, c, e, n, rfl, rm2, ri, hdu, htn, by omega, fun m2 S2 rm2 li2 => db_nil (nxt m2 S2 rm2 li2)⟩⟩)
        · have rm2 := rm.le (Sub.new (o := .lst []) hz2)
          obtain ⟨st, q, fr, hst⟩ : ∃ st q fr, S.stack = st ++ [(q, fr)] := by
            rcases List.eq_nil_or_concat S.stack with e0 | ⟨st, x, e0⟩
            · rw [e0] at h1; cases h1
            · exact ⟨st, x.1, x.2, by rw [e0]; simp⟩
          refine (ex1 <| de_meth kr.cls mB (hr.mono (by decide)) hgd rfl <| v scGo 0 rfl ⟨a.r, _, rfl, rm2.r, rfl, da_cons <| de_ix <| sf scGo kr rm2 rfl rfl <| de_neg <| de_int ⟨1, rfl, ox_l (.inl rm2.ss) (d := .ref q) ?_ <| da_cons <| de_ix <| sf scGo kr rm2 rfl lk <| de_int <| ox_t ix1 <| da_nil
            ⟨m0, hs, cs, a, S, c, st, q, fr, n, e, rfl, ⟨hz, rm2, ri, hst, hdu, by omega, htn, hen⟩, fun m2 S2 rm2 li2 => db_nil (nxt m2 S2 rm2 li2)⟩⟩⟩)
          rw [hst, List.map_append]; exact atI_last _ _
    · rw [hen] at hc; cases hc
  · obtain ⟨c, ri, htn, _⟩ := lii
    refine rt1 (de_tup <| da_cons <| sf scGo kr rm rfl rfl <| da_cons <| sf scGo kr rm rfl rfl <| da_cons <| sf scGo kr rm rfl rfl <| da_nil <| tu ⟨_, Sub.refl _, h m' S c rm ri.tr (by omega)⟩)
/-! ### run -/
abbrev sRun : Stmt := top 15
theorem scRun : Sf ["house", "choices", "most"] [] ["house", "choices", "most"] (defScope sRun) := sf_mk ⟨rfl, rfl, rfl, by decide +kernel, rfl, by decide +kernel, by decide +kernel⟩ (by decide +kernel)
def spRun : DSp := fun ds m Q => ∃ hs cs cc, ds = [encH hs, .ref cc, .int 200] ∧ HouseOk hs ∧ m cc = some (.lst (List.map D.int cs)) ∧
  ∀ m' tt tr c e b, Sub m m' → m' tt = some (.lst (List.map stD tr)) → TrOk hs (none, []) tr c → tr.length ≤ 602 → Q (.tup [.ref tt, e, b]) m'
theorem ok_run {C f fi : Addr} {fd fdi : FuncData} (B : Tx mg) (kr : RC K C) (mk : Mk K C fi) (hC : mg "Runner" = some (.ref C)) (FI : FD P w K mg base 4 fi fdi ["self", "house", "choices", "most"] (spInit C)) (bi : Binds K fdi ["self", "house", "choices", "most"] []) (mG : Md P w K mg base 6 C "go" (spGo C))
    (d : DefAt K mg "run" sRun ["house", "choices", "most"] f fd) : Cd P w K mg base 7 "run" spRun := by
  refine d.cd (fd_of d.fn scRun.fs (fun ds m Q h => by obtain ⟨m0, hs, cs, rfl, _⟩ := h; rfl) fun cdv A outer s H ds m Q hr hgd h => ?_)
  obtain ⟨hs, cs, cc, rfl, hz, hcc, h⟩ := h
  conv in defBody _ => whnf
  refine rt1 ?_
  refine de_meth0 kr.cls mG hr hgd rfl ?_
  refine de_make mk FI bi (hr.mono (by decide)) hgd rfl hC (by decide) <| da_cons <| v scRun 0 rfl <| da_cons <| v scRun 1 rfl <| da_cons <| v scRun 2 rfl <| da_nil fun q hq => ?_
  refine ⟨m, hs, cs, q, cc, rfl, hz, hq, hcc, rfl, fun a m' ha rm => ⟨rfl, q, _, rfl, by rw [← ha]; exact rm.r, rfl, m, hs, cs, a, by rw [ha], hz, rm, fun m2 S c rm2 tr hl => ⟨_, Sub.refl _, h _ _ _ c _ _ rm2.sub rm2.tt tr hl⟩⟩⟩
end
end SC

set_option maxHeartbeats 2000000
/-! W7: two lists of the same texts, !=. -/
namespace DL
open PySem L2
theorem o2_nesame {X : Cx} {m : M} {Q : D → M → Prop} {p q : Addr} {ys : List Str} (hu : X.A.units + 64 < cLine) (hp : m p = some (.lst (ys.map D.str))) (hq : m q = some (.lst (ys.map D.str))) (k : Q (.bl false) m) : O2 X (compareOp .NotEq) (.ref p) (.ref q) m Q := fun v w H H0 tk kf f1 f2 am => by
  intro pins s σ u1 u2 I r1 r2
  cases f1; cases f2; cases r1; cases r2
  obtain ⟨xs, hx, g⟩ := am _ _ hp
  obtain ⟨zs, hy, g2⟩ := am _ _ hq
  obtain rfl := g.strs
  obtain rfl := g2.strs
  obtain ⟨its, rv, pl, _⟩ := I.list (SqL.of hx)
  obtain ⟨its2, rv2, pl2, _⟩ := I.list (SqL.of hy)
  have la : its.toArray.size = ys.length := by rw [List.size_toArray, ← rv.length, List.length_map]
  have lb : its2.toArray.size = ys.length := by rw [List.size_toArray, ← rv2.length, List.length_map]
  have fin : EP X pins σ (PV X.K H0 Q) (.bool false) s := ⟨.bl _, H, I, rfl, PV.mk tk (.bl _) am k⟩
  have e : (!(List.range its.toArray.size).all fun _ => true) = false := by simp
  rw [← e] at fin
  refine SeqAt.RcNeAt.lists (e := fun _ => true) pl.isList pl2.isList (by rw [la, lb]) (by omega) (fun j h1 h2 => ?_) X.prog X.w _ _ fin
  obtain ⟨x, v1, hx1, fx, rx⟩ := fz_at rv g h1
  obtain ⟨y, v2, hy1, fy, ry⟩ := fz_at rv2 g2 h2
  have hxy : x = y := by rw [hx1] at hy1; exact Option.some.inj hy1
  subst hxy
  rw [List.getElem?_map] at hx1
  cases hys : ys[j]? with
  | none => rw [hys] at hx1; cases hx1
  | some z =>
    rw [hys] at hx1
    cases hx1
    have := (eq_rec I am 60 (A := X.A.in1) (show dep (D.str z) ≤ 60 from Nat.zero_le 60) (show kinR (D.str z) = true by rfl) fx fy rx ry (fun q hq => by cases hq) (by show X.A.units + 1 + 60 + 1 < cLine; omega)).1
    have e2 : deq (D.str z) (D.str z) = true := by simp [deq]
    rw [e2] at this
    exact this
end DL

set_option maxHeartbeats 8000000
/-! P19: law. -/
namespace SC
open PySem L2 DL
theorem foldp_len {α : Type} (kf : α → Key) (vf : α → D) : ∀ (l : List α) (acc : List (Key × D)), (l.foldl (fun acc x => putD acc (kf x) (vf x)) acc).length ≤ acc.length + l.length
  | [], acc => Nat.le_refl _
  | x :: l, acc => by
    rw [List.foldl_cons]
    have h1 := foldp_len kf vf l (putD acc (kf x) (vf x))
    have h2 := putD_len acc (kf x) (vf x)
    rw [List.length_cons]; omega
mutual
theorem kin_refs : ∀ {d : D}, kinR d = true → refs d = []
  | .int i, _ => rfl
  | .str x, _ => rfl
  | .tup l, h => by rw [kinR] at h; rw [refs]; exact kins_refs h
theorem kins_refs : ∀ {l : List D}, kinRs l = true → refss l = []
  | [], _ => rfl
  | x :: xs, h => by
    rw [kinRs, Bool.and_eq_true] at h
    rw [refss, kin_refs h.1, kins_refs h.2]; rfl
end
def shD (d : D) : D := .str (pdOf d).shown
theorem thing_ok {m : M} {n : Str} {a b c d : Addr} (ha : m a = some (.dK [])) (hb : m b = some (.dK [])) (hc : m c = some (.lst [])) (hd : m d = some (.lst [])) {x : D} (hx : x ∈ things n a b c d) : ∀ q ∈ refs x, RefOk m q := fun q hq => by
  rcases refs_thing hx q hq with rfl | rfl | rfl | rfl
  · exact .inr ⟨_, ha⟩
  · exact .inr ⟨_, hb⟩
  · exact .inl ⟨_, .inl hc⟩
  · exact .inl ⟨_, .inl hd⟩
section
variable {P : Program} {w : World} {K : PySem.W.Frag} {mg : Str → Option Value} {base : Heap}
abbrev sLaw : Stmt := top 34
abbrev nLaw : List Str := ["script", "house", "meets", "found", "due", "meet", "front", "some", "thing", "k", "tape", "other", "told", "one"]
theorem scLaw : Sf ["script", "house", "meets", "found", "due", "meet", "front", "some", "thing", "k", "tape", "other", "told"] ["one"] ["script"] (defScope sLaw) := sf_mk ⟨rfl, rfl, rfl, by decide +kernel, rfl, by decide +kernel, by decide +kernel⟩ (by decide +kernel)
def spLaw : DSp := fun ds m Q => ∃ sc ns, ds = [.ref sc] ∧ m sc = some (.rd (List.map D.int ns)) ∧ ns.length ≤ 63 ∧ ∀ m', Sub m m' → Q (.bl true) m'
theorem ok_law {f : Addr} {fd : FuncData} (B : Tx mg) (cH : Cd P w K mg base 16 "_law_house" spLHouse) (cL : Cd P w K mg base 50 "_law_meets" (spMeets lawMeetsH)) (cM : Cd P w K mg base 4 "meets_of" (spMeets meetsH)) (cI : Cd P w K mg base 5 "is_meet" spIs)
    (cT : Cd P w K mg base 2 "_law_tape" spTape) (cR : Cd P w K mg base 7 "run" spRun) (cC : Cd P w K mg base 2 "_law_choices" spChoices) (cTr : Cd P w K mg base 1 "_law_trail_right" spTrail) (cO : Cd P w K mg base 49 "_law_other" spOther) (cD : Cd P w K mg base 1 "_law_digit" spDigit)
    (d : DefAt K mg "law" sLaw ["script"] f fd) : FD P w K mg base 51 f fd ["script"] spLaw := by
  refine fd_of d.fn scLaw.fs (fun ds m Q h => by obtain ⟨q, a, rfl, _⟩ := h; rfl) fun cdv A outer s H ds m Q hr hgd h => ?_
  obtain ⟨sc, ns, rfl, hsc, hn63, h⟩ := h
  have hu := u64 hr
  have hu128 := u128 hr
  conv in defBody _ => whnf
  refine stc scLaw 1 <| fc cH hr hgd (hkj := by decide) <| da_cons <| v scLaw 0 rfl <| da_cons <| de_int <| da_nil ⟨sc, ns, rfl, hsc, fun m1 hs sb1 hz => ?_⟩
  have hrep : ∀ d, IsMt hs d → (pdOf d).showable = true ∧ (pdOf d).depth ≤ 60 ∧ (pdOf d).shown.length ≤ sizeLine := fun d hd => pok_repr (hd.th hz.nm).pok (Nat.le_trans (hd.th hz.nm).dep (by decide))
  refine stc scLaw 2 <| fc cL hr hgd (hkj := by decide) <| da_cons <| v scLaw 1 rfl <| da_nil ⟨hs, rfl, hz.nm.sz, fun qm hqm => ?_⟩
  refine stc scLaw 3 <| fc cM hr hgd (hkj := by decide) <| da_cons <| v scLaw 1 rfl <| da_nil ⟨hs, rfl, hz.nm.sz, fun qf hqf => ?_⟩
  have sbf : Sub m (mup (mup m1 qm (.lst (lawMeetsH hs))) qf (.lst (meetsH hs))) := (sb1.trans (Sub.new hqm)).trans (Sub.new hqf)
  have lm := mup_some (o := .lst (meetsH hs)) (mup_same (m := m1) (a := qm) (o := .lst (lawMeetsH hs))) hqf
  have lf := mup_same (m := mup m1 qm (.lst (lawMeetsH hs))) (a := qf) (o := .lst (meetsH hs))
  generalize mup (mup m1 qm (.lst (lawMeetsH hs))) qf (.lst (meetsH hs)) = m2 at *
  have hlen : (meetsH hs).length ≤ 3000000 := by
    have hsl := slips_len hz.nm.sz
    have hml := flat_len (l := walkH hs) (f := fun x : PT' => meetsAt x.1 x.2 (slipsH hs)) (c := 45 * 225) (fun x hx => meetsAt_len (hz.nm.sz.kid hx) hsl)
    have hml2 : (walkH hs).length * (45 * 225) ≤ 225 * (45 * 225) := Nat.mul_le_mul_right _ hz.nm.sz.all
    unfold meetsH
    rw [List.length_append, List.length_map]
    exact Nat.le_trans (Nat.add_le_add hsl (Nat.le_trans hml hml2)) (by decide)
  have hlen2 : (lawMeetsH hs).length ≤ 3000000 := by rw [← (meets_perm hs).length_eq]; exact hlen
  refine if0 (DT.imp (Q := fun b m3 => b = false ∧ Sub m2 m3) ?_ ?_)
  · refine dt_w <| dw_or <| dt_not <| dt_val (fun _ => rfl) <| de_isinT B.isinstance B.list rfl (by decide) (by decide) <| v scLaw 3 rfl ⟨"list", true, .lst lf, by decide +kernel, true, rfl, fun z => (by cases z), fun _ => ?_⟩
    refine dw_or1 <| dt_cmp rfl <| c_sorted B.sorted <| da_cons ?_
    refine de_map [("one", 13)] (meetsH hs) id shD scLaw.fs.nd (blkOk_by (N := nLaw) (sc := defScope sLaw) (by decide +kernel)) (di_l <| v scLaw 3 rfl ⟨qf, _, rfl, .inl lf, (List.map_id _).symm, sl1000 (by omega), fun p acc hp => .inl (mup_some lf hp), fun p acc x hp hx => ?_, fun a ha => ?_⟩)
    · have hm := meets_iff2.mp hx
      obtain ⟨r1, r2, r3⟩ := hrep x hm
      obtain ⟨as, ea⟩ := hm.tup
      intro s H C cl fp
      refine tb scLaw.fs.nd 13 ?_
      intro s H C cl fp
      exact c_repr B.repr <| da_cons <| vb 13 rfl <| da_nil <| oc_repr hgd hu128 (rp_of (b := true) (kin_pure (hm.th hz.nm).kin)) (.inl ⟨as, ea⟩) r1 r2 r3 ⟨Sub.refl _, rfl⟩
    have ea1 : (meetsH hs).map shD = ((meetsH hs).map fun d => (pdOf d).shown).map D.str := by rw [List.map_map]; rfl
    have eb1 : (lawMeetsH hs).map shD = ((lawMeetsH hs).map fun d => (pdOf d).shown).map D.str := by rw [List.map_map]; rfl
    rw [ea1]
    refine da_nil <| oc_sorted mup_same fun ys r1 hp1 hs1 hr1 => ?_
    have sbA : Sub m2 (mup (mup m2 a (.lst (((meetsH hs).map fun d => (pdOf d).shown).map D.str))) r1 (.lst (ys.map D.str))) := (Sub.new ha).trans (Sub.new hr1)
    have l1 : mup (mup m2 a (.lst (((meetsH hs).map fun d => (pdOf d).shown).map D.str))) r1 (.lst (ys.map D.str)) r1 = _ := mup_same
    generalize mup (mup m2 a (.lst (((meetsH hs).map fun d => (pdOf d).shown).map D.str))) r1 (.lst (ys.map D.str)) = mA at *
    refine c_sorted B.sorted <| da_cons ?_
    refine de_map [("one", 13)] (lawMeetsH hs) id shD scLaw.fs.nd (blkOk_by (N := nLaw) (sc := defScope sLaw) (by decide +kernel)) (di_l <| v scLaw 2 rfl ⟨qm, _, rfl, .inl (sbA _ _ lm), (List.map_id _).symm, sl1000 (by omega), fun p acc hp => .inl (mup_some (sbA _ _ lm) hp), fun p acc x hp hx => ?_, fun b hb => ?_⟩)
    · have hm := meets_iff.mp hx
      obtain ⟨r1, r2, r3⟩ := hrep x hm
      obtain ⟨as, ea⟩ := hm.tup
      intro s H C cl fp
      refine tb scLaw.fs.nd 13 ?_
      intro s H C cl fp
      exact c_repr B.repr <| da_cons <| vb 13 rfl <| da_nil <| oc_repr hgd hu128 (rp_of (b := true) (kin_pure (hm.th hz.nm).kin)) (.inl ⟨as, ea⟩) r1 r2 r3 ⟨Sub.refl _, rfl⟩
    rw [eb1]
    refine da_nil <| oc_sorted mup_same fun zs r2 hp2 hs2 hr2 => ?_
    have hyz : ys = zs := sort_eq (hp1.trans (((meets_perm hs).map _).trans hp2.symm)) hs1 hs2
    subst hyz
    exact o2_nesame hu (mup_some (mup_some l1 hb) hr2) mup_same ⟨false, rfl, rfl, (sbA.trans (Sub.new hb)).trans (Sub.new hr2)⟩
  rintro b m3 ⟨rfl, sb3⟩
  refine ⟨fun z => Bool.noConfusion z, fun _ => ?_⟩
  have lm3 := sb3 _ _ lm
  have sbm3 : Sub m m3 := sbf.trans sb3
  refine stc scLaw 4 <| de_dnew fun du hdu => ?_
  have hdum : m du = none := mup_noneS sbm3 hdu
  refine db_cons (ds_for p0 rfl (di_l <| v scLaw 2 rfl ⟨qm, _, rfl, .inl (mup_some lm3 hdu), fun i Γ' m' => ∃ (g : Option D), Γ' = [some (.ref sc), some (encH hs), some (.ref qm), some (.ref qf), some (.ref du), g, none, none, none, none, none, none, none, none] ∧
      Sub (mup m3 du (.dK (((lawMeetsH hs).take i).foldl (fun acc x => putD acc (.inr (pdOf x).shown) (.bl true)) []))) m', ⟨_, rfl, Sub.refl _⟩, fun i Γ' m' _ hW => ?_, fun i x Γ' m' hx hW => ?_, fun Γ' m' hW => ?_⟩))
  · obtain ⟨g, _, sb⟩ := hW
    exact .inl (sb.old hdu _ _ lm3)
  · obtain ⟨g, rfl, sb⟩ := hW
    have hm := meets_iff.mp (List.mem_of_getElem? hx)
    have hth := hm.th hz.nm
    obtain ⟨r1, r2, r3⟩ := hrep x hm
    obtain ⟨as, ea⟩ := hm.tup
    refine tg scLaw 5 ?_
    refine db_cons (ds_dput (u1 hr) rfl <| de_bl <| v scLaw 4 rfl <| c_repr B.repr <| da_cons <| v scLaw 5 rfl <| da_nil <| oc_repr hgd hu128 (rp_of (b := true) (kin_pure hth.kin)) (.inl ⟨as, ea⟩) r1 r2 r3 ⟨du, _, _, rfl, rfl, sb.at, ?_, ?_⟩)
    · refine Nat.lt_of_le_of_lt (foldp_len _ _ _ _) ?_
      exact Nat.lt_of_le_of_lt (show _ ≤ 3000000 by simp; omega) (by decide)
    refine if0 <| dt_cmp rfl <| fc cI hr hgd (hkj := by decide) <| da_cons <| v scLaw 1 rfl <| da_cons <| v scLaw 5 rfl <| da_nil ⟨hs, x, rfl, hz.nm, fun q hq => ?_, .inl ⟨true, _, rp_of (kin_pure hth.kin), hth.pok, Nat.le_trans hth.dep (by decide), fun c hc => de_bl <| o2_isntbl ⟨_, rfl, fun h1 => ?_, fun h1 => ?_⟩⟩⟩
    · rw [kin_refs hth.kin] at hq; cases hq
    · rw [hc.mpr hm] at h1; cases h1
    · refine db_nil ⟨_, rfl, ?_⟩
      rw [List.take_succ, hx, Option.toList_some, List.foldl_append]
      exact sb.put
  · obtain ⟨g5, rfl, sb⟩ := hW
    rw [List.take_length] at sb
    have sb' : Sub (mup m3 du (.dK (dueT hs))) m' := sb
    clear sb
    have hdu4 : m' du = some (.dK (dueT hs)) := sb'.at
    have sb4 := sb'.old hdu
    have lm4 := sb4 _ _ lm3
    have sbm4 := sbm3.trans sb4
    clear sb' sb4 lm3 sbm3 lm lf sbf sb3 hdu hdum sb1
    obtain ⟨r, rs, hrr⟩ : ∃ r rs, hs.rooms = r :: rs := by
      have := hz.nm.sz.some
      match hh : hs.rooms, this with
      | r :: rs, _ => exact ⟨r, rs, rfl⟩
    refine stc scLaw 6 <| de_tup <| da_cons <| de_ix <| de_ix <| de_ix <| v scLaw 1 rfl <| de_int <| ox_t ix2 <| de_int <| ox_t (front_at hrr) <| de_int <| ox_t ix0 <| da_nil <| tu ?_
    refine stc scLaw 7 ?_
    refine de_lst ?_
    refine da_cons ?_
    refine de_tup <| da_cons <| de_str <| da_cons <| v scLaw 6 rfl <| da_cons <| de_neg <| de_int ⟨1, rfl, da_cons <| v scLaw 6 rfl <| da_nil <| tu ?_⟩
    refine da_cons ?_
    refine de_tup <| da_cons <| de_str <| da_cons <| v scLaw 6 rfl <| da_cons <| v scLaw 6 rfl <| da_cons <| de_int <| da_nil <| tu ?_
    refine da_cons ?_
    refine de_tup <| da_cons <| de_str <| da_cons <| v scLaw 6 rfl <| da_cons <| de_str <| da_cons <| v scLaw 6 rfl <| da_nil <| tu ?_
    refine da_cons ?_
    refine de_tup <| da_cons <| de_str <| da_cons <| de_str <| da_nil <| tu ?_
    refine da_nil <| li fun p1 hp1 => ?_
    refine stc scLaw 7 ?_
    refine de_op <| v scLaw 7 rfl ?_
    refine de_lst ?_
    refine da_cons ?_
    refine de_tup <| da_cons <| de_str <| da_cons <| de_int <| da_nil <| tu ?_
    refine da_cons ?_
    refine de_tup <| da_cons <| de_str <| da_cons <| de_int <| da_cons <| v scLaw 6 rfl <| da_nil <| tu ?_
    refine da_cons ?_
    refine de_tup ?_
    refine da_cons <| de_str ?_
    refine da_cons ?_
    refine de_op <| v scLaw 6 rfl <| de_tup <| da_cons <| de_neg <| de_int ⟨1, rfl, da_nil <| tu ?_⟩
    refine o2_addt (sl100 (Nat.le_of_ble_eq_true rfl)) ?_
    refine da_cons <| v scLaw 6 rfl <| da_nil <| tu ?_
    refine da_cons ?_
    refine de_tup ?_
    refine da_cons <| de_str ?_
    refine da_cons ?_
    refine de_tup <| da_cons <| de_str <| da_nil <| tu ?_
    refine da_cons <| v scLaw 6 rfl <| da_nil <| tu ?_
    refine da_nil <| li fun p2 hp2 => ?_
    refine o2_addl (mup_some mup_same hp2) mup_same (sl100 (Nat.le_of_ble_eq_true rfl)) fun p3 hp3 => ?_
    have sb5 : Sub m' (mup (mup (mup m' p1 (.lst (some1 r.1))) p2 (.lst (some2 r.1))) p3 (.lst (some1 r.1 ++ some2 r.1))) := ((Sub.new hp1).trans (Sub.new hp2)).trans (Sub.new hp3)
    have l5 : mup (mup (mup m' p1 (.lst (some1 r.1))) p2 (.lst (some2 r.1))) p3 (.lst (some1 r.1 ++ some2 r.1)) p3 = some (.lst (some1 r.1 ++ some2 r.1)) := mup_same
    show DB _ _ _ (mup (mup (mup m' p1 (.lst (some1 r.1))) p2 (.lst (some2 r.1))) p3 (.lst (some1 r.1 ++ some2 r.1))) _
    generalize mup (mup (mup m' p1 (.lst (some1 r.1))) p2 (.lst (some2 r.1))) p3 (.lst (some1 r.1 ++ some2 r.1)) = m5 at *
    have hdu5 := sb5 _ _ hdu4
    have lm5 := sb5 _ _ lm4
    have sbm5 := sbm4.trans sb5
    clear hdu4 lm4 sbm4 sb5 hp1 hp2 hp3
    with_reducible refine db_cons ?_
    with_reducible refine ds_for p0 ?hcx (di_l ?_) ?hsx
    case hcx => exact rfl
    case hsx => intro _; rfl
    refine de_op ?_
    refine de_lst ?_
    refine da_cons <| de_non ?_
    refine da_cons ?_
    refine de_tup <| da_nil <| tu ?_
    refine da_cons <| de_str ?_
    refine da_cons <| de_int ?_
    refine da_cons ?_
    refine de_tup <| da_cons <| de_str <| da_nil <| tu ?_
    refine da_cons ?_
    refine de_tup <| da_cons <| de_str <| da_cons <| v scLaw 6 rfl <| da_cons <| de_str <| da_nil <| tu ?_
    refine da_cons ?_
    refine de_dnew fun a ha => ?_
    refine da_cons ?_
    refine de_tup ?_
    refine da_cons ?_
    refine de_dnew fun b hb => ?_
    refine da_cons ?_
    refine de_lst <| da_nil <| li fun c hc => ?_
    refine da_nil <| tu ?_
    refine da_cons ?_
    refine de_tup ?_
    refine da_cons <| de_str ?_
    refine da_cons ?_
    refine de_lst <| da_nil <| li fun d hd => ?_
    refine da_nil <| tu ?_
    refine da_nil <| li fun p4 hp4 => ?_
    have sbA : Sub m5 (mup (mup (mup (mup m5 a (.dK [])) b (.dK [])) c (.lst [])) d (.lst [])) := (((Sub.new ha).trans (Sub.new hb)).trans (Sub.new hc)).trans (Sub.new hd)
    have ea : mup (mup (mup (mup m5 a (.dK [])) b (.dK [])) c (.lst [])) d (.lst []) a = some (.dK []) := mup_some (mup_some (mup_some mup_same hb) hc) hd
    have eb : mup (mup (mup (mup m5 a (.dK [])) b (.dK [])) c (.lst [])) d (.lst []) b = some (.dK []) := mup_some (mup_some mup_same hc) hd
    have ec : mup (mup (mup (mup m5 a (.dK [])) b (.dK [])) c (.lst [])) d (.lst []) c = some (.lst []) := mup_some mup_same hd
    have ed : mup (mup (mup (mup m5 a (.dK [])) b (.dK [])) c (.lst [])) d (.lst []) d = some (.lst []) := mup_same
    generalize mup (mup (mup (mup m5 a (.dK [])) b (.dK [])) c (.lst [])) d (.lst []) = m6 at *
    refine v scLaw 7 rfl ?_
    refine o2_addl (ds := some0 r.1 a b c d) mup_same (mup_some (sbA _ _ l5) hp4) (sl100 (Nat.le_of_ble_eq_true rfl)) fun p5 hp5 => ?_
    have sb7 : Sub m6 (mup (mup m6 p4 (.lst (some0 r.1 a b c d))) p5 (.lst (things r.1 a b c d))) := (Sub.new hp4).trans (Sub.new hp5)
    have l7 : mup (mup m6 p4 (.lst (some0 r.1 a b c d))) p5 (.lst (things r.1 a b c d)) p5 = some (.lst (things r.1 a b c d)) := mup_same
    refine ⟨p5, things r.1 a b c d, rfl, .inl l7, ?_⟩
    show ∃ W : Nat → G → M → Prop, W 0 _ (mup (mup m6 p4 (.lst (some0 r.1 a b c d))) p5 (.lst (things r.1 a b c d))) ∧ _
    generalize mup (mup m6 p4 (.lst (some0 r.1 a b c d))) p5 (.lst (things r.1 a b c d)) = m7 at *
    have ea7 := sb7 _ _ ea
    have eb7 := sb7 _ _ eb
    have ec7 := sb7 _ _ ec
    have ed7 := sb7 _ _ ed
    have hdu7 := sb7 _ _ (sbA _ _ hdu5)
    have lm7 := sb7 _ _ (sbA _ _ lm5)
    have sbm7 := (sbm5.trans sbA).trans sb7
    clear hdu5 lm5 sbm5 sbA sb7 ha hb hc hd hp4 hp5 ea eb ec ed l5
    refine ⟨fun i Γ' m8 => ∃ (g : Option D), Γ' = [some (.ref sc), some (encH hs), some (.ref qm), some (.ref qf), some (.ref du), g5, some (frD1 r.1), some (.ref p3), g, none, none, none, none, none] ∧ Sub m7 m8, ⟨_, rfl, Sub.refl _⟩, fun i Γ' m8 _ hW => ?_, fun i x Γ' m8 hx hW => ?_, fun Γ' m8 hW => ?_⟩
    · obtain ⟨g, _, sb⟩ := hW
      exact .inl (sb _ _ l7)
    · obtain ⟨g, rfl, sb⟩ := hW
      have hxm := List.mem_of_getElem? hx
      refine tg scLaw 8 ?_
      refine if0 <| dt_cmp rfl <| fc cI hr hgd (hkj := by decide) <| da_cons <| v scLaw 1 rfl <| da_cons <| v scLaw 8 rfl <| da_nil ⟨hs, x, rfl, hz.nm, thing_ok (sb _ _ ea7) (sb _ _ eb7) (sb _ _ ec7) (sb _ _ ed7) hxm, .inr ⟨fun mt hmt => no_thing hz hxm hmt, de_bl <| o2_isntbl ⟨_, rfl, fun h1 => ?_, fun h1 => ?_⟩⟩⟩
      · cases h1
      · exact db_nil ⟨_, rfl, sb⟩
    · obtain ⟨g8, rfl, sb⟩ := hW
      have hdu8 := sb _ _ hdu7
      have lm8 := sb _ _ lm7
      have sbm8 := sbm7.trans sb
      clear ea7 eb7 ec7 ed7 hdu7 lm7 sbm7 sb l7
      have hsc8 := sbm8 _ _ hsc
      refine db_cons (ds_for p0 rfl (di_r2 rfl B.range ?_))
      refine da_cons <| de_int ?_
      refine da_cons ?_
      refine c_max B.max ?_
      refine da_cons <| de_int ?_
      refine da_cons ?_
      refine c_min B.min ?_
      refine da_cons <| de_int ?_
      refine da_cons ?_
      refine c_len B.len <| da_cons <| v scLaw 0 rfl <| da_nil <| oc_lenl (.inr hsc8) ?_
      refine da_nil <| oc_min rfl ?_
      refine da_nil <| oc_max rfl ?_
      have hb2 : ∀ L : Int, 0 ≤ L → L ≤ 63 → -(2 ^ 62) ≤ (if (if L < 15 then L else 15) > 9 then (if L < 15 then L else 15) else 9 : Int) ∧ (if (if L < 15 then L else 15) > 9 then (if L < 15 then L else 15) else 9 : Int) < 2 ^ 62 := fun L h1 h2 => by
        split <;> split <;> omega
      have hb3 := hb2 ((List.map D.int ns).length : Nat) (by omega) (by rw [List.length_map]; omega)
      refine da_nil ⟨6, _, rfl, ⟨by decide, by decide, hb3.1, hb3.2⟩, ?_⟩
      refine ⟨fun i Γ' m9 => ∃ (g9 g10 g11 g12 : Option D), Γ' = [some (.ref sc), some (encH hs), some (.ref qm), some (.ref qf), some (.ref du), g5, some (frD1 r.1), some (.ref p3), g8, g9, g10, g11, g12, none] ∧ Sub m8 m9, ⟨_, _, _, _, rfl, Sub.refl _⟩, fun _ _ _ _ _ => True.intro, fun i x Γ' m9 hx hW => ?_, fun Γ' m9 hW => ?_⟩
      · obtain ⟨g9, g10, g11, g12, rfl, sb⟩ := hW
        obtain ⟨hi, rfl⟩ := rgD_at hx
        have hdu9 := sb _ _ hdu8
        have lm9 := sb _ _ lm8
        have hsc9 := sb _ _ hsc8
        clear hdu8 lm8 sbm8 hsc8 hb2 hb3
        refine tg scLaw 9 ?_
        refine stc scLaw 10 <| fc cT hr hgd (hkj := by decide) <| da_cons <| v scLaw 0 rfl <| da_cons <| v scLaw 9 rfl <| da_nil ⟨sc, ns, _, rfl, hsc9, by omega, fun tp t htp => ?_⟩
        have sbt : Sub m9 (mup m9 tp (.lst [.int t])) := Sub.new htp
        have ltp : mup m9 tp (.lst [.int t]) tp = some (.lst [.int t]) := mup_same
        refine if0 <| dt_not <| dt_val (fun _ => rfl) <| fc cTr hr hgd (hkj := by decide) ?_
        refine da_cons ?_
        refine de_ix <| fc cR hr hgd (hkj := by decide) ?_
        refine da_cons <| v scLaw 1 rfl ?_
        refine da_cons ?_
        refine fc cC hr hgd (hkj := by decide) <| da_cons <| v scLaw 10 rfl <| da_cons <| de_int <| da_nil ⟨tp, t, rfl, ltp, fun cq t' cs hcq => ?_⟩
        refine da_cons <| de_int <| da_nil ⟨hs, cs, cq, rfl, hz, mup_same, fun mr tt tr cc ee bb sbr htt htr htl => ?_⟩
        refine de_int <| ox_t ix0 ?_
        have hcqt : cq ≠ tp := (mne ltp hcq).symm
        have hcq9 : m9 cq = none := mup_noneS sbt hcq
        have sbr0 : Sub (mup m9 tp (.lst [.int t'])) mr := by
          refine Sub.trans ?_ sbr
          rw [mup_mup]
          refine Sub.new ?_
          rw [mup_ne hcqt]; exact hcq9
        have sbr9 : Sub m9 mr := sbr0.old htp
        have ltr : mr tp = some (.lst [.int t']) := sbr0.at
        clear sbr sbr0 hcq hcqt hcq9 sbt ltp
        refine da_cons <| v scLaw 4 rfl <| da_nil ⟨hs, tt, du, tr, _, cc, rfl, hz.nm, htt, sbr9 _ _ hdu9, due_tab hs, htr, htl, true, rfl, fun h1 => Bool.noConfusion h1, fun _ => ?_⟩
        clear htr htl htt cc tr
        refine if0 <| dt_cmp rfl <| v scLaw 2 rfl <| de_lst <| da_nil <| li fun z hzn => o2_nenil (u1 hr) (mup_some (sbr9 _ _ lm9) hzn) mup_same ⟨_, rfl, fun hc => ?_, fun hc => ?_⟩
        rotate_left
        · exact db_nil ⟨_, _, _, _, rfl, (sb.trans sbr9).trans (Sub.new hzn)⟩
        have hpos : 0 < (lawMeetsH hs).length := by
          cases hl : lawMeetsH hs with
          | nil => rw [hl] at hc; cases hc
          | cons x l => exact Nat.succ_pos _
        have sbz := sbr9.trans (Sub.new (o := .lst []) hzn)
        have ltz := mup_some (o := .lst []) ltr hzn
        generalize mup mr z (.lst []) = m10 at *
        clear ltr sbr9 hzn hc
        have lm10 := sbz _ _ lm9
        have hdu10 := sbz _ _ hdu9
        have hqmt : qm ≠ tp := mne lm9 htp
        have hdut : du ≠ tp := mne hdu9 htp
        refine stc scLaw 11 ?_
        refine fc cO hr hgd (hkj := by decide) ?_
        refine da_cons <| v scLaw 10 rfl ?_
        refine da_cons <| v scLaw 1 rfl ?_
        refine da_cons ?_
        refine de_ix <| v scLaw 2 rfl ?_
        refine fc cD hr hgd (hkj := by decide) <| da_cons <| v scLaw 10 rfl <| da_cons <| c_len B.len <| da_cons <| v scLaw 2 rfl <| da_nil <| oc_lenl (.inl lm10) <| da_nil ⟨tp, t', _, rfl, ltz, by omega, by omega, fun c t2 c0 c1 => ?_⟩
        have hcl : c.toNat < (lawMeetsH hs).length := by omega
        have hat : atI (lawMeetsH hs) c = some (lawMeetsH hs)[c.toNat] := by
          have := atI_nat (xs := lawMeetsH hs) (List.getElem?_eq_getElem hcl)
          rwa [Int.toNat_of_nonneg c0] at this
        have hmm : IsMt hs (lawMeetsH hs)[c.toNat] := meets_iff.mp (List.getElem_mem hcl)
        refine ox_l (.inl ((mup_ne hqmt).trans lm10)) hat ?_
        generalize (lawMeetsH hs)[c.toNat] = mt0 at *
        clear hat hcl c1 c0
        refine da_nil ⟨tp, t2, hs, mt0, rfl, mup_same, hz.nm, hmm, fun mo e' t3 sbo htold => ?_⟩
        have sbo9 : Sub m9 mo := by
          rw [mup_mup] at sbo
          have h1 : Sub (mup m9 tp (.lst [.int t3])) (mup m10 tp (.lst [.int t3])) := Sub.mupp sbz
          exact (h1.trans sbo).old htp
        have hduo := sbo9 _ _ hdu9
        clear sbo sbz ltz lm10 hdu10 hqmt hdut
        obtain ⟨b, pe, hrp, hpk, hdp, hrf, hform⟩ := htold
        obtain ⟨s1, s2, s3⟩ := pok_repr hpk hdp
        refine stc scLaw 12 <| fc cI hr hgd (hkj := by decide) <| da_cons <| v scLaw 1 rfl <| da_cons <| v scLaw 11 rfl <| da_nil ⟨hs, e', rfl, hz.nm, hrf, .inl ⟨b, pe, hrp, hpk, hdp, fun ct hct => ?_⟩⟩
        refine if0 (DT.imp (Q := fun b m3 => b = false ∧ mo = m3) ?_ ?_)
        · refine dt_w <| dw_or <| dt_not <| dt_val (fun _ => rfl) <| de_isinT B.isinstance B.bool rfl (by decide) (by decide) <| v scLaw 12 rfl ⟨"bool", true, .bl ct, by decide +kernel, true, rfl, fun z => Bool.noConfusion z, fun _ => ?_⟩
          refine dw_or1 <| dt_cmp rfl <| v scLaw 12 rfl ?_
          refine de_cmp rfl <| c_repr B.repr <| da_cons <| v scLaw 11 rfl <| da_nil <| oc_repr hgd hu128 hrp hform s1 s2 s3 <| v scLaw 4 rfl <| o2_in (u1 hr) (DG1.s hduo) ?_
          have hcc : ct = (valD (dueT hs) (.inr pe.shown)).isSome := by
            rw [Bool.eq_iff_iff, hct, due_told hz.nm hrp hpk]
          rw [← hcc]
          exact o2_nebl ⟨false, by simp, rfl, rfl⟩
        rintro b3 m11 ⟨rfl, rfl⟩
        refine ⟨fun z => Bool.noConfusion z, fun _ => ?_⟩
        exact db_nil (db_nil ⟨_, _, _, _, rfl, sb.trans sbo9⟩)
      · obtain ⟨g9, g10, g11, g12, rfl, sb⟩ := hW
        exact rt1 (de_bl ⟨_, Sub.refl _, h _ (sbm8.trans sb)⟩)
end
end SC

set_option maxHeartbeats 4000000
/-! E1: the call of the law behind the top. -/
namespace SC
open PySem L2 DL
open PyProof.Rows
/-- the script's object, as the layer may keep it: untouched -/
def scO (vs : List Value) : Obj := { cls := .type "list", data := .seq vs.toArray }
/-- nothing is kept in mind but, at most, the script -/
structure OnlyS (K : PySem.W.Frag) (a : Addr) (vs : List Value) (ns : List Int) (H : Hp) : Prop where
  sq : SqL K H a (ns.map V.int)
  at_ : ∀ b u, H b = some u → b = a ∧ u = .frz (scO vs) (.lst (ns.map V.int)) ∧ K.lookup a = none
theorem only_s {K : PySem.W.Frag} {h : Heap} {a : Addr} {vs : List Value} {ns : List Int} (KX : K.In h) (ha : h.get? a = some (scO vs)) (hi : IntsAre vs ns) (hl : ns.length ≤ 63) : ∃ H, OnlyS K a vs ns H := by
  cases e : K.lookup a with
  | none =>
    refine ⟨fun b => if b = a then some (.frz (scO vs) (.lst (ns.map V.int))) else none, .inl (.inr ⟨scO vs, if_pos rfl⟩), fun b u hb => ?_⟩
    by_cases hba : b = a
    · refine ⟨hba, ?_, e⟩
      have hb2 : (if b = a then some (HO.frz (scO vs) (.lst (ns.map V.int))) else none) = some u := hb
      rw [if_pos hba] at hb2
      exact (Option.some.inj hb2).symm
    · have hb2 : (if b = a then some (HO.frz (scO vs) (.lst (ns.map V.int))) else none) = some u := hb
      rw [if_neg hba] at hb2
      cases hb2
  | some o =>
    have e2 := KX a o e
    rw [ha] at e2
    obtain rfl := Option.some.inj e2
    refine ⟨fun _ => none, .inr ⟨scO vs, vs.toArray, _, e, rfl, rfl, rfl, ?_, ?_⟩, fun b u hb => ?_⟩
    · rw [List.size_toArray, hi.length]
      exact Nat.le_trans hl (by decide)
    · exact vals_ints hi
    · cases (show (none : Option HO) = some u from hb)
section
variable {P : Program} {w : World} {K : PySem.W.Frag} {mg mb : Str → Option Value} {k : Nat} {fa a : Addr} {fd : FuncData} {s : Shared} {vs : List Value} {ns : List Int}
theorem law_end (KX : K.In s.heap) (hns : s.heap.Ns mainGlobals mg) (hb : s.heap.Ns builtinsNs mb) (hbb : ∀ x : Str, x ≠ "__name__" → mb x = bootBuiltins x) (hlim : s.heap.NoLimit) (hg : s.gens = #[])
    (ha : s.heap.get? a = some (scO vs)) (hi : IntsAre vs ns) (hl : ns.length ≤ 63) (hr : Room k callerA) (hgd : callerA.guards = some [])
    (hbind : Binds K fd ["script"] []) (F : ∀ base : Heap, K.In base → base.Ns mainGlobals mg → FD P w K mg base k fa fd ["script"] spLaw) :
    codeAny (model P w) callerA (.call (.ref fa) ⟨[.ref a], []⟩) (fun r s' => r = .ok (.ret (.bool true)) ∧ OldK s.heap s'.heap ∧ s'.os = s.os ∧ AllBare s'.gens) s := by
  obtain ⟨H, hS, hO⟩ := only_s KX ha hi hl
  have free : ∀ {b : Addr} {o : Obj}, s.heap.get? b = some o → o ≠ scO vs → H b = none := fun {b o} h1 h2 => by
    cases e : H b with
    | none => rfl
    | some u =>
      obtain ⟨rfl, _, _⟩ := hO b u e
      rw [ha] at h1
      exact absurd (Option.some.inj h1).symm h2
  have ns_hid : ∀ {b : Addr} {f : Str → Option Value}, s.heap.Ns b f → (hidT s.heap H).Ns b f := fun {b f} ⟨o, es, ep, h1, h2, h3⟩ => ⟨o, es, ep, hidT_get h1 (free h1 fun z => by subst z; cases h2), h2, h3⟩
  have k_hid : K.In (hidT s.heap H) := fun b o h1 => hidT_get (KX b o h1) (by
    cases e : H b with
    | none => rfl
    | some u =>
      obtain ⟨rfl, _, h3⟩ := hO b u e
      rw [h1] at h3; cases h3)
  have hok : HOk P w H s.heap := fun b u hbu => by
    obtain ⟨rfl, rfl, _⟩ := hO b u hbu
    refine ⟨ha, ?_, vs, _, vals_ints hi, ha⟩
    rw [List.length_map]
    exact Nat.le_trans hl (by decide)
  have md : Mod K mg (hidT s.heap H) := by
    obtain ⟨mc, l1, l2⟩ := hlim
    exact { kin := k_hid, glob := ns_hid hns, blt := ⟨mb, ns_hid hb, hbb⟩, nolimit := ⟨mc, ns_hid l1, l2⟩ }
  have en : Env0 P w K mg (hidT s.heap H) callerA [] s H :=
    { frames := rfl, mod := md, bs := fun _ _ h1 => of_hidT h1, bsz := Nat.le_of_eq (hidT_size _ _), funs := trivial, frf := fun b hb => (by cases hb), hok := hok, bare := .of_eq hg }
  have hbd := hbind s [.ref a] KX rfl
  have am : AbsM K H (mup (fun _ => none) a (.rd (ns.map D.int))) := fun b o hbo => by
    by_cases hba : b = a
    · subst hba
      rw [mup_same] at hbo
      cases hbo
      exact ⟨_, hS, FzAll.ofInts ns⟩
    · rw [mup_ne hba] at hbo; cases hbo
  have hsp : spLaw [.ref a] (mup (fun _ => none) a (.rd (ns.map D.int))) (fun d _ => d = .bl true) := ⟨a, ns, rfl, mup_same, hl, fun _ _ => rfl⟩
  refine codeAny_mono ((F _ k_hid (ns_hid hns)).run callerA [] s H ⟨[.ref a], []⟩ [.ref a] [.ref a] [.ref a] _ _ hr hgd en hbd (.cons rfl .nil) (.cons (.ref a) .nil) am hsp) fun r s' hq => ?_
  match r, hq with
  | .ok (.ret u), hq =>
    obtain ⟨v, H2, hos, hbare, un, hok2, rv, _, d, m2, fz, _, rfl⟩ := hq
    cases fz
    obtain rfl : u = Value.bool true := rv
    refine ⟨rfl, OldK.of_keep fun b o hbo => ?_, hos, hbare⟩
    cases e : H b with
    | none => exact un.keep b o hbo e (fun z => by cases z) (fun z => by cases z)
    | some u =>
      obtain ⟨rfl, rfl, _⟩ := hO b u e
      have h1 := (hok2 b _ (un.frzs b _ _ e)).1
      rw [ha] at hbo
      rw [← hbo]
      exact h1
  | .error e, hq => exact False.elim hq
end
/-- the goal that the head leaves, from the law's promise -/
theorem walk_end {l : PySem.W.OpenLaw} {q : Program} {loose : List Str} {XP : (Str → Option Value) → Heap → Prop} {YP : World → Heap → Prop} {d : DefRec} {K : Params → PySem.W.Frag} {k : Nat}
    (hn : l.most = some 63) (hdf : d.params.defaults = []) (hr : Room k callerA) (hgd : callerA.guards = some []) (hY : ∀ (w : World) (h : Heap), YP w h → (K w.params).In h)
    (F : ∀ (w : World) (mg : Str → Option Value) (fa : Addr) (h : Heap), (K w.params).In h → h.Ns mainGlobals mg → mg d.name = some (.ref fa) →
      ∃ fd : FuncData, Binds (K w.params) fd ["script"] [] ∧ ∀ base : Heap, (K w.params).In base → base.Ns mainGlobals mg → FD l.prog w (K w.params) mg base k fa fd ["script"] spLaw) :
    PySem.W.WalkO q loose XP YP l.row.toRowW d [] (fun f vs => PySem.call f vs) := by
  refine Att.attach_call hn hdf fun w s₀ s₁ mg mb fa o pm cd doc a vs ns G Y ho hd hcd hmg hobj hints hlen hg => ?_
  have KX := hY w _ Y
  obtain ⟨fd, hb, hF⟩ := F w mg fa _ KX G.T.g hmg
  exact law_end KX G.T.g G.T.b G.T.builtins G.T.nolimit hg hobj hints hlen hr hgd hb hF
end SC

set_option maxHeartbeats 4000000
/-! E2: what the top has written, and the law's promise from it (written by gen_end.py). -/
namespace SC
open PySem L2 DL
/-- a def of the module, as it stands -/
structure DF (K : PySem.W.Frag) (x : Str) (st : Stmt) (ps : List Str) : Prop where
  ex : ∃ f fd, Fun K x x st f fd ∧ PySem.W.nsIn K mainGlobals x = some (some (.ref f)) ∧ Binds K fd ps []
/-- a method of the class at C -/
structure MF (K : PySem.W.Frag) (C : Addr) (x qual : Str) (st : Stmt) (ps : List Str) : Prop where
  ex : ∃ f fd, Fun K x qual st f fd ∧ Meth K C x f ∧ Binds K fd ps []
/-- its parameters take what is handed in -/
def Takes (x qual : Str) (st : Stmt) (ps : List Str) : Prop := ∀ (kV dc pm : Value) (an : Option Addr) (cd ct : Value) (us : List Value), us.length = ps.length → bindArgs (PySem.W.fnOf x qual (defArgs st) (defBody st) (defScope st) .none kV dc pm an cd ct) ⟨us, []⟩ = pure (ps.zip us)
section
variable {K : PySem.W.Frag} {x qual : Str} {st : Stmt} {ps : List Str} {C f : Addr} {od an : Option Addr} {sl : Array (Option Value)} {oc kV dc pm cd ct : Value}
theorem df_mk (b : Takes x x st ps) (a : PySem.W.nsIn K mainGlobals x = some (some (.ref f))) (l : K.lookup f = some ⟨oc, od, .func (PySem.W.fnOf x x (defArgs st) (defBody st) (defScope st) .none kV dc pm an cd ct), sl⟩) (c : PySem.W.codeIn K cd x = true) (k : PySem.W.keepIn K (.ref f) = true) : DF K x st ps :=
  ⟨f, _, fun_mk l c k, a, (fun_mk l c k).binds b⟩
theorem mf_mk (b : Takes x qual st ps) (a : PySem.W.findIn K (.ref C) x = some (some (.ref f))) (i : PySem.W.isFn K (.ref f) = true) (l : K.lookup f = some ⟨oc, od, .func (PySem.W.fnOf x qual (defArgs st) (defBody st) (defScope st) .none kV dc pm an cd ct), sl⟩) (c : PySem.W.codeIn K cd qual = true) (k : PySem.W.keepIn K (.ref f) = true) : MF K C x qual st ps :=
  ⟨f, _, fun_mk l c k, ⟨a, i, k⟩, (fun_mk l c k).binds b⟩
theorem DF.at_ {h : Heap} {mg : Str → Option Value} (d : DF K x st ps) (X : K.In h) (G : h.Ns mainGlobals mg) : ∃ f fd, DefAt K mg x st ps f fd := by
  obtain ⟨f, fd, F, a, b⟩ := d.ex
  exact ⟨f, fd, F, PySem.W.mg_of X G a, b⟩
theorem MF.at_ (d : MF K C x qual st ps) : ∃ f fd, MtAt K C x qual st ps f fd := by
  obtain ⟨f, fd, F, a, b⟩ := d.ex
  exact ⟨f, fd, F, a, b⟩
end
/-- the class, as it stands -/
structure CF (K : PySem.W.Frag) (C : Addr) : Prop where
  a : PySem.W.nsIn K mainGlobals "Runner" = some (some (.ref C))
  pg : PySem.W.plainGet K C Str.empty = true
  hd : PySem.W.hasDictIn K C = true
  po : PySem.W.plainOver K C = true
  sa : PySem.W.findIn K (.ref C) "__setattr__" = some (some (.builtin "object.__setattr__"))
  mks : PySem.W.makesIn K C = true
  kp : PySem.W.keepIn K (.ref C) = true
  no : ∀ f ∈ rfields, NoAttr K C f
theorem no_mk {K : PySem.W.Frag} {C : Addr} (n_house : PySem.W.findIn K (.ref C) "house" = some none) (n_deeds : PySem.W.findIn K (.ref C) "deeds" = some none) (n_choices : PySem.W.findIn K (.ref C) "choices" = some none) (n_next_choice : PySem.W.findIn K (.ref C) "next_choice" = some none) (n_most : PySem.W.findIn K (.ref C) "most" = some none) (n_begun : PySem.W.findIn K (.ref C) "begun" = some none) (n_trail : PySem.W.findIn K (.ref C) "trail" = some none) (n_marks : PySem.W.findIn K (.ref C) "marks" = some none) (n_stack : PySem.W.findIn K (.ref C) "stack" = some none) (n_due : PySem.W.findIn K (.ref C) "due" = some none) (n_ended : PySem.W.findIn K (.ref C) "ended" = some none) : ∀ f ∈ rfields, NoAttr K C f := fun f hf => by
  unfold rfields at hf
  simp only [List.mem_cons, List.not_mem_nil, or_false] at hf
  rcases hf with rfl | rfl | rfl | rfl | rfl | rfl | rfl | rfl | rfl | rfl | rfl <;> assumption

theorem tk_parts : Takes "parts_of" "parts_of" sParts ["deed"] := fun _ _ _ _ _ _ us hl => match us, hl with | [_], _ => rfl
theorem tk_walk : Takes "walk_of" "walk_of" sWalk ["house"] := fun _ _ _ _ _ _ us hl => match us, hl with | [_], _ => rfl
theorem tk_deeds : Takes "deeds_of" "deeds_of" sDeeds ["house"] := fun _ _ _ _ _ _ us hl => match us, hl with | [_], _ => rfl
theorem tk_slips : Takes "slips_of" "slips_of" sSlips ["house"] := fun _ _ _ _ _ _ us hl => match us, hl with | [_], _ => rfl
theorem tk_mat : Takes "meets_at" "meets_at" sMAt ["place", "deed", "slips"] := fun _ _ _ _ _ _ us hl => match us, hl with | [_, _, _], _ => rfl
theorem tk_meets : Takes "meets_of" "meets_of" sMeets ["house"] := fun _ _ _ _ _ _ us hl => match us, hl with | [_], _ => rfl
theorem tk_is : Takes "is_meet" "is_meet" sIs ["house", "thing"] := fun _ _ _ _ _ _ us hl => match us, hl with | [_, _], _ => rfl
theorem tk_overs : Takes "overs_of" "overs_of" sOvers ["kinds", "name"] := fun _ _ _ _ _ _ us hl => match us, hl with | [_, _], _ => rfl
theorem tk_under : Takes "is_under" "is_under" sUnder ["kinds", "name", "over"] := fun _ _ _ _ _ _ us hl => match us, hl with | [_, _, _], _ => rfl
theorem tk_taker : Takes "taker_for" "taker_for" sTaker ["house", "deeds", "deed", "slip"] := fun _ _ _ _ _ _ us hl => match us, hl with | [_, _, _, _], _ => rfl
theorem tk_run : Takes "run" "run" sRun ["house", "choices", "most"] := fun _ _ _ _ _ _ us hl => match us, hl with | [_, _, _], _ => rfl
theorem tk_cell : Takes "_law_cell_at" "_law_cell_at" sCell ["script", "k"] := fun _ _ _ _ _ _ us hl => match us, hl with | [_, _], _ => rfl
theorem tk_tape : Takes "_law_tape" "_law_tape" sTape ["script", "k"] := fun _ _ _ _ _ _ us hl => match us, hl with | [_, _], _ => rfl
theorem tk_digit : Takes "_law_digit" "_law_digit" sDigit ["tape", "many"] := fun _ _ _ _ _ _ us hl => match us, hl with | [_, _], _ => rfl
theorem tk_names : Takes "_law_names" "_law_names" sNames ["tape", "many"] := fun _ _ _ _ _ _ us hl => match us, hl with | [_, _], _ => rfl
theorem tk_kinds : Takes "_law_kinds" "_law_kinds" sKinds ["tape"] := fun _ _ _ _ _ _ us hl => match us, hl with | [_], _ => rfl
theorem tk_lleaf : Takes "_law_leaf" "_law_leaf" sLLeaf ["tape", "known", "around"] := fun _ _ _ _ _ _ us hl => match us, hl with | [_, _, _], _ => rfl
theorem tk_shares : Takes "_law_shares" "_law_shares" sShares ["tape", "many", "room"] := fun _ _ _ _ _ _ us hl => match us, hl with | [_, _, _], _ => rfl
theorem tk_ldeed : Takes "_law_deed" "_law_deed" sLDeed ["tape", "known", "room", "around"] := fun _ _ _ _ _ _ us hl => match us, hl with | [_, _, _, _], _ => rfl
theorem tk_lhouse : Takes "_law_house" "_law_house" sLHouse ["script", "start"] := fun _ _ _ _ _ _ us hl => match us, hl with | [_, _], _ => rfl
theorem tk_choices : Takes "_law_choices" "_law_choices" sChoices ["tape", "most"] := fun _ _ _ _ _ _ us hl => match us, hl with | [_, _], _ => rfl
theorem tk_lparts : Takes "_law_parts" "_law_parts" sLParts ["deed"] := fun _ _ _ _ _ _ us hl => match us, hl with | [_], _ => rfl
theorem tk_lwalk : Takes "_law_walk" "_law_walk" sLWalk ["place", "deed"] := fun _ _ _ _ _ _ us hl => match us, hl with | [_, _], _ => rfl
theorem tk_lall : Takes "_law_all" "_law_all" sLAll ["house"] := fun _ _ _ _ _ _ us hl => match us, hl with | [_], _ => rfl
theorem tk_lslips : Takes "_law_slips" "_law_slips" sLSlips ["house"] := fun _ _ _ _ _ _ us hl => match us, hl with | [_], _ => rfl
theorem tk_lmeets : Takes "_law_meets" "_law_meets" sLMeets ["house"] := fun _ _ _ _ _ _ us hl => match us, hl with | [_], _ => rfl
theorem tk_other : Takes "_law_other" "_law_other" sOther ["tape", "house", "meet"] := fun _ _ _ _ _ _ us hl => match us, hl with | [_, _, _], _ => rfl
theorem tk_trail : Takes "_law_trail_right" "_law_trail_right" sTrail ["trail", "due"] := fun _ _ _ _ _ _ us hl => match us, hl with | [_, _], _ => rfl
theorem tk_law : Takes "law" "law" sLaw ["script"] := fun _ _ _ _ _ _ us hl => match us, hl with | [_], _ => rfl
theorem tkm_init : Takes "__init__" "Runner.__init__" sInit ["self", "house", "choices", "most"] := fun _ _ _ _ _ _ us hl => match us, hl with | [_, _, _, _], _ => rfl
theorem tkm_choice : Takes "choice" "Runner.choice" sChoice ["self"] := fun _ _ _ _ _ _ us hl => match us, hl with | [_], _ => rfl
theorem tkm_go : Takes "go" "Runner.go" sGo ["self"] := fun _ _ _ _ _ _ us hl => match us, hl with | [_], _ => rfl
theorem tkm_finish : Takes "finish" "Runner.finish" sFinish ["self", "end"] := fun _ _ _ _ _ _ us hl => match us, hl with | [_, _], _ => rfl
theorem tkm_start : Takes "start" "Runner.start" sStart ["self", "place", "hand"] := fun _ _ _ _ _ _ us hl => match us, hl with | [_, _, _], _ => rfl
theorem tkm_leaf : Takes "leaf" "Runner.leaf" sLeaf ["self", "place", "deed", "hand"] := fun _ _ _ _ _ _ us hl => match us, hl with | [_, _, _, _], _ => rfl
theorem tkm_turn : Takes "turn" "Runner.turn" sTurn ["self", "frame"] := fun _ _ _ _ _ _ us hl => match us, hl with | [_, _], _ => rfl
theorem tkm_behind : Takes "behind" "Runner.behind" sBehind ["self", "frame", "end"] := fun _ _ _ _ _ _ us hl => match us, hl with | [_, _, _], _ => rfl
theorem tkm_outw : Takes "outward" "Runner.outward" sOutw ["self", "frame", "end"] := fun _ _ _ _ _ _ us hl => match us, hl with | [_, _, _], _ => rfl
theorem tkm_clean : Takes "behind_clean" "Runner.behind_clean" sClean ["self", "frame", "end"] := fun _ _ _ _ _ _ us hl => match us, hl with | [_, _, _], _ => rfl
theorem tkm_catch : Takes "behind_catch" "Runner.behind_catch" sCatch ["self", "frame", "slip"] := fun _ _ _ _ _ _ us hl => match us, hl with | [_, _, _], _ => rfl
/-- the names that the module does not hide -/
structure NF (K : PySem.W.Frag) : Prop where
  list : PySem.W.nsIn K mainGlobals "list" = some none
  reversed : PySem.W.nsIn K mainGlobals "reversed" = some none
  range : PySem.W.nsIn K mainGlobals "range" = some none
  len : PySem.W.nsIn K mainGlobals "len" = some none
  enumerate : PySem.W.nsIn K mainGlobals "enumerate" = some none
  int : PySem.W.nsIn K mainGlobals "int" = some none
  isinstance : PySem.W.nsIn K mainGlobals "isinstance" = some none
  repr : PySem.W.nsIn K mainGlobals "repr" = some none
  tuple : PySem.W.nsIn K mainGlobals "tuple" = some none
  sum : PySem.W.nsIn K mainGlobals "sum" = some none
  min : PySem.W.nsIn K mainGlobals "min" = some none
  max : PySem.W.nsIn K mainGlobals "max" = some none
  sorted : PySem.W.nsIn K mainGlobals "sorted" = some none
  bool : PySem.W.nsIn K mainGlobals "bool" = some none
theorem NF.tx {K : PySem.W.Frag} {h : Heap} {mg : Str → Option Value} (n : NF K) (X : K.In h) (G : h.Ns mainGlobals mg) : Tx mg :=
  ⟨PySem.W.mg_none_of X G n.list, PySem.W.mg_none_of X G n.reversed, PySem.W.mg_none_of X G n.range, PySem.W.mg_none_of X G n.len, PySem.W.mg_none_of X G n.enumerate, PySem.W.mg_none_of X G n.int, PySem.W.mg_none_of X G n.isinstance, PySem.W.mg_none_of X G n.repr, PySem.W.mg_none_of X G n.tuple, PySem.W.mg_none_of X G n.sum, PySem.W.mg_none_of X G n.min, PySem.W.mg_none_of X G n.max, PySem.W.mg_none_of X G n.sorted, PySem.W.mg_none_of X G n.bool⟩
theorem all_mk {P : Program} {w : World} {K : PySem.W.Frag} {h : Heap} {mg : Str → Option Value} {fa C : Addr} (X : K.In h) (G : h.Ns mainGlobals mg) (hfa : mg "law" = some (.ref fa)) (nf : NF K) (cf : CF K C)
    (d_parts : DF K "parts_of" sParts ["deed"])
    (d_walk : DF K "walk_of" sWalk ["house"])
    (d_deeds : DF K "deeds_of" sDeeds ["house"])
    (d_slips : DF K "slips_of" sSlips ["house"])
    (d_mat : DF K "meets_at" sMAt ["place", "deed", "slips"])
    (d_meets : DF K "meets_of" sMeets ["house"])
    (d_is : DF K "is_meet" sIs ["house", "thing"])
    (d_overs : DF K "overs_of" sOvers ["kinds", "name"])
    (d_under : DF K "is_under" sUnder ["kinds", "name", "over"])
    (d_taker : DF K "taker_for" sTaker ["house", "deeds", "deed", "slip"])
    (d_run : DF K "run" sRun ["house", "choices", "most"])
    (d_cell : DF K "_law_cell_at" sCell ["script", "k"])
    (d_tape : DF K "_law_tape" sTape ["script", "k"])
    (d_digit : DF K "_law_digit" sDigit ["tape", "many"])
    (d_names : DF K "_law_names" sNames ["tape", "many"])
    (d_kinds : DF K "_law_kinds" sKinds ["tape"])
    (d_lleaf : DF K "_law_leaf" sLLeaf ["tape", "known", "around"])
    (d_shares : DF K "_law_shares" sShares ["tape", "many", "room"])
    (d_ldeed : DF K "_law_deed" sLDeed ["tape", "known", "room", "around"])
    (d_lhouse : DF K "_law_house" sLHouse ["script", "start"])
    (d_choices : DF K "_law_choices" sChoices ["tape", "most"])
    (d_lparts : DF K "_law_parts" sLParts ["deed"])
    (d_lwalk : DF K "_law_walk" sLWalk ["place", "deed"])
    (d_lall : DF K "_law_all" sLAll ["house"])
    (d_lslips : DF K "_law_slips" sLSlips ["house"])
    (d_lmeets : DF K "_law_meets" sLMeets ["house"])
    (d_other : DF K "_law_other" sOther ["tape", "house", "meet"])
    (d_trail : DF K "_law_trail_right" sTrail ["trail", "due"])
    (d_law : DF K "law" sLaw ["script"])
    (m_init : MF K C "__init__" "Runner.__init__" sInit ["self", "house", "choices", "most"])
    (m_choice : MF K C "choice" "Runner.choice" sChoice ["self"])
    (m_go : MF K C "go" "Runner.go" sGo ["self"])
    (m_finish : MF K C "finish" "Runner.finish" sFinish ["self", "end"])
    (m_start : MF K C "start" "Runner.start" sStart ["self", "place", "hand"])
    (m_leaf : MF K C "leaf" "Runner.leaf" sLeaf ["self", "place", "deed", "hand"])
    (m_turn : MF K C "turn" "Runner.turn" sTurn ["self", "frame"])
    (m_behind : MF K C "behind" "Runner.behind" sBehind ["self", "frame", "end"])
    (m_outw : MF K C "outward" "Runner.outward" sOutw ["self", "frame", "end"])
    (m_clean : MF K C "behind_clean" "Runner.behind_clean" sClean ["self", "frame", "end"])
    (m_catch : MF K C "behind_catch" "Runner.behind_catch" sCatch ["self", "frame", "slip"])
    : ∃ fd : FuncData, Binds K fd ["script"] [] ∧ ∀ base : Heap, K.In base → base.Ns mainGlobals mg → FD P w K mg base 51 fa fd ["script"] spLaw := by
  obtain ⟨f_parts, fd_parts, D_parts⟩ := d_parts.at_ X G
  obtain ⟨f_walk, fd_walk, D_walk⟩ := d_walk.at_ X G
  obtain ⟨f_deeds, fd_deeds, D_deeds⟩ := d_deeds.at_ X G
  obtain ⟨f_slips, fd_slips, D_slips⟩ := d_slips.at_ X G
  obtain ⟨f_mat, fd_mat, D_mat⟩ := d_mat.at_ X G
  obtain ⟨f_meets, fd_meets, D_meets⟩ := d_meets.at_ X G
  obtain ⟨f_is, fd_is, D_is⟩ := d_is.at_ X G
  obtain ⟨f_overs, fd_overs, D_overs⟩ := d_overs.at_ X G
  obtain ⟨f_under, fd_under, D_under⟩ := d_under.at_ X G
  obtain ⟨f_taker, fd_taker, D_taker⟩ := d_taker.at_ X G
  obtain ⟨f_run, fd_run, D_run⟩ := d_run.at_ X G
  obtain ⟨f_cell, fd_cell, D_cell⟩ := d_cell.at_ X G
  obtain ⟨f_tape, fd_tape, D_tape⟩ := d_tape.at_ X G
  obtain ⟨f_digit, fd_digit, D_digit⟩ := d_digit.at_ X G
  obtain ⟨f_names, fd_names, D_names⟩ := d_names.at_ X G
  obtain ⟨f_kinds, fd_kinds, D_kinds⟩ := d_kinds.at_ X G
  obtain ⟨f_lleaf, fd_lleaf, D_lleaf⟩ := d_lleaf.at_ X G
  obtain ⟨f_shares, fd_shares, D_shares⟩ := d_shares.at_ X G
  obtain ⟨f_ldeed, fd_ldeed, D_ldeed⟩ := d_ldeed.at_ X G
  obtain ⟨f_lhouse, fd_lhouse, D_lhouse⟩ := d_lhouse.at_ X G
  obtain ⟨f_choices, fd_choices, D_choices⟩ := d_choices.at_ X G
  obtain ⟨f_lparts, fd_lparts, D_lparts⟩ := d_lparts.at_ X G
  obtain ⟨f_lwalk, fd_lwalk, D_lwalk⟩ := d_lwalk.at_ X G
  obtain ⟨f_lall, fd_lall, D_lall⟩ := d_lall.at_ X G
  obtain ⟨f_lslips, fd_lslips, D_lslips⟩ := d_lslips.at_ X G
  obtain ⟨f_lmeets, fd_lmeets, D_lmeets⟩ := d_lmeets.at_ X G
  obtain ⟨f_other, fd_other, D_other⟩ := d_other.at_ X G
  obtain ⟨f_trail, fd_trail, D_trail⟩ := d_trail.at_ X G
  obtain ⟨f_law, fd_law, D_law⟩ := d_law.at_ X G
  obtain ⟨g_init, gd_init, M_init⟩ := m_init.at_
  obtain ⟨g_choice, gd_choice, M_choice⟩ := m_choice.at_
  obtain ⟨g_go, gd_go, M_go⟩ := m_go.at_
  obtain ⟨g_finish, gd_finish, M_finish⟩ := m_finish.at_
  obtain ⟨g_start, gd_start, M_start⟩ := m_start.at_
  obtain ⟨g_leaf, gd_leaf, M_leaf⟩ := m_leaf.at_
  obtain ⟨g_turn, gd_turn, M_turn⟩ := m_turn.at_
  obtain ⟨g_behind, gd_behind, M_behind⟩ := m_behind.at_
  obtain ⟨g_outw, gd_outw, M_outw⟩ := m_outw.at_
  obtain ⟨g_clean, gd_clean, M_clean⟩ := m_clean.at_
  obtain ⟨g_catch, gd_catch, M_catch⟩ := m_catch.at_
  have e := hfa.symm.trans D_law.mg
  cases e
  refine ⟨_, D_law.bi, fun base _ _ => ?_⟩
  have B : Tx mg := nf.tx X G
  have kr : RC K C := ⟨⟨cf.pg, cf.hd, cf.po, cf.sa⟩, cf.no⟩
  have mk : Mk K C g_init := ⟨cf.mks, M_init.mt.at_, M_init.mt.fn, cf.kp⟩
  have hC : mg "Runner" = some (.ref C) := PySem.W.mg_of X G cf.a
  have cDigit := ok_digit (P := P) (w := w) (base := base) D_digit
  have cCell := ok_cell (P := P) (w := w) (base := base) B D_cell
  have cTape := ok_tape (P := P) (w := w) (base := base) B cCell D_tape
  have cNames := ok_names (P := P) (w := w) (base := base) B cDigit D_names
  have cKinds := ok_kinds (P := P) (w := w) (base := base) B cDigit cNames D_kinds
  have cLLeaf := ok_lleaf (P := P) (w := w) (base := base) B cDigit D_lleaf
  have cShares := ok_shares (P := P) (w := w) (base := base) B cDigit D_shares
  have cLDeed := ok_ldeed (P := P) (w := w) (base := base) B cDigit cLLeaf cShares D_ldeed 12
  have cLHouse := ok_lhouse (P := P) (w := w) (base := base) B cDigit cTape cKinds cNames cLDeed D_lhouse
  have cChoices := ok_choices (P := P) (w := w) (base := base) B cDigit D_choices
  have cLParts := ok_lparts (P := P) (w := w) (base := base) B D_lparts
  have cLWalk := ok_lwalk (P := P) (w := w) (base := base) B cLParts D_lwalk 45
  have cLAll := ok_lall (P := P) (w := w) (base := base) B cLWalk D_lall
  have cLSlips := ok_lslips (P := P) (w := w) (base := base) B cLAll D_lslips
  have cLMeets := ok_lmeets (P := P) (w := w) (base := base) B cLAll cLSlips D_lmeets
  have cParts := ok_parts (P := P) (w := w) (base := base) B D_parts
  have cWalk := ok_walk (P := P) (w := w) (base := base) B cParts D_walk
  have cDeeds := ok_deeds (P := P) (w := w) (base := base) B cWalk D_deeds
  have cSlips := ok_slips (P := P) (w := w) (base := base) B cWalk D_slips
  have cMAt := ok_mat (P := P) (w := w) (base := base) B D_mat
  have cMeets := ok_meets (P := P) (w := w) (base := base) B cWalk cSlips cMAt D_meets
  have cIs := ok_is (P := P) (w := w) (base := base) B cMeets D_is
  have cOvers := ok_overs (P := P) (w := w) (base := base) B D_overs
  have cUnder := ok_under (P := P) (w := w) (base := base) B cOvers D_under
  have cTaker := ok_taker (P := P) (w := w) (base := base) B cUnder D_taker
  have mChoice := ok_choice (P := P) (w := w) (base := base) B kr M_choice
  have mLeaf := ok_leaf (P := P) (w := w) (base := base) B kr M_leaf
  have mTurn := ok_turn (P := P) (w := w) (base := base) B kr mChoice M_turn
  have mOutw := ok_outw (P := P) (w := w) (base := base) B kr M_outw
  have mFinish := ok_finish (P := P) (w := w) (base := base) B kr M_finish
  have mClean := ok_clean (P := P) (w := w) (base := base) B kr M_clean
  have mCatch := ok_catch (P := P) (w := w) (base := base) B kr cTaker M_catch
  have mBehind := ok_behind (P := P) (w := w) (base := base) B kr mTurn mClean mCatch mOutw M_behind
  have mStart := ok_start (P := P) (w := w) (base := base) B kr cParts mLeaf mChoice mTurn M_start
  have fInit := ok_init (P := P) (w := w) (base := base) B kr cDeeds M_init
  have mGo := ok_go (P := P) (w := w) (base := base) B kr mStart mFinish mBehind M_go
  have cRun := ok_run (P := P) (w := w) (base := base) B kr mk hC fInit M_init.bi mGo D_run
  have cTrail := ok_trail (P := P) (w := w) (base := base) B D_trail
  have cOther := ok_other (P := P) (w := w) (base := base) B cDigit cLAll D_other
  exact ok_law B cLHouse cLMeets cMeets cIs cTape cRun cChoices cTrail cOther cDigit D_law
end SC

open PySem PySem.W PyProof.Rows in
set_option maxRecDepth 100000 in
set_option maxHeartbeats 0 in
theorem PySem.Challenge.cw_slipcatch_k12_whole_meets_and_trails_holds : PySem.Challenge.rw_slipcatch_k12_whole_meets_and_trails.Holds := by
  w_on; o_law; k_head; (case hw => w_witness2)
  k_fill
  refine SC.walk_end (l := PySem.Challenge.rw_slipcatch_k12_whole_meets_and_trails) (k := 51) rfl rfl ⟨rfl, by decide, by decide⟩ rfl (fun w h Y => PySem.W.kIn_of Y) ?F
  case F =>
    intro w mg fa h KX G hmg
    refine' SC.all_mk KX G hmg ?nf ?cf ?d_parts ?d_walk ?d_deeds ?d_slips ?d_mat ?d_meets ?d_is ?d_overs ?d_under ?d_taker ?d_run ?d_cell ?d_tape ?d_digit ?d_names ?d_kinds ?d_lleaf ?d_shares ?d_ldeed ?d_lhouse ?d_choices ?d_lparts ?d_lwalk ?d_lall ?d_lslips ?d_lmeets ?d_other ?d_trail ?d_law ?m_init ?m_choice ?m_go ?m_finish ?m_start ?m_leaf ?m_turn ?m_behind ?m_outw ?m_clean ?m_catch
    (case nf => refine' ⟨?z_list, ?z_reversed, ?z_range, ?z_len, ?z_enumerate, ?z_int, ?z_isinstance, ?z_repr, ?z_tuple, ?z_sum, ?z_min, ?z_max, ?z_sorted, ?z_bool⟩; (case z_list => k_is); (case z_reversed => k_is); (case z_range => k_is); (case z_len => k_is); (case z_enumerate => k_is); (case z_int => k_is); (case z_isinstance => k_is); (case z_repr => k_is); (case z_tuple => k_is); (case z_sum => k_is); (case z_min => k_is); (case z_max => k_is); (case z_sorted => k_is); (case z_bool => k_is))
    (case cf => refine' ⟨?ca, ?pg, ?hd, ?po, ?sa, ?mk, ?kp, SC.no_mk ?n_house ?n_deeds ?n_choices ?n_next_choice ?n_most ?n_begun ?n_trail ?n_marks ?n_stack ?n_due ?n_ended⟩; (case ca => k_is); (case pg => k_is); (case hd => k_is); (case po => k_is); (case sa => k_is); (case mk => k_is); (case kp => k_is); (case n_house => k_is); (case n_deeds => k_is); (case n_choices => k_is); (case n_next_choice => k_is); (case n_most => k_is); (case n_begun => k_is); (case n_trail => k_is); (case n_marks => k_is); (case n_stack => k_is); (case n_due => k_is); (case n_ended => k_is))
    (case d_parts => refine' SC.df_mk SC.tk_parts ?a_parts ?l_parts ?c_parts ?k_parts; (case a_parts => k_is); (case l_parts => k_is); (case c_parts => k_is); (case k_parts => k_is))
    (case d_walk => refine' SC.df_mk SC.tk_walk ?a_walk ?l_walk ?c_walk ?k_walk; (case a_walk => k_is); (case l_walk => k_is); (case c_walk => k_is); (case k_walk => k_is))
    (case d_deeds => refine' SC.df_mk SC.tk_deeds ?a_deeds ?l_deeds ?c_deeds ?k_deeds; (case a_deeds => k_is); (case l_deeds => k_is); (case c_deeds => k_is); (case k_deeds => k_is))
    (case d_slips => refine' SC.df_mk SC.tk_slips ?a_slips ?l_slips ?c_slips ?k_slips; (case a_slips => k_is); (case l_slips => k_is); (case c_slips => k_is); (case k_slips => k_is))
    (case d_mat => refine' SC.df_mk SC.tk_mat ?a_mat ?l_mat ?c_mat ?k_mat; (case a_mat => k_is); (case l_mat => k_is); (case c_mat => k_is); (case k_mat => k_is))
    (case d_meets => refine' SC.df_mk SC.tk_meets ?a_meets ?l_meets ?c_meets ?k_meets; (case a_meets => k_is); (case l_meets => k_is); (case c_meets => k_is); (case k_meets => k_is))
    (case d_is => refine' SC.df_mk SC.tk_is ?a_is ?l_is ?c_is ?k_is; (case a_is => k_is); (case l_is => k_is); (case c_is => k_is); (case k_is => k_is))
    (case d_overs => refine' SC.df_mk SC.tk_overs ?a_overs ?l_overs ?c_overs ?k_overs; (case a_overs => k_is); (case l_overs => k_is); (case c_overs => k_is); (case k_overs => k_is))
    (case d_under => refine' SC.df_mk SC.tk_under ?a_under ?l_under ?c_under ?k_under; (case a_under => k_is); (case l_under => k_is); (case c_under => k_is); (case k_under => k_is))
    (case d_taker => refine' SC.df_mk SC.tk_taker ?a_taker ?l_taker ?c_taker ?k_taker; (case a_taker => k_is); (case l_taker => k_is); (case c_taker => k_is); (case k_taker => k_is))
    (case d_run => refine' SC.df_mk SC.tk_run ?a_run ?l_run ?c_run ?k_run; (case a_run => k_is); (case l_run => k_is); (case c_run => k_is); (case k_run => k_is))
    (case d_cell => refine' SC.df_mk SC.tk_cell ?a_cell ?l_cell ?c_cell ?k_cell; (case a_cell => k_is); (case l_cell => k_is); (case c_cell => k_is); (case k_cell => k_is))
    (case d_tape => refine' SC.df_mk SC.tk_tape ?a_tape ?l_tape ?c_tape ?k_tape; (case a_tape => k_is); (case l_tape => k_is); (case c_tape => k_is); (case k_tape => k_is))
    (case d_digit => refine' SC.df_mk SC.tk_digit ?a_digit ?l_digit ?c_digit ?k_digit; (case a_digit => k_is); (case l_digit => k_is); (case c_digit => k_is); (case k_digit => k_is))
    (case d_names => refine' SC.df_mk SC.tk_names ?a_names ?l_names ?c_names ?k_names; (case a_names => k_is); (case l_names => k_is); (case c_names => k_is); (case k_names => k_is))
    (case d_kinds => refine' SC.df_mk SC.tk_kinds ?a_kinds ?l_kinds ?c_kinds ?k_kinds; (case a_kinds => k_is); (case l_kinds => k_is); (case c_kinds => k_is); (case k_kinds => k_is))
    (case d_lleaf => refine' SC.df_mk SC.tk_lleaf ?a_lleaf ?l_lleaf ?c_lleaf ?k_lleaf; (case a_lleaf => k_is); (case l_lleaf => k_is); (case c_lleaf => k_is); (case k_lleaf => k_is))
    (case d_shares => refine' SC.df_mk SC.tk_shares ?a_shares ?l_shares ?c_shares ?k_shares; (case a_shares => k_is); (case l_shares => k_is); (case c_shares => k_is); (case k_shares => k_is))
    (case d_ldeed => refine' SC.df_mk SC.tk_ldeed ?a_ldeed ?l_ldeed ?c_ldeed ?k_ldeed; (case a_ldeed => k_is); (case l_ldeed => k_is); (case c_ldeed => k_is); (case k_ldeed => k_is))
    (case d_lhouse => refine' SC.df_mk SC.tk_lhouse ?a_lhouse ?l_lhouse ?c_lhouse ?k_lhouse; (case a_lhouse => k_is); (case l_lhouse => k_is); (case c_lhouse => k_is); (case k_lhouse => k_is))
    (case d_choices => refine' SC.df_mk SC.tk_choices ?a_choices ?l_choices ?c_choices ?k_choices; (case a_choices => k_is); (case l_choices => k_is); (case c_choices => k_is); (case k_choices => k_is))
    (case d_lparts => refine' SC.df_mk SC.tk_lparts ?a_lparts ?l_lparts ?c_lparts ?k_lparts; (case a_lparts => k_is); (case l_lparts => k_is); (case c_lparts => k_is); (case k_lparts => k_is))
    (case d_lwalk => refine' SC.df_mk SC.tk_lwalk ?a_lwalk ?l_lwalk ?c_lwalk ?k_lwalk; (case a_lwalk => k_is); (case l_lwalk => k_is); (case c_lwalk => k_is); (case k_lwalk => k_is))
    (case d_lall => refine' SC.df_mk SC.tk_lall ?a_lall ?l_lall ?c_lall ?k_lall; (case a_lall => k_is); (case l_lall => k_is); (case c_lall => k_is); (case k_lall => k_is))
    (case d_lslips => refine' SC.df_mk SC.tk_lslips ?a_lslips ?l_lslips ?c_lslips ?k_lslips; (case a_lslips => k_is); (case l_lslips => k_is); (case c_lslips => k_is); (case k_lslips => k_is))
    (case d_lmeets => refine' SC.df_mk SC.tk_lmeets ?a_lmeets ?l_lmeets ?c_lmeets ?k_lmeets; (case a_lmeets => k_is); (case l_lmeets => k_is); (case c_lmeets => k_is); (case k_lmeets => k_is))
    (case d_other => refine' SC.df_mk SC.tk_other ?a_other ?l_other ?c_other ?k_other; (case a_other => k_is); (case l_other => k_is); (case c_other => k_is); (case k_other => k_is))
    (case d_trail => refine' SC.df_mk SC.tk_trail ?a_trail ?l_trail ?c_trail ?k_trail; (case a_trail => k_is); (case l_trail => k_is); (case c_trail => k_is); (case k_trail => k_is))
    (case d_law => refine' SC.df_mk SC.tk_law ?a_law ?l_law ?c_law ?k_law; (case a_law => k_is); (case l_law => k_is); (case c_law => k_is); (case k_law => k_is))
    (case m_init => refine' SC.mf_mk SC.tkm_init ?b_init ?i_init ?q_init ?e_init ?h_init; (case b_init => k_is); (case i_init => k_is); (case q_init => k_is); (case e_init => k_is); (case h_init => k_is))
    (case m_choice => refine' SC.mf_mk SC.tkm_choice ?b_choice ?i_choice ?q_choice ?e_choice ?h_choice; (case b_choice => k_is); (case i_choice => k_is); (case q_choice => k_is); (case e_choice => k_is); (case h_choice => k_is))
    (case m_go => refine' SC.mf_mk SC.tkm_go ?b_go ?i_go ?q_go ?e_go ?h_go; (case b_go => k_is); (case i_go => k_is); (case q_go => k_is); (case e_go => k_is); (case h_go => k_is))
    (case m_finish => refine' SC.mf_mk SC.tkm_finish ?b_finish ?i_finish ?q_finish ?e_finish ?h_finish; (case b_finish => k_is); (case i_finish => k_is); (case q_finish => k_is); (case e_finish => k_is); (case h_finish => k_is))
    (case m_start => refine' SC.mf_mk SC.tkm_start ?b_start ?i_start ?q_start ?e_start ?h_start; (case b_start => k_is); (case i_start => k_is); (case q_start => k_is); (case e_start => k_is); (case h_start => k_is))
    (case m_leaf => refine' SC.mf_mk SC.tkm_leaf ?b_leaf ?i_leaf ?q_leaf ?e_leaf ?h_leaf; (case b_leaf => k_is); (case i_leaf => k_is); (case q_leaf => k_is); (case e_leaf => k_is); (case h_leaf => k_is))
    (case m_turn => refine' SC.mf_mk SC.tkm_turn ?b_turn ?i_turn ?q_turn ?e_turn ?h_turn; (case b_turn => k_is); (case i_turn => k_is); (case q_turn => k_is); (case e_turn => k_is); (case h_turn => k_is))
    (case m_behind => refine' SC.mf_mk SC.tkm_behind ?b_behind ?i_behind ?q_behind ?e_behind ?h_behind; (case b_behind => k_is); (case i_behind => k_is); (case q_behind => k_is); (case e_behind => k_is); (case h_behind => k_is))
    (case m_outw => refine' SC.mf_mk SC.tkm_outw ?b_outw ?i_outw ?q_outw ?e_outw ?h_outw; (case b_outw => k_is); (case i_outw => k_is); (case q_outw => k_is); (case e_outw => k_is); (case h_outw => k_is))
    (case m_clean => refine' SC.mf_mk SC.tkm_clean ?b_clean ?i_clean ?q_clean ?e_clean ?h_clean; (case b_clean => k_is); (case i_clean => k_is); (case q_clean => k_is); (case e_clean => k_is); (case h_clean => k_is))
    (case m_catch => refine' SC.mf_mk SC.tkm_catch ?b_catch ?i_catch ?q_catch ?e_catch ?h_catch; (case b_catch => k_is); (case i_catch => k_is); (case q_catch => k_is); (case e_catch => k_is); (case h_catch => k_is))

