import PyProof.Rows.All
import Wide.All
import OpenK.AllK
import Wide.FinOn
import HandS.ForMost
import HandS.Walk
import HandS.Deep
import HandS.TupAny
import HandS.Conv
import HandS.IsInst
import HandS.Flow
import HandS.NoneIn
import HandS.Defaults
import HandS.DictTup
import HandS.HeadHook2
import PyProof.ReprBulk
import PyProof.ReprRoads
import PySem.Challenge.RW_placedanyhow_k16_whole_steps_of_a_plain
import HandS.SetFor
import KE.SortKeyHeap
import HandS.SortKw
import HandS.Ends
import KE.KStateDown
import HandS.More
import HandS.Words
import HandS.WordsExc
import HandS.Head0
import HandS.Head1
import HandS.Head2
import HandS.HeadEnd
import HandS.HeadHook1
import HandS.HeadHook3
import HandS.HeadHook4
set_option Elab.async false
set_option linter.all false
set_option maxRecDepth 100000
set_option maxHeartbeats 0
namespace Dl
open PySem L2 PySem.Spec PyProof.Rows

abbrev St := L2.St
/-! ### values without a heap -/
inductive D where
  | non | bl (b : Bool) | int (i : Int) | str (x : Str) | tup (ds : List D) | lst (ds : List D) | ref (a : Addr)
inductive MO where
  | lst (ds : List D) | dK (kvs : List (Key × D)) | dT (kvs : List (List Key × D))
abbrev Mh := Addr → Option MO

mutual
inductive Rl (K : PySem.W.Frag) (H : Hp) : V → D → Prop
  | non : Rl K H .non .non
  | bl (b : Bool) : Rl K H (.bl b) (.bl b)
  | int (i : Int) : Rl K H (.int i) (.int i)
  | str (x : Str) : Rl K H (.str x) (.str x)
  | tup {a : Addr} {xs : List V} {ds : List D} : SqT K H a xs → Rls K H xs ds → Rl K H (.ref a) (.tup ds)
  | lst {a : Addr} {o : Obj} {xs : List V} {ds : List D} : H a = some (.frz o (.lst xs)) → Rls K H xs ds → Rl K H (.ref a) (.lst ds)
  | ref (a : Addr) : Rl K H (.ref a) (.ref a)
inductive Rls (K : PySem.W.Frag) (H : Hp) : List V → List D → Prop
  | nil : Rls K H [] []
  | cons {v : V} {vs : List V} {d : D} {ds : List D} : Rl K H v d → Rls K H vs ds → Rls K H (v :: vs) (d :: ds)
end

structure Keep (H H' : Hp) : Prop where
  tup : ∀ a xs, H a = some (.tup xs) → H' a = some (.tup xs)
  frz : ∀ a o u, H a = some (.frz o u) → H' a = some (.frz o u)
theorem Keep.refl {H : Hp} : Keep H H := ⟨fun _ _ h => h, fun _ _ _ h => h⟩
theorem Keep.trans {H H1 H2 : Hp} (a : Keep H H1) (b : Keep H1 H2) : Keep H H2 := ⟨fun c xs h => b.tup c xs (a.tup c xs h), fun c o u h => b.frz c o u (a.frz c o u h)⟩
theorem Keep.new {H : Hp} {p : Addr} {o : HO} (h : H p = none) : Keep H (upd H p o) :=
  ⟨fun a xs e => by rw [upd_ne (ne_of_none e h)]; exact e, fun a ob u e => by rw [upd_ne (ne_of_none e h)]; exact e⟩
theorem Keep.mutd {H : Hp} {p : Addr} {o u : HO} (h : H p = some u) (mu : Mut (some u)) : Keep H (upd H p o) :=
  ⟨fun a xs e => by rw [upd_ne (fun z => by rw [z, h] at e; cases e; exact mu)]; exact e, fun a ob v e => by rw [upd_ne (fun z => by rw [z, h] at e; cases e; exact mu)]; exact e⟩
theorem Keep.sqT {K : PySem.W.Frag} {H H' : Hp} {a : Addr} {xs : List V} (k : Keep H H') (h : SqT K H a xs) : SqT K H' a xs := by
  rcases h with (h | ⟨o, h⟩) | h
  · exact .inl (.inl (k.tup _ _ h))
  · exact .inl (.inr ⟨o, k.frz _ _ _ h⟩)
  · exact .inr h

mutual
theorem Rl.mono {K : PySem.W.Frag} {H H' : Hp} (k : Keep H H') : ∀ {v : V} {d : D}, Rl K H v d → Rl K H' v d
  | _, _, .non => .non
  | _, _, .bl b => .bl b
  | _, _, .int i => .int i
  | _, _, .str x => .str x
  | _, _, .tup h r => .tup (k.sqT h) (Rls.mono k r)
  | _, _, .lst h r => .lst (k.frz _ _ _ h) (Rls.mono k r)
  | _, _, .ref a => .ref a
theorem Rls.mono {K : PySem.W.Frag} {H H' : Hp} (k : Keep H H') : ∀ {vs : List V} {ds : List D}, Rls K H vs ds → Rls K H' vs ds
  | _, _, .nil => .nil
  | _, _, .cons h r => .cons (Rl.mono k h) (Rls.mono k r)
end
section
variable {K : PySem.W.Frag} {H H' : Hp}
theorem Rls.length : ∀ {vs : List V} {ds : List D}, Rls K H vs ds → vs.length = ds.length
  | _, _, .nil => rfl
  | _, _, .cons _ r => congrArg Nat.succ (Rls.length r)
theorem Rls.get : ∀ {vs : List V} {ds : List D} {i : Nat} {d : D}, Rls K H vs ds → ds[i]? = some d → ∃ v, vs[i]? = some v ∧ Rl K H v d
  | _, _, _, _, .nil, e => by simp at e
  | _, _, 0, _, .cons h _, e => by simp at e; subst e; exact ⟨_, rfl, h⟩
  | _, _, i + 1, d, .cons _ r, e => by
    obtain ⟨v, h1, h2⟩ := Rls.get (i := i) (d := d) r (by simpa using e)
    exact ⟨v, by simpa using h1, h2⟩
theorem Rls.get' : ∀ {vs : List V} {ds : List D} {i : Nat} {v : V}, Rls K H vs ds → vs[i]? = some v → ∃ d, ds[i]? = some d ∧ Rl K H v d
  | _, _, _, _, .nil, e => by simp at e
  | _, _, 0, _, .cons h _, e => by simp at e; subst e; exact ⟨_, rfl, h⟩
  | _, _, i + 1, v, .cons _ r, e => by
    obtain ⟨d, h1, h2⟩ := Rls.get' (i := i) (v := v) r (by simpa using e)
    exact ⟨d, by simpa using h1, h2⟩
theorem Rls.append : ∀ {xs ys : List V} {ds es : List D}, Rls K H xs ds → Rls K H ys es → Rls K H (xs ++ ys) (ds ++ es)
  | _, _, _, _, .nil, s => s
  | _, _, _, _, .cons h r, s => .cons h (Rls.append r s)
theorem Rls.take : ∀ {xs : List V} {ds : List D} (n : Nat), Rls K H xs ds → Rls K H (xs.take n) (ds.take n)
  | _, _, 0, _ => .nil
  | _, _, _ + 1, .nil => .nil
  | _, _, n + 1, .cons h r => .cons h (Rls.take n r)
theorem Rls.drop : ∀ {xs : List V} {ds : List D} (n : Nat), Rls K H xs ds → Rls K H (xs.drop n) (ds.drop n)
  | _, _, 0, r => r
  | _, _, _ + 1, .nil => .nil
  | _, _, n + 1, .cons _ r => Rls.drop n r
theorem Rls.set {x : V} {d : D} (h : Rl K H x d) : ∀ {xs : List V} {ds : List D} (i : Nat), Rls K H xs ds → Rls K H (xs.set i x) (ds.set i d)
  | _, _, _, .nil => .nil
  | _, _, 0, .cons _ r => .cons h r
  | _, _, i + 1, .cons q r => .cons q (Rls.set h i r)
theorem Rls.eraseIdx : ∀ {xs : List V} {ds : List D} (i : Nat), Rls K H xs ds → Rls K H (xs.eraseIdx i) (ds.eraseIdx i)
  | _, _, _, .nil => .nil
  | _, _, 0, .cons _ r => r
  | _, _, i + 1, .cons q r => .cons q (Rls.eraseIdx i r)
theorem Rls.rep {x : V} {d : D} (h : Rl K H x d) : ∀ n : Nat, Rls K H (List.replicate n x) (List.replicate n d)
  | 0 => .nil
  | n + 1 => .cons h (Rls.rep h n)
end

/-! ### the mutable heap -/
inductive RO (K : PySem.W.Frag) (H : Hp) : MO → HO → Prop
  | lst {ds : List D} {xs : List V} : Rls K H xs ds → RO K H (.lst ds) (.lst xs)
  | dK {kvs : List (Key × D)} {ks : List (Key × V)} : Paired (fun (p : Key × V) (q : Key × D) => p.1 = q.1 ∧ Rl K H p.2 q.2) ks kvs → RO K H (.dK kvs) (.dK ks)
  | dT {kvs : List (List Key × D)} {ks : List (List Key × V)} : Paired (fun (p : List Key × V) (q : List Key × D) => p.1 = q.1 ∧ Rl K H p.2 q.2) ks kvs → RO K H (.dT kvs) (.dT ks)
theorem RO.mono {K : PySem.W.Frag} {H H' : Hp} {mo : MO} {ho : HO} (k : Keep H H') (h : RO K H mo ho) : RO K H' mo ho := by
  cases h with
  | lst r => exact .lst (r.mono k)
  | dK r => exact .dK (L2.Paired.mapP r fun _ _ z => ⟨z.1, z.2.mono k⟩)
  | dT r => exact .dT (L2.Paired.mapP r fun _ _ z => ⟨z.1, z.2.mono k⟩)
theorem RO.mut {K : PySem.W.Frag} {H : Hp} {mo : MO} {ho : HO} (h : RO K H mo ho) : Mut (some ho) := by
  cases h <;> trivial
def RM (K : PySem.W.Frag) (M : Mh) (H : Hp) : Prop := ∀ a mo, M a = some mo → ∃ ho, H a = some ho ∧ RO K H mo ho
def mupd (M : Mh) (a : Addr) (o : MO) : Mh := fun b => if b = a then some o else M b
def mdel (M : Mh) (a : Addr) : Mh := fun b => if b = a then none else M b
theorem mupd_same {M : Mh} {a : Addr} {o : MO} : mupd M a o a = some o := by unfold mupd; rw [if_pos rfl]
theorem mupd_ne {M : Mh} {a b : Addr} {o : MO} (h : b ≠ a) : mupd M a o b = M b := by unfold mupd; rw [if_neg h]
theorem mupd_mupd {M : Mh} {a : Addr} {o u : MO} : mupd (mupd M a o) a u = mupd M a u := by
  funext b; unfold mupd; split <;> rfl
theorem mdel_ne {M : Mh} {a b : Addr} (h : b ≠ a) : mdel M a b = M b := by unfold mdel; rw [if_neg h]
theorem mdel_mupd {M : Mh} {a : Addr} {o : MO} (h : M a = none) : mdel (mupd M a o) a = M := by
  funext b; unfold mdel mupd
  by_cases e : b = a
  · rw [if_pos e, e, h]
  · rw [if_neg e, if_neg e]
theorem mne_of {M : Mh} {a b : Addr} {o : MO} (h : M a = some o) (h' : M b = none) : a ≠ b := by
  intro z; subst z; rw [h] at h'; cases h'
theorem mne_of2 {M : Mh} {a b : Addr} {o u : MO} (h : M a = some o) (h' : M b = some u) (d : o ≠ u) : a ≠ b := by
  intro z; subst z; rw [h] at h'; exact d (Option.some.inj h')
section
variable {K : PySem.W.Frag} {M : Mh} {H : Hp} {p : Addr}
theorem RM.free (h : RM K M H) (hp : H p = none) : M p = none := by
  cases e : M p with
  | none => rfl
  | some mo => obtain ⟨ho, e2, _⟩ := h p mo e; rw [hp] at e2; cases e2
/-- a new object, not told to M -/
theorem RM.new {o : HO} (h : RM K M H) (hp : H p = none) : RM K M (upd H p o) := fun a mo e => by
  obtain ⟨ho, e2, r⟩ := h a mo e
  exact ⟨ho, by rw [upd_ne (ne_of_none e2 hp)]; exact e2, r.mono (.new hp)⟩
/-- a new object, told -/
theorem RM.add {o : HO} {mo : MO} (h : RM K M H) (hp : H p = none) (r : RO K (upd H p o) mo o) : RM K (mupd M p mo) (upd H p o) := fun a m e => by
  by_cases ha : a = p
  · subst ha; rw [mupd_same] at e; cases e; exact ⟨o, upd_same, r⟩
  · rw [mupd_ne ha] at e
    obtain ⟨ho, e2, r2⟩ := h a m e
    exact ⟨ho, by rw [upd_ne ha]; exact e2, r2.mono (.new hp)⟩
/-- an object is changed -/
theorem RM.put {o : HO} {mo mu : MO} (h : RM K M H) (hp : M p = some mu) (r : RO K (upd H p o) mo o) : RM K (mupd M p mo) (upd H p o) := fun a m e => by
  obtain ⟨ho0, e0, r0⟩ := h p mu hp
  by_cases ha : a = p
  · subst ha; rw [mupd_same] at e; cases e; exact ⟨o, upd_same, r⟩
  · rw [mupd_ne ha] at e
    obtain ⟨ho, e2, r2⟩ := h a m e
    exact ⟨ho, by rw [upd_ne ha]; exact e2, r2.mono (.mutd e0 r0.mut)⟩
theorem RM.keepMut (h : RM K M H) {mu : MO} (hp : M p = some mu) {o : HO} : Keep H (upd H p o) := by
  obtain ⟨ho0, e0, r0⟩ := h p mu hp
  exact .mutd e0 r0.mut
theorem RM.sub {M' : Mh} (h : RM K M H) (hs : ∀ a mo, M' a = some mo → M a = some mo) : RM K M' H := fun a mo e => h a mo (hs a mo e)
theorem RM.none : RM K (fun _ => none) H := fun _ _ e => nomatch e
end

/-! ### slots -/
abbrev Sd := List (Option D)
abbrev KD := D → Mh → Prop
def RlO (K : PySem.W.Frag) (H : Hp) (v : Option V) (d : Option D) : Prop := match d with
  | none => True
  | some d => ∃ x, v = some x ∧ Rl K H x d
abbrev RS (K : PySem.W.Frag) (H : Hp) : St → Sd → Prop := Paired (RlO K H)
section
variable {K : PySem.W.Frag} {H H' : Hp}
theorem RlO.mono {v : Option V} {d : Option D} (k : Keep H H') (h : RlO K H v d) : RlO K H' v d := by
  cases d with
  | none => trivial
  | some d => obtain ⟨x, e, r⟩ := h; exact ⟨x, e, r.mono k⟩
theorem RSmono {σ : St} {σd : Sd} (k : Keep H H') (h : RS K H σ σd) : RS K H' σ σd := L2.Paired.mapP h fun _ _ r => RlO.mono k r
theorem RSget : ∀ {σ : St} {σd : Sd} {i : Nat} {d : D}, RS K H σ σd → σd[i]? = some (some d) → ∃ v, σ[i]? = some (some v) ∧ Rl K H v d
  | _, _, _, _, .nil, e => by simp at e
  | _, _, 0, _, .cons h _, e => by
    simp at e; subst e
    obtain ⟨x, e, r⟩ := h
    exact ⟨x, by rw [e]; rfl, r⟩
  | _, _, i + 1, d, .cons _ r, e => by
    obtain ⟨v, h1, h2⟩ := RSget (i := i) (d := d) r (by simpa using e)
    exact ⟨v, by simpa using h1, h2⟩
theorem RSset {x : V} {d : D} (h : Rl K H x d) : ∀ {σ : St} {σd : Sd} (i : Nat), RS K H σ σd → RS K H (σ.set i (some x)) (σd.set i (some d))
  | _, _, _, .nil => .nil
  | _, _, 0, .cons _ r => .cons ⟨x, rfl, h⟩ r
  | _, _, i + 1, .cons q r => .cons q (RSset h i r)
end

/-! ### lifted readings -/
/-- what is wanted of a value, told of data -/
def Up (K : PySem.W.Frag) (H : Hp) (Q : KD) : VK := fun u H' => ∃ d M, Keep H H' ∧ Rl K H' u d ∧ RM K M H' ∧ Q d M
abbrev TED := Sd → Mh → KD → Prop
def lft (K : PySem.W.Frag) (t : TED) : TE := fun σ H Q => ∃ σd M Qd, RS K H σ σd ∧ RM K M H ∧ t σd M Qd ∧ ∀ u H', Up K H Qd u H' → Q u H'
abbrev DE (X : Cx) (e : Expr) (t : TED) : Prop := PE X e (lft X.K t)
abbrev TTD := Sd → Mh → (Bool → Mh → Prop) → Prop
def lftT (K : PySem.W.Frag) (t : TTD) : TT := fun σ H Q => ∃ σd M Qd, RS K H σ σd ∧ RM K M H ∧ t σd M Qd ∧ ∀ b H' M', Keep H H' → RM K M' H' → Qd b M' → Q b H'
abbrev DT (X : Cx) (e : Expr) (t : TTD) : Prop := PT X e (lftT X.K t)
abbrev DW (X : Cx) (e : Expr) (t : TTD) : Prop := PW X e (lftT X.K t)
abbrev TAD := Sd → Mh → (List D → Mh → Prop) → Prop
def lftA (K : PySem.W.Frag) (t : TAD) : TA := fun σ H Q => ∃ σd M Qd, RS K H σ σd ∧ RM K M H ∧ t σd M Qd ∧ ∀ us H' ds M', Keep H H' → Rls K H' us ds → RM K M' H' → Qd ds M' → Q us H'
abbrev DA (X : Cx) (es : List Expr) (t : TAD) : Prop := PA X es (lftA X.K t)
structure EndsD where
  nx : Sd → Mh → Prop
  rt : KD
  bk : Sd → Mh → Prop := fun _ _ => False
  ct : Sd → Mh → Prop := fun _ _ => False
abbrev TSD := EndsD → Sd → Mh → Prop
def UpS (K : PySem.W.Frag) (H : Hp) (q : Sd → Mh → Prop) : St → Hp → Prop := fun σ' H' => ∃ σd M, Keep H H' ∧ RS K H' σ' σd ∧ RM K M H' ∧ q σd M
structure EndOk (K : PySem.W.Frag) (H : Hp) (E : EndsD) (D' : Ends) : Prop where
  nx : ∀ σ' H', UpS K H E.nx σ' H' → D'.nx σ' H'
  rt : ∀ v H', Up K H E.rt v H' → D'.rt v H'
  bk : ∀ σ' H', UpS K H E.bk σ' H' → D'.bk σ' H'
  ct : ∀ σ' H', UpS K H E.ct σ' H' → D'.ct σ' H'
def lftS (K : PySem.W.Frag) (t : TSD) : TS := fun D' σ H => ∃ σd M E, RS K H σ σd ∧ RM K M H ∧ t E σd M ∧ EndOk K H E D'
abbrev DS (X : Cx) (st : Stmt) (t : TSD) : Prop := PS X st (lftS X.K t)
abbrev DSs (X : Cx) (st : List Stmt) (t : TSD) : Prop := PSs X st (lftS X.K t)
abbrev TGD := D → Sd → Mh → (Sd → Mh → Prop) → Prop
def lftG (K : PySem.W.Frag) (t : TGD) : TG := fun v σ H Q => ∃ d σd M Qd, Rl K H v d ∧ RS K H σ σd ∧ RM K M H ∧ t d σd M Qd ∧ ∀ σ' H', UpS K H Qd σ' H' → Q σ' H'
abbrev DG (X : Cx) (tg : Expr) (t : TGD) : Prop := PG X tg (lftG X.K t)
abbrev TGsD := List D → Sd → Mh → (Sd → Mh → Prop) → Prop
def lftGs (K : PySem.W.Frag) (t : TGsD) : TGs := fun vs σ H Q => ∃ ds σd M Qd, Rls K H vs ds ∧ RS K H σ σd ∧ RM K M H ∧ t ds σd M Qd ∧ ∀ σ' H', UpS K H Qd σ' H' → Q σ' H'
abbrev DGs (X : Cx) (tgs : List Expr) (t : TGsD) : Prop := PGs X tgs (lftGs X.K t)

section
variable {K : PySem.W.Frag} {H H1 : Hp} {Q : KD}
theorem Up.from (k : Keep H H1) {u : V} {H' : Hp} (h : Up K H1 Q u H') : Up K H Q u H' := by
  obtain ⟨d, M, k2, r⟩ := h
  exact ⟨d, M, k.trans k2, r⟩
theorem UpS.from {q : Sd → Mh → Prop} (k : Keep H H1) {σ : St} {H' : Hp} (h : UpS K H1 q σ H') : UpS K H q σ H' := by
  obtain ⟨d, M, k2, r⟩ := h
  exact ⟨d, M, k.trans k2, r⟩
theorem EndOk.from {E : EndsD} {D' : Ends} (k : Keep H H1) (h : EndOk K H E D') : EndOk K H1 E D' :=
  ⟨fun σ' H' q => h.nx σ' H' (q.from k), fun v H' q => h.rt v H' (q.from k), fun σ' H' q => h.bk σ' H' (q.from k), fun σ' H' q => h.ct σ' H' (q.from k)⟩
theorem EndOk.with {E : EndsD} {D' : Ends} (h : EndOk K H E D') {q : Sd → Mh → Prop} {p : St → Hp → Prop} (hq : ∀ σ' H', UpS K H q σ' H' → p σ' H') : EndOk K H { E with nx := q } { D' with nx := p } :=
  ⟨hq, h.rt, h.bk, h.ct⟩
end
section
variable {X : Cx}
theorem _root_.L2.PE.imp {e : Expr} {t t' : TE} (h : PE X e t) (i : ∀ σ H Q, t' σ H Q → t σ H Q) : PE X e t' := ⟨fun pins s σ H Q I q => h.run pins s σ H Q I (i σ H Q q)⟩
theorem _root_.L2.PT.imp {e : Expr} {t t' : TT} (h : PT X e t) (i : ∀ σ H Q, t' σ H Q → t σ H Q) : PT X e t' := ⟨fun pins s σ H Q I q => h.run pins s σ H Q I (i σ H Q q)⟩
theorem _root_.L2.PW.imp {e : Expr} {t t' : TT} (h : PW X e t) (i : ∀ σ H Q, t' σ H Q → t σ H Q) : PW X e t' := ⟨fun wh pins s σ H Q I q => h.run wh pins s σ H Q I (i σ H Q q)⟩
theorem _root_.L2.PA.imp {es : List Expr} {t t' : TA} (h : PA X es t) (i : ∀ σ H Q, t' σ H Q → t σ H Q) : PA X es t' := ⟨fun pos pins s σ H Q I q => h.run pos pins s σ H Q I (i σ H Q q)⟩
theorem _root_.L2.PS.imp {st : Stmt} {t t' : TS} (h : PS X st t) (i : ∀ D σ H, t' D σ H → t D σ H) : PS X st t' := ⟨fun pins s σ H D I q => h.run pins s σ H D I (i D σ H q)⟩
theorem _root_.L2.PSs.imp {st : List Stmt} {t t' : TS} (h : PSs X st t) (i : ∀ D σ H, t' D σ H → t D σ H) : PSs X st t' := ⟨fun pins s σ H D I q => h.run pins s σ H D I (i D σ H q)⟩
theorem _root_.L2.PG.imp {e : Expr} {t t' : TG} (h : PG X e t) (i : ∀ v σ H Q, t' v σ H Q → t v σ H Q) : PG X e t' := ⟨fun pins s σ H v u Q I r q => h.run pins s σ H v u Q I r (i v σ H Q q)⟩
theorem _root_.L2.PGs.imp {es : List Expr} {t t' : TGs} (h : PGs X es t) (i : ∀ v σ H Q, t' v σ H Q → t v σ H Q) : PGs X es t' := ⟨fun pins s σ H v u Q I r q => h.run pins s σ H v u Q I r (i v σ H Q q)⟩
theorem _root_.L2.PI.imp {tg iter : Expr} {t t' : TI} (h : PI X tg iter t) (i : ∀ σ H R, t' σ H R → t σ H R) : PI X tg iter t' := ⟨fun pins s σ H R I q => h.run pins s σ H R I (i σ H R q)⟩

/-! ### reading a name, a constant -/
def dV (i : Nat) : TED := fun σ M Q => match σ[i]? with
  | some (some d) => Q d M
  | _ => False
def dC (d : D) : TED := fun _ M Q => Q d M
theorem de_pv {i : Nat} {e : Expr} (h : PE X e (tVar i)) : DE X e (dV i) := h.imp fun σ H Q ⟨σd, M, Qd, hs, hm, h, hq⟩ => by
  unfold dV at h
  split at h
  · rename_i d e
    obtain ⟨v, e1, r⟩ := RSget hs e
    exact ⟨v, e1, hq _ _ ⟨d, M, .refl, r, hm, h⟩⟩
  · exact h.elim
theorem dv (i : Nat) {x : Str} {pos : Pos} (hN : X.N[i]? = some x := by rfl) (hv : Vis X.env.scope x := by first | exact Or.inl rfl | exact Or.inr (Or.inl rfl) | exact Or.inr (Or.inr rfl)) (hd : (x == ("__debug__" : Str)) = false := by decide)
    (hcd : (x == ("__classdict__" : Str)) = false := by decide) : DE X (.Name x pos) (dV i) := de_pv (pe_var hN hv hd hcd)
theorem de_c {e : Expr} {v : V} {d : D} (h : PE X e (tC v)) (r : ∀ H, Rl X.K H v d) : DE X e (dC d) := h.imp fun σ H Q ⟨σd, M, Qd, hs, hm, h, hq⟩ => hq _ _ ⟨d, M, .refl, r H, hm, h⟩
theorem de_int {i : Int} {j pos} : DE X (.Constant (.int i) j pos) (dC (.int i)) := de_c pe_int fun _ => .int i
theorem de_bl {b j pos} : DE X (.Constant (.bool b) j pos) (dC (.bl b)) := de_c pe_bl fun _ => .bl b
theorem de_non {j pos} : DE X (.Constant .none j pos) (dC .non) := de_c pe_non fun _ => .non
theorem de_str {x j pos} : DE X (.Constant (.str x) j pos) (dC (.str x)) := de_c pe_str fun _ => .str x

/-! ### operations on values -/
abbrev R2D := D → D → Mh → KD → Prop
def lft2 (K : PySem.W.Frag) (r : R2D) : R2 := fun x y H Q => ∃ d e M Qd, Rl K H x d ∧ Rl K H y e ∧ RM K M H ∧ r d e M Qd ∧ ∀ u H', Up K H Qd u H' → Q u H'
abbrev OpD (X : Cx) (f : Value → Value → Sem Value) (r : R2D) : Prop := OpR X f (lft2 X.K r)
def dOp (r : R2D) (ta tb : TED) : TED := fun σ M Q => ta σ M fun x M1 => tb σ M1 fun y M2 => r x y M2 Q
theorem lft_two {K : PySem.W.Frag} {r : R2D} {ta tb : TED} {σ : St} {H : Hp} {Q : VK} (h : lft K (dOp r ta tb) σ H Q) : tOp (lft2 K r) (lft K ta) (lft K tb) σ H Q := by
  obtain ⟨σd, M, Qd, hs, hm, h, hq⟩ := h
  refine ⟨σd, M, _, hs, hm, h, fun u H' ⟨d, M', k, rl, rm, q⟩ => ⟨σd, M', _, RSmono k hs, rm, q, fun u2 H2 ⟨d2, M2, k2, rl2, rm2, q2⟩ => ?_⟩⟩
  exact ⟨d, d2, M2, Qd, rl.mono k2, rl2, rm2, q2, fun u3 H3 w3 => hq _ _ (w3.from (k.trans k2))⟩
theorem de_op {a b : Expr} {op : Operator} {r : R2D} {ta tb : TED} {pos : Pos} (ho : OpD X (binaryOp op) r) (ha : DE X a ta) (hb : DE X b tb) : DE X (.BinOp a op b pos) (dOp r ta tb) :=
  (pe_op ho ha hb).imp fun _ _ _ h => lft_two h
theorem de_cmp {a b : Expr} {op : CmpOp} {r : R2D} {ta tb : TED} {pos : Pos} (ho : OpD X (compareOp op) r) (ha : DE X a ta) (hb : DE X b tb) (hm : behindInMarks op b = false) : DE X (.Compare a [op] [b] pos) (dOp r ta tb) :=
  (pe_cmpR ho ha hb hm).imp fun _ _ _ h => lft_two h
/-- a comparison as a test -/
def dTest (t : TED) : TTD := fun σ M Q => t σ M fun d M' => match d with
  | .bl b => Q b M'
  | _ => False
theorem lft_test {K : PySem.W.Frag} {t : TED} {σ : St} {H : Hp} {Q : Bool → Hp → Prop} (h : lftT K (dTest t) σ H Q) : lft K t σ H fun x H' => ∃ k, x = .bl k ∧ Q k H' := by
  obtain ⟨σd, M, Qd, hs, hm, h, hq⟩ := h
  refine ⟨σd, M, _, hs, hm, h, fun u H' ⟨d, M', k, rl, rm, q⟩ => ?_⟩
  cases rl with
  | bl b => exact ⟨b, rfl, hq _ _ _ k rm q⟩
  | _ => exact q.elim
theorem dt_cmp {a b : Expr} {op : CmpOp} {r : R2D} {ta tb : TED} {pos : Pos} (ho : OpD X (compareOp op) r) (ha : DE X a ta) (hb : DE X b tb) (hm : behindInMarks op b = false) : DT X (.Compare a [op] [b] pos) (dTest (dOp r ta tb)) :=
  (pt_cmpR ho ha hb hm).imp fun σ H Q h => lft_two (lft_test h)
theorem dt_val {e : Expr} {t : TED} (h : DE X e t) (he : ∀ whole, isTrue e X.env whole = (do let v ← whole; standAt e.pos; holding [v] (truthy v)) := by intro _; rfl) : DT X e (dTest t) :=
  (pt_val h he).imp fun σ H Q h => lft_test h

/-! ### and, or, not, if-else -/
def dAnd (t u : TTD) : TTD := fun σ M Q => t σ M fun c M1 => if c = true then u σ M1 Q else Q false M1
def dOr (t u : TTD) : TTD := fun σ M Q => t σ M fun c M1 => if c = true then Q true M1 else u σ M1 Q
def dNot (t : TTD) : TTD := fun σ M Q => t σ M fun c M1 => Q (!c) M1
theorem dw_and1 {a : Expr} {t : TTD} {pos : Pos} (ha : DT X a t) : DW X (.BoolOp .And [a] pos) t := pw_and1 ha
theorem dw_or1 {a : Expr} {t : TTD} {pos : Pos} (ha : DT X a t) : DW X (.BoolOp .Or [a] pos) t := pw_or1 ha
theorem dw_and {a b : Expr} {rest : List Expr} {t u : TTD} {pos : Pos} (ha : DT X a t) (hb : DW X (.BoolOp .And (b :: rest) pos) u) : DW X (.BoolOp .And (a :: b :: rest) pos) (dAnd t u) :=
  (pw_and ha hb).imp fun σ H Q ⟨σd, M, Qd, hs, hm, h, hq⟩ => ⟨σd, M, _, hs, hm, h, fun c H' M' k rm q => by
    cases c with
    | true => exact ⟨σd, M', Qd, RSmono k hs, rm, q, fun b2 H2 M2 k2 rm2 q2 => hq _ _ _ (k.trans k2) rm2 q2⟩
    | false => exact hq _ _ _ k rm q⟩
theorem dw_or {a b : Expr} {rest : List Expr} {t u : TTD} {pos : Pos} (ha : DT X a t) (hb : DW X (.BoolOp .Or (b :: rest) pos) u) : DW X (.BoolOp .Or (a :: b :: rest) pos) (dOr t u) :=
  (pw_or ha hb).imp fun σ H Q ⟨σd, M, Qd, hs, hm, h, hq⟩ => ⟨σd, M, _, hs, hm, h, fun c H' M' k rm q => by
    cases c with
    | true => exact hq _ _ _ k rm q
    | false => exact ⟨σd, M', Qd, RSmono k hs, rm, q, fun b2 H2 M2 k2 rm2 q2 => hq _ _ _ (k.trans k2) rm2 q2⟩⟩
theorem dt_not {a : Expr} {t : TTD} {pos : Pos} (ha : DT X a t) : DT X (.UnaryOp .Not a pos) (dNot t) :=
  (pt_not ha).imp fun σ H Q ⟨σd, M, Qd, hs, hm, h, hq⟩ => ⟨σd, M, _, hs, hm, h, fun c H' M' k rm q => hq _ _ _ k rm q⟩
theorem dt_w {e : Expr} {t : TTD} (h : DW X e t) : DT X e t := L2.PW.pt h
/-- bools as values -/
def dAndV (ta tb : TED) : TED := fun σ M Q => ta σ M fun d M1 => match d with
  | .bl c => if c = true then tb σ M1 Q else Q (.bl false) M1
  | _ => False
def dOrV (ta tb : TED) : TED := fun σ M Q => ta σ M fun d M1 => match d with
  | .bl c => if c = true then Q (.bl true) M1 else tb σ M1 Q
  | _ => False
def dNotV (ta : TED) : TED := fun σ M Q => ta σ M fun d M1 => match d with
  | .bl c => Q (.bl (!c)) M1
  | _ => False
theorem de_one {op} {a : Expr} {t : TED} {pos : Pos} (h : DE X a t) : DE X (.BoolOp op [a] pos) t := pe_one h
theorem de_and {a b : Expr} {rest : List Expr} {ta tb : TED} {pos : Pos} (ha : DE X a ta) (hb : DE X (.BoolOp .And (b :: rest) pos) tb) : DE X (.BoolOp .And (a :: b :: rest) pos) (dAndV ta tb) :=
  (pe_and ha hb).imp fun σ H Q ⟨σd, M, Qd, hs, hm, h, hq⟩ => ⟨σd, M, _, hs, hm, h, fun u H' ⟨d, M', k, rl, rm, q⟩ => by
    cases rl with
    | bl c =>
      refine ⟨c, rfl, ?_⟩
      cases c with
      | true => exact ⟨σd, M', Qd, RSmono k hs, rm, q, fun u2 H2 q2 => hq _ _ (q2.from k)⟩
      | false => exact hq _ _ ⟨_, M', k, .bl false, rm, q⟩
    | _ => exact q.elim⟩
theorem de_or {a b : Expr} {rest : List Expr} {ta tb : TED} {pos : Pos} (ha : DE X a ta) (hb : DE X (.BoolOp .Or (b :: rest) pos) tb) : DE X (.BoolOp .Or (a :: b :: rest) pos) (dOrV ta tb) :=
  (pe_or ha hb).imp fun σ H Q ⟨σd, M, Qd, hs, hm, h, hq⟩ => ⟨σd, M, _, hs, hm, h, fun u H' ⟨d, M', k, rl, rm, q⟩ => by
    cases rl with
    | bl c =>
      refine ⟨c, rfl, ?_⟩
      cases c with
      | true => exact hq _ _ ⟨_, M', k, .bl true, rm, q⟩
      | false => exact ⟨σd, M', Qd, RSmono k hs, rm, q, fun u2 H2 q2 => hq _ _ (q2.from k)⟩
    | _ => exact q.elim⟩
theorem de_not {a : Expr} {ta : TED} {pos : Pos} (ha : DE X a ta) : DE X (.UnaryOp .Not a pos) (dNotV ta) :=
  (pe_not ha).imp fun σ H Q ⟨σd, M, Qd, hs, hm, h, hq⟩ => ⟨σd, M, _, hs, hm, h, fun u H' ⟨d, M', k, rl, rm, q⟩ => by
    cases rl with
    | bl c => exact ⟨c, rfl, hq _ _ ⟨_, M', k, .bl _, rm, q⟩⟩
    | _ => exact q.elim⟩
def dIf (t : TTD) (ta tb : TED) : TED := fun σ M Q => t σ M fun c M1 => if c = true then ta σ M1 Q else tb σ M1 Q
theorem de_ifExp {c a b : Expr} {t : TTD} {ta tb : TED} {pos : Pos} (hc : DT X c t) (ha : DE X a ta) (hb : DE X b tb) : DE X (.IfExp c a b pos) (dIf t ta tb) :=
  (pe_ifExp hc ha hb).imp fun σ H Q ⟨σd, M, Qd, hs, hm, h, hq⟩ => ⟨σd, M, _, hs, hm, h, fun c H' M' k rm q => by
    cases c with
    | true => exact ⟨σd, M', Qd, RSmono k hs, rm, q, fun u2 H2 q2 => hq _ _ (q2.from k)⟩
    | false => exact ⟨σd, M', Qd, RSmono k hs, rm, q, fun u2 H2 q2 => hq _ _ (q2.from k)⟩⟩

/-! ### arguments, displays -/
def dNil : TAD := fun _ M Q => Q [] M
def dCons (te : TED) (t : TAD) : TAD := fun σ M Q => te σ M fun x M1 => t σ M1 fun xs M2 => Q (x :: xs) M2
theorem da_nil : DA X [] dNil := pa_nil.imp fun σ H Q ⟨σd, M, Qd, hs, hm, h, hq⟩ => hq _ _ _ _ .refl .nil hm h
theorem da_cons {e : Expr} {es : List Expr} {te : TED} {t : TAD} (ha : DE X e te) (hr : DA X es t) (hs : starEach (e :: es) X.env = (false, eval e X.env) :: starEach es X.env := by rfl) : DA X (e :: es) (dCons te t) :=
  (pa_cons ha hr hs).imp fun σ H Q ⟨σd, M, Qd, hs, hm, h, hq⟩ => ⟨σd, M, _, hs, hm, h, fun u H' ⟨d, M', k, rl, rm, q⟩ => ⟨σd, M', _, RSmono k hs, rm, q, fun us H2 ds M2 k2 rl2 rm2 q2 =>
    hq _ _ _ _ (k.trans k2) (.cons (rl.mono k2) rl2) rm2 q2⟩⟩
def dTup (t : TAD) : TED := fun σ M Q => t σ M fun ds M1 => ds.length ≤ sizeLine ∧ Q (.tup ds) M1
theorem de_tup {es : List Expr} {k : Nat} {t : TAD} {pos : Pos} (h : DA X es t) : DE X (.Tuple es k pos) (dTup t) :=
  (pe_tup h).imp fun σ H Q ⟨σd, M, Qd, hs, hm, h, hq⟩ => ⟨σd, M, _, hs, hm, h, fun us H' ds M' k rl rm q => ⟨by rw [rl.length]; exact q.1, fun p hp =>
    hq _ _ ⟨.tup ds, M', k.trans (.new hp), .tup (.of upd_same) (rl.mono (.new hp)), rm.new hp, q.2⟩⟩⟩

/-- an expression's end: the thing at p is locked for good -/
theorem frz_end {pins : List (Addr × Obj)} {σ : St} {u : Value} {s : Shared} {Q Q' : VK} (h : EP X pins σ Q u s)
    (f : ∀ v H, Q v H → ∃ p xs, v = .ref p ∧ H p = some (.lst xs) ∧ ∀ o, Q' v (upd H p (.frz o (.lst xs)))) : EP X pins σ Q' u s := by
  obtain ⟨v, H', I, r, q⟩ := h
  obtain ⟨p, xs, e, hp, w⟩ := f v H' q
  obtain ⟨o, I2⟩ := I.lock hp trivial
  exact ⟨v, _, I2, r, w o⟩
/-- locked for good: e gives a mutable list, that is data from now on -/
def dFrz (t : TED) : TED := fun σ M Q => t σ M fun d M1 => match d with
  | .ref p => ∃ ds, M1 p = some (.lst ds) ∧ Q (.lst ds) (mdel M1 p)
  | _ => False
theorem Keep.lock {H : Hp} {p : Addr} {xs : List V} {o : Obj} (h : H p = some (.lst xs)) : Keep H (upd H p (.frz o (.lst xs))) := .mutd h trivial
theorem RM.lock {K : PySem.W.Frag} {M : Mh} {H : Hp} {p : Addr} {xs : List V} {o : Obj} (h : RM K M H) (hp : H p = some (.lst xs)) : RM K (mdel M p) (upd H p (.frz o (.lst xs))) := fun a mo e => by
  by_cases ha : a = p
  · subst ha; unfold mdel at e; rw [if_pos rfl] at e; cases e
  · rw [mdel_ne ha] at e
    obtain ⟨ho, e2, r2⟩ := h a mo e
    exact ⟨ho, by rw [upd_ne ha]; exact e2, r2.mono (.lock hp)⟩
theorem de_frz {e : Expr} {t : TED} (h : DE X e t) : DE X e (dFrz t) := by
  refine ⟨fun pins s σ H Q I hw => ?_⟩
  obtain ⟨σd, M, Qd, hs, hm, h2, hq⟩ := hw
  refine thn (h.run pins s σ H _ I ⟨σd, M, _, hs, hm, h2, fun _ _ w => w⟩) fun u s1 hz => frz_end hz fun v H1 ⟨d, M1, k, rl, rm, q⟩ => ?_
  cases rl with
  | ref p =>
    obtain ⟨ds, e, q⟩ := q
    obtain ⟨ho, e2, r2⟩ := rm p _ e
    cases r2 with
    | lst rls =>
      exact ⟨p, _, rfl, e2, fun o => hq _ _ ⟨.lst ds, _, k.trans (.lock e2), .lst upd_same (rls.mono (.lock e2)), rm.lock e2, q⟩⟩
  | _ => exact q.elim
/-- [a, b]: a mutable list; data -/
def dLstM (t : TAD) : TED := fun σ M Q => t σ M fun ds M1 => ds.length ≤ sizeLine ∧ ∀ p, M1 p = none → Q (.ref p) (mupd M1 p (.lst ds))
def dLst (t : TAD) : TED := fun σ M Q => t σ M fun ds M1 => ds.length ≤ sizeLine ∧ Q (.lst ds) M1
theorem de_lstM {es : List Expr} {t : TAD} {pos : Pos} (h : DA X es t) : DE X (.List es pos) (dLstM t) :=
  (pe_lst h).imp fun σ H Q ⟨σd, M, Qd, hs, hm, h, hq⟩ => ⟨σd, M, _, hs, hm, h, fun us H' ds M' k rl rm q => ⟨by rw [rl.length]; exact q.1, fun p hp =>
    hq _ _ ⟨.ref p, _, k.trans (.new hp), .ref p, rm.add hp (.lst (rl.mono (.new hp))), q.2 p (rm.free hp)⟩⟩⟩
theorem de_imp {e : Expr} {t t' : TED} (h : DE X e t) (i : ∀ σ M Q, t' σ M Q → t σ M Q) : DE X e t' :=
  L2.PE.imp h fun σ H Q ⟨σd, M, Qd, hs, hm, h, hq⟩ => ⟨σd, M, Qd, hs, hm, i _ _ _ h, hq⟩
theorem de_lst {es : List Expr} {t : TAD} {pos : Pos} (h : DA X es t) : DE X (.List es pos) (dLst t) := by
  refine ⟨fun pins s σ H Q I hw => ?_⟩
  obtain ⟨σd, M, Qd, hs, hm, h2, hq⟩ := hw
  refine thn ((pe_lst h).run pins s σ H (fun v H1 => ∃ p xs ds M1 H0, v = .ref p ∧ H0 p = none ∧ H1 = upd H0 p (.lst xs) ∧ Keep H H0 ∧ Rls X.K H0 xs ds ∧ RM X.K M1 H0 ∧ Qd (.lst ds) M1) I
    ⟨σd, M, _, hs, hm, h2, fun us H' ds M' k rl rm q => ⟨by rw [rl.length]; exact q.1, fun p hp => ⟨p, us, ds, M', H', rfl, hp, rfl, k, rl, rm, q.2⟩⟩⟩) fun u s1 hz => frz_end hz ?_
  rintro v H1 ⟨p, xs, ds, M1, H0, rfl, hp, rfl, k, rl, rm, q⟩
  refine ⟨p, xs, rfl, upd_same, fun o => hq _ _ ?_⟩
  have k2 : Keep H0 (upd (upd H0 p (.lst xs)) p (.frz o (.lst xs))) := by rw [upd_upd]; exact .new hp
  refine ⟨.lst ds, M1, k.trans k2, .lst upd_same (rl.mono k2), ?_, q⟩
  rw [upd_upd]
  exact rm.new hp
end
end Dl
namespace Dl
open PySem L2 PySem.Spec PyProof.Rows

/-! ### lists, tuples as data -/
inductive IsL (M : Mh) : D → List D → Prop
  | lst {ds : List D} : IsL M (.lst ds) ds
  | ref {a : Addr} {ds : List D} : M a = some (.lst ds) → IsL M (.ref a) ds
section
variable {X : Cx} {K : PySem.W.Frag} {M : Mh} {H : Hp}
theorem IsL.at {x : V} {d : D} {ds : List D} (h : IsL M d ds) (r : Rl K H x d) (rm : RM K M H) : ∃ a xs, x = .ref a ∧ Rd H a (.lst xs) ∧ Rls K H xs ds := by
  cases h with
  | lst =>
    cases r with
    | lst e rs => exact ⟨_, _, rfl, .inr ⟨_, e⟩, rs⟩
  | ref e =>
    cases r
    obtain ⟨ho, e2, r2⟩ := rm _ _ e
    cases r2 with
    | lst rs => exact ⟨_, _, rfl, .inl e2, rs⟩
theorem RM.lst {a : Addr} {ds : List D} (rm : RM K M H) (e : M a = some (.lst ds)) : ∃ xs, H a = some (.lst xs) ∧ Rls K H xs ds := by
  obtain ⟨ho, e2, r2⟩ := rm _ _ e
  cases r2 with
  | lst rs => exact ⟨_, e2, rs⟩

/-- tuples by place -/
def tupAt (ds : List D) (i : Int) : Option D := match i with
  | .ofNat n => ds[n]?
  | .negSucc n => if n < ds.length then ds[ds.length - (n + 1)]? else none
theorem tupAt_eq (ds : List D) (i : Int) : tupAt ds i = atI ds i := by
  unfold tupAt atI ixN
  cases i with
  | ofNat n =>
    show ds[n]? = (if (0 : Int) ≤ (n : Int) then (if (n : Int) < ds.length then some (n : Int).toNat else none) else _).bind fun j => ds[j]?
    rw [if_pos (by omega)]
    by_cases h : n < ds.length
    · rw [if_pos (by omega)]; rfl
    · rw [if_neg (by omega)]
      show ds[n]? = none
      exact List.getElem?_eq_none (by omega)
  | negSucc n =>
    have e : (Int.negSucc n : Int) = -((n : Int) + 1) := Int.negSucc_eq n
    show (if n < ds.length then ds[ds.length - (n + 1)]? else none) = (if (0 : Int) ≤ Int.negSucc n then (if Int.negSucc n < (ds.length : Int) then some (Int.negSucc n).toNat else none) else if -(ds.length : Int) ≤ Int.negSucc n then some (Int.negSucc n + (ds.length : Int)).toNat else none).bind fun j => ds[j]?
    rw [if_neg (c := (0 : Int) ≤ Int.negSucc n) (by rw [e]; omega)]
    by_cases h : n < ds.length
    · rw [if_pos h, if_pos (by rw [e]; omega)]
      show ds[ds.length - (n + 1)]? = ds[(Int.negSucc n + (ds.length : Int)).toNat]?
      have : (Int.negSucc n + (ds.length : Int)).toNat = ds.length - (n + 1) := by rw [e]; omega
      rw [this]
    · rw [if_neg h, if_neg (by rw [e]; omega)]; rfl
theorem atI_rls {xs : List V} {ds : List D} {i : Int} {d : D} (r : Rls K H xs ds) (h : atI ds i = some d) : ∃ v, atI xs i = some v ∧ Rl K H v d := by
  unfold atI at h ⊢
  rw [r.length]
  cases e : ixN ds.length i with
  | none => rw [e] at h; cases h
  | some j =>
    rw [e] at h
    exact r.get (show ds[j]? = some d from h)

/-! ### subscripts -/
def rIx : R2D := fun x y M Q => match x, y with
  | .tup ds, .int i => (match tupAt ds i with
    | some d => Q d M
    | none => False)
  | .lst ds, .int i => ∃ d, atI ds i = some d ∧ Q d M
  | .ref a, .int i => ∃ ds d, M a = some (.lst ds) ∧ atI ds i = some d ∧ Q d M
  | _, _ => False
theorem ix_d : IxR X (lft2 X.K rIx) := by
  intro ve se pins s σ H x y v u Q I rx ry h hsub
  obtain ⟨d, e, M, Qd, hd, he, hm, h, hq⟩ := h
  cases hd with
  | @tup a xs ds hs hr =>
    cases he with
    | int i =>
      have h : (match tupAt ds i with
        | some d => Qd d M
        | none => False) := h
      split at h
      · rename_i d e
        rw [tupAt_eq] at e
        obtain ⟨w, h1, h2⟩ := atI_rls hr e
        exact ix_tup ve se pins s σ H _ _ v u Q I rx ry ⟨a, xs, i, w, rfl, rfl, hs, h1, hq _ _ ⟨d, M, .refl, h2, hm, h⟩⟩ hsub
      · exact h.elim
    | _ => exact h.elim
  | @lst a o xs ds ho hr =>
    cases he with
    | int i =>
      obtain ⟨d, e, h⟩ := h
      obtain ⟨w, h1, h2⟩ := atI_rls hr e
      exact ix_list ve se pins s σ H _ _ v u Q I rx ry ⟨a, xs, i, w, rfl, rfl, .inl (.inr ⟨o, ho⟩), h1, hq _ _ ⟨d, M, .refl, h2, hm, h⟩⟩ hsub
    | _ => exact h.elim
  | ref a =>
    cases he with
    | int i =>
      obtain ⟨ds, d, em, e, h⟩ := h
      obtain ⟨xs, ho, hr⟩ := hm.lst em
      obtain ⟨w, h1, h2⟩ := atI_rls hr e
      exact ix_list ve se pins s σ H _ _ v u Q I rx ry ⟨a, xs, i, w, rfl, rfl, .of ho, h1, hq _ _ ⟨d, M, .refl, h2, hm, h⟩⟩ hsub
    | _ => exact h.elim
  | _ => exact h.elim
theorem de_ix {a b : Expr} {ta tb : TED} {pos : Pos} (ha : DE X a ta) (hb : DE X b tb) (hs : PlainIx b := by exact fun _ _ => rfl) : DE X (.Subscript a b pos) (dOp rIx ta tb) :=
  (pe_ix ix_d ha hb hs).imp fun _ _ _ h => lft_two h


/-! ### new lists, locked at once -/
def NL (K : PySem.W.Frag) (H : Hp) (Qd : KD) : VK := fun v H1 => ∃ p xs ds M1 H0, v = .ref p ∧ H0 p = none ∧ H1 = upd H0 p (.lst xs) ∧ Keep H H0 ∧ Rls K H0 xs ds ∧ RM K M1 H0 ∧ Qd (.lst ds) M1
theorem nl_end {pins : List (Addr × Obj)} {σ : St} {u : Value} {s : Shared} {H : Hp} {Qd : KD} {Q : VK} (h : EP X pins σ (NL X.K H Qd) u s) (hq : ∀ u H', Up X.K H Qd u H' → Q u H') : EP X pins σ Q u s := by
  refine frz_end h ?_
  rintro v H1 ⟨p, xs, ds, M1, H0, rfl, hp, rfl, k, rl, rm, q⟩
  refine ⟨p, xs, rfl, upd_same, fun o => hq _ _ ?_⟩
  have k2 : Keep H0 (upd (upd H0 p (.lst xs)) p (.frz o (.lst xs))) := by rw [upd_upd]; exact .new hp
  refine ⟨.lst ds, M1, k.trans k2, .lst upd_same (rl.mono k2), ?_, q⟩
  rw [upd_upd]
  exact rm.new hp

/-! ### + - * // % & -/
theorem lstR {pins : List (Addr × Obj)} {σ : St} {s : Shared} {l : Addr} {xs : List V} (I : L2.Inv X pins σ H s) (hH : Rd H l (.lst xs)) : xs.length ≤ sizeLine ∧ ∃ (its : List Value) (n : Nat), Vals xs its ∧ xs.length = its.length ∧ s.heap.get? l = some { cls := .type "list", data := .seq its.toArray n } := by
  obtain ⟨short, its, n, rel, got⟩ := hH.ok I.hok
  exact ⟨short, its, n, rel, rel.length, got⟩
/-- list + list, whatever stands there -/
def rCatS : R2 := fun x y H Q => ∃ l b xs zs, x = .ref l ∧ y = .ref b ∧ Rd H l (.lst xs) ∧ Rd H b (.lst zs) ∧ xs.length + zs.length ≤ sizeLine ∧ ∀ p, H p = none → Q (.ref p) (upd H p (.lst (xs ++ zs)))
theorem op_catS : OpR X (binaryOp .Add) rCatS := by
  intro pins s σ H
  intro x y v u Q I rx ry h
  obtain ⟨_, _, us, ws, rfl, rfl, r1, r2, hsum, out⟩ := h
  cases rx
  cases ry
  obtain ⟨_, ia, _, va, la, ga⟩ := lstR I r1
  obtain ⟨_, ib, _, vb, lb, gb⟩ := lstR I r2
  refine PySem.P.add_list ga gb ?_ (by simp only [List.size_toArray]; omega)
  rw [show ia.toArray ++ ib.toArray = (ia ++ ib).toArray by simp]
  exact ⟨.ref _, _, I.lnew (t' := s.toks) (va.append vb) (by rw [List.length_append]; exact hsum), rfl, out _ I.fresh⟩
def rAdd : R2D := fun x y M Q => match x with
  | .int i => (match y with
    | .int j => Q (.int (i + j)) M
    | _ => False)
  | .tup xs => (match y with
    | .tup ys => xs.length + ys.length ≤ sizeLine ∧ Q (.tup (xs ++ ys)) M
    | _ => False)
  | x => ∃ xs ys, IsL M x xs ∧ IsL M y ys ∧ xs.length + ys.length ≤ sizeLine ∧ Q (.lst (xs ++ ys)) M
/-- list + list, to be changed later -/
def rAddM : R2D := fun x y M Q => ∃ xs ys, IsL M x xs ∧ IsL M y ys ∧ xs.length + ys.length ≤ sizeLine ∧ ∀ p, M p = none → Q (.ref p) (mupd M p (.lst (xs ++ ys)))
theorem Rls.nil_iff {K : PySem.W.Frag} {H : Hp} {xs : List V} {ds : List D} (r : Rls K H xs ds) : xs = [] ↔ ds = [] := by
  cases r with
  | nil => simp
  | cons _ _ => simp
theorem op_add_d : OpD X (binaryOp .Add) rAdd := by
  intro pins s σ H
  intro x y v u Q I rx ry h
  obtain ⟨d, e, M, Qd, hd, he, hm, h, hq⟩ := h
  have lists : ∀ {d : D}, Rl X.K H x d → (∃ xs ys, IsL M d xs ∧ IsL M e ys ∧ xs.length + ys.length ≤ sizeLine ∧ Qd (.lst (xs ++ ys)) M) → wpAny (model X.prog X.w) X.A (binaryOp .Add v u) (EP X pins σ Q) X.xe s := by
    intro d hd ⟨xs, ys, h1, h2, hz, q⟩
    obtain ⟨a, vs, rfl, s1, r1⟩ := h1.at hd hm
    obtain ⟨b, ws, rfl, s2, r2⟩ := h2.at he hm
    refine thn (op_catS pins s σ H _ _ v u (NL X.K H Qd) I rx ry ⟨a, b, vs, ws, rfl, rfl, s1, s2, by rw [r1.length, r2.length]; exact hz, fun p hp => ?_⟩) fun _ _ w => nl_end w hq
    exact ⟨p, _, _, M, H, rfl, hp, rfl, .refl, r1.append r2, hm, q⟩
  cases hd with
  | int i =>
    cases he with
    | int j => exact op_add pins s σ H _ _ v u Q I rx ry ⟨i, j, rfl, rfl, hq _ _ ⟨_, M, .refl, .int _, hm, h⟩⟩
    | _ => exact h.elim
  | @tup a xs ds hs hr =>
    cases he with
    | @tup b ys es hs2 hr2 =>
      obtain ⟨hz, q⟩ := h
      refine op_catA pins s σ H _ _ v u Q I rx ry ⟨a, b, xs, ys, rfl, rfl, hs, hs2, by rw [hr.length, hr2.length]; exact hz, fun e => ?_, fun _ e => ?_, fun _ _ p hp => ?_⟩
      · have e2 := hr.nil_iff.mp e
        subst e2
        exact hq _ _ ⟨_, M, .refl, .tup hs2 hr2, hm, q⟩
      · have e2 := hr2.nil_iff.mp e
        subst e2
        rw [List.append_nil] at q
        exact hq _ _ ⟨_, M, .refl, .tup hs hr, hm, q⟩
      · exact hq _ _ ⟨_, M, .new hp, .tup (.of upd_same) ((hr.append hr2).mono (.new hp)), hm.new hp, q⟩
    | _ => exact h.elim
  | lst ho hr => exact lists (.lst ho hr) h
  | ref a => exact lists (.ref a) h
  | non => exact lists .non h
  | bl b => exact lists (.bl b) h
  | str b => exact lists (.str b) h
theorem op_addM_d : OpD X (binaryOp .Add) rAddM := by
  intro pins s σ H
  intro x y v u Q I rx ry h
  obtain ⟨d, e, M, Qd, hd, he, hm, ⟨xs, ys, h1, h2, hz, q⟩, hq⟩ := h
  obtain ⟨a, vs, rfl, s1, r1⟩ := h1.at hd hm
  obtain ⟨b, ws, rfl, s2, r2⟩ := h2.at he hm
  refine op_catS pins s σ H _ _ v u Q I rx ry ⟨a, b, vs, ws, rfl, rfl, s1, s2, by rw [r1.length, r2.length]; exact hz, fun p hp => ?_⟩
  exact hq _ _ ⟨.ref p, _, .new hp, .ref p, hm.add hp (.lst ((r1.append r2).mono (.new hp))), q p (hm.free hp)⟩
def rII (C : Int → Int → Prop) (g : Int → Int → Int) : R2D := fun x y M Q => match x with
      | .int i => (match y with
        | .int j => C i j ∧ Q (.int (g i j)) M
        | _ => False)
      | _ => False
def rII0 (g : Int → Int → Int) : R2D := fun x y M Q => match x with
      | .int i => (match y with
        | .int j => Q (.int (g i j)) M
        | _ => False)
      | _ => False
def rIB0 (g : Int → Int → Bool) : R2D := fun x y M Q => match x with
      | .int i => (match y with
        | .int j => Q (.bl (g i j)) M
        | _ => False)
      | _ => False
/-- ints by an operation -/
theorem op_ii {f : Value → Value → Sem Value} {C : Int → Int → Prop} {g : Int → Int → Int} (h : OpR X f (rI C fun i j => .int (g i j))) :
    OpD X f (rII C g) := by
  intro pins s σ H
  intro x y v u Q I rx ry hh
  obtain ⟨d, e, M, Qd, hd, he, hm, hh, hq⟩ := hh
  cases hd with
  | int i =>
    cases he with
    | int j => exact h pins s σ H _ _ v u Q I rx ry ⟨i, j, rfl, rfl, hh.1, hq _ _ ⟨_, M, .refl, .int _, hm, hh.2⟩⟩
    | _ => exact hh.elim
  | _ => exact hh.elim
theorem op_ii0 {f : Value → Value → Sem Value} {g : Int → Int → Int} (h : OpR X f (rI0 fun i j => .int (g i j))) :
    OpD X f (rII0 g) := by
  intro pins s σ H
  intro x y v u Q I rx ry hh
  obtain ⟨d, e, M, Qd, hd, he, hm, hh, hq⟩ := hh
  cases hd with
  | int i =>
    cases he with
    | int j => exact h pins s σ H _ _ v u Q I rx ry ⟨i, j, rfl, rfl, hq _ _ ⟨_, M, .refl, .int _, hm, hh⟩⟩
    | _ => exact hh.elim
  | _ => exact hh.elim
theorem op_ib0 {f : Value → Value → Sem Value} {g : Int → Int → Bool} (h : OpR X f (rI0 fun i j => .bl (g i j))) :
    OpD X f (rIB0 g) := by
  intro pins s σ H
  intro x y v u Q I rx ry hh
  obtain ⟨d, e, M, Qd, hd, he, hm, hh, hq⟩ := hh
  cases hd with
  | int i =>
    cases he with
    | int j => exact h pins s σ H _ _ v u Q I rx ry ⟨i, j, rfl, rfl, hq _ _ ⟨_, M, .refl, .bl _, hm, hh⟩⟩
    | _ => exact hh.elim
  | _ => exact hh.elim
theorem op_sub_d : OpD X (binaryOp .Sub) (rII0 fun i j => i - j) := op_ii0 op_sub
theorem op_and_d : OpD X (binaryOp .BitAnd) (rII0 fun i j => Builtin.bitAnd i j) := op_ii0 op_and
theorem op_fdiv_d : OpD X (binaryOp .FloorDiv) (rII CDivN fun i j => i.fdiv j) := op_ii op_fdivN
theorem op_mod_d : OpD X (binaryOp .Mod) (rII (fun _ j => j ≠ 0) fun i j => i.fmod j) := op_ii op_modN
theorem op_lt_d : OpD X (compareOp .Lt) (rIB0 fun i j => decide (i < j)) := op_ib0 op_lt
theorem op_le_d : OpD X (compareOp .LtE) (rIB0 fun i j => decide (i ≤ j)) := op_ib0 op_le
theorem op_gt_d : OpD X (compareOp .Gt) (rIB0 fun i j => decide (j < i)) := op_ib0 op_gt
theorem op_ge_d : OpD X (compareOp .GtE) (rIB0 fun i j => decide (j ≤ i)) := op_ib0 op_ge
/-- int * int, list * int (of one item) -/
def rMul : R2D := fun x y M Q => match x with
  | .int i => (match y with
    | .int j => CMul i j ∧ Q (.int (i * j)) M
    | _ => False)
  | .ref a => (match y with
    | .int j => ∃ d, M a = some (.lst [d]) ∧ 0 ≤ j ∧ j ≤ 1000000 ∧ Q (.lst (List.replicate j.toNat d)) M
    | _ => False)
  | _ => False
theorem flat_rep {α : Type} (x : α) : ∀ n : Nat, (List.replicate n [x]).flatten = List.replicate n x
  | 0 => rfl
  | n + 1 => by rw [List.replicate_succ, List.flatten_cons, flat_rep x n]; rfl
theorem op_mul_d : OpD X (binaryOp .Mult) rMul := by
  intro pins s σ H
  intro x y v u Q I rx ry hh
  obtain ⟨d, e, M, Qd, hd, he, hm, hh, hq⟩ := hh
  cases hd with
  | int i =>
    cases he with
    | int j => exact op_mul pins s σ H _ _ v u Q I rx ry ⟨i, j, rfl, rfl, hh.1, hq _ _ ⟨_, M, .refl, .int _, hm, hh.2⟩⟩
    | _ => exact hh.elim
  | ref a =>
    cases he with
    | int j =>
      obtain ⟨d, e, h0, h1, q⟩ := hh
      obtain ⟨xs, hH, r⟩ := hm.lst e
      cases r with
      | @cons w ws _ _ rd rr =>
      cases rr
      have hs := sizeLine_eq
      refine thn (op_rep pins s σ H _ _ v u (NL X.K H Qd) I rx ry ⟨a, j, _, rfl, rfl, hH, by omega, by omega, by simp only [List.length_singleton]; omega, fun p hp => ?_⟩) fun _ _ w => nl_end w hq
      refine ⟨p, _, _, M, H, rfl, hp, rfl, .refl, ?_, hm, q⟩
      rw [flat_rep]
      exact Rls.rep rd _
    | _ => exact hh.elim
  | _ => exact hh.elim
def dNeg (ta : TED) : TED := fun σ M Q => ta σ M fun x M1 => match x with
    | .int i => Q (.int (-i)) M1
    | _ => False
theorem un_neg_d {a : Expr} {ta : TED} {pos : Pos} (ha : DE X a ta) : DE X (.UnaryOp .USub a pos) (dNeg ta) := (pe_un un_neg ha).imp fun σ H Q ⟨σd, M, Qd, hs, hm, h, hq⟩ => ⟨σd, M, _, hs, hm, h, fun u H' ⟨d, M', k, rl, rm, q⟩ => by
  cases rl with
  | int i => exact ⟨i, rfl, hq _ _ ⟨_, M', k, .int _, rm, q⟩⟩
  | _ => exact q.elim⟩
end
end Dl
namespace Dl
open PySem L2 PySem.Spec PyProof.Rows

/-! ### data to be compared, shown -/
mutual
inductive Dat (M : Mh) : D → PyData → Prop
  | non : Dat M .non .none
  | bl (b : Bool) : Dat M (.bl b) (.bool b)
  | int (i : Int) : Dat M (.int i) (.int i)
  | str (x : Str) : Dat M (.str x) (.str x)
  | tup {ds : List D} {ps : List PyData} : Dats M ds ps → Dat M (.tup ds) (.tuple ps)
  | lst {ds : List D} {ps : List PyData} : Dats M ds ps → Dat M (.lst ds) (.list ps)
  | ref {a : Addr} {ds : List D} {ps : List PyData} : M a = some (.lst ds) → Dats M ds ps → Dat M (.ref a) (.list ps)
inductive Dats (M : Mh) : List D → List PyData → Prop
  | nil : Dats M [] []
  | cons {d : D} {ds : List D} {p : PyData} {ps : List PyData} : Dat M d p → Dats M ds ps → Dats M (d :: ds) (p :: ps)
end
section
variable {K : PySem.W.Frag} {M : Mh} {H : Hp}
mutual
theorem Dat.dp (rm : RM K M H) : ∀ (p : PyData) (d : D) (x : V), Dat M d p → Rl K H x d → Dp K H x p
  | .none, _, _, h, r => by cases h; cases r; exact .non
  | .bool b, _, _, h, r => by cases h; cases r; exact .bl b
  | .int i, _, _, h, r => by cases h; cases r; exact .int i
  | .str x, _, _, h, r => by cases h; cases r; exact .str x
  | .list ps, _, _, h, r => by
    cases h with
    | lst hs =>
      cases r with
      | lst e rs => exact .lst (.inl (.inr ⟨_, e⟩)) (Dats.dp rm ps _ _ hs rs)
    | ref e hs =>
      cases r
      obtain ⟨xs, e2, rs⟩ := rm.lst e
      exact .lst (.of e2) (Dats.dp rm ps _ _ hs rs)
  | .tuple ps, _, _, h, r => by
    cases h with
    | tup hs =>
      cases r with
      | tup e rs => exact .tup e (Dats.dp rm ps _ _ hs rs)
  | .dict _, _, _, h, _ => by cases h
theorem Dats.dp (rm : RM K M H) : ∀ (ps : List PyData) (ds : List D) (xs : List V), Dats M ds ps → Rls K H xs ds → DpAll K H xs ps
  | [], _, _, h, r => by cases h; cases r; exact .nil
  | p :: ps, _, _, h, r => by
    cases h with
    | cons h1 h2 =>
      cases r with
      | cons r1 r2 => exact .cons (Dat.dp rm p _ _ h1 r1) (Dats.dp rm ps _ _ h2 r2)
end
end
/-! data without mutable things -/
mutual
def py : D → PyData
  | .non => .none
  | .bl b => .bool b
  | .int i => .int i
  | .str x => .str x
  | .tup ds => .tuple (pys ds)
  | .lst ds => .list (pys ds)
  | .ref _ => .none
def pys : List D → List PyData
  | [] => []
  | d :: ds => py d :: pys ds
end
mutual
def pureD : D → Bool
  | .ref _ => false
  | .tup ds => pureDs ds
  | .lst ds => pureDs ds
  | .str x => PyData.strOk x
  | _ => true
def pureDs : List D → Bool
  | [] => true
  | d :: ds => pureD d && pureDs ds
end
mutual
theorem dat_py {M : Mh} : ∀ d : D, pureD d = true → Dat M d (py d)
  | .non, _ => .non
  | .bl b, _ => .bl b
  | .int i, _ => .int i
  | .str x, _ => .str x
  | .tup ds, h => .tup (dats_py ds (by simpa [pureD] using h))
  | .lst ds, h => .lst (dats_py ds (by simpa [pureD] using h))
  | .ref a, h => by simp [pureD] at h
theorem dats_py {M : Mh} : ∀ ds : List D, pureDs ds = true → Dats M ds (pys ds)
  | [], _ => .nil
  | d :: ds, h => by
    simp only [pureDs, Bool.and_eq_true] at h
    exact .cons (dat_py d h.1) (dats_py ds h.2)
end
mutual
theorem canLay_py : ∀ d : D, pureD d = true → (py d).canLay0 = true
  | .non, _ => rfl
  | .bl b, _ => rfl
  | .int i, _ => rfl
  | .str x, h => by simpa [py, PyData.canLay0, pureD] using h
  | .tup ds, h => by simp only [py, PyData.canLay0]; exact canLays_py ds (by simpa [pureD] using h)
  | .lst ds, h => by simp only [py, PyData.canLay0]; exact canLays_py ds (by simpa [pureD] using h)
  | .ref a, h => by simp [pureD] at h
theorem canLays_py : ∀ ds : List D, pureDs ds = true → PyData.canLayAll0 (pys ds) = true
  | [], _ => rfl
  | d :: ds, h => by
    simp only [pureDs, Bool.and_eq_true] at h
    simp only [pys, PyData.canLayAll0, canLay_py d h.1, canLays_py ds h.2, Bool.and_self]
end
theorem pys_map {α : Type} (f : α → D) : ∀ l : List α, pys (l.map f) = l.map fun a => py (f a)
  | [] => rfl
  | a :: l => by simp only [List.map_cons, pys, pys_map f l]
theorem pureDs_all : ∀ ds : List D, (pureDs ds = true) ↔ ∀ d ∈ ds, pureD d = true
  | [] => by simp [pureDs]
  | d :: ds => by simp [pureDs, pureDs_all ds]

/-! ### == and != -/
def datEq (b : Bool) : R2D := fun x y M Q => ∃ p q, Dat M x p ∧ Dat M y q ∧ p.canLay0 = true ∧ q.canLay0 = true ∧ (p.depth ≤ 199 ∨ q.depth ≤ 199) ∧ Q (.bl (if b = true then !PyData.eqv p q else PyData.eqv p q)) M
def rEq : R2D := fun x y M Q => match x with
  | .int i => (match y with
    | .int j => Q (.bl (decide (i = j))) M
    | .non => Q (.bl false) M
    | _ => False)
  | .str a => (match y with
    | .str b => Q (.bl (decide (a = b))) M
    | _ => False)
  | .non => (match y with
    | .int _ => Q (.bl false) M
    | .non => Q (.bl true) M
    | _ => datEq false x y M Q)
  | _ => datEq false x y M Q
def rNe : R2D := fun x y M Q => match x with
  | .int i => (match y with
    | .int j => Q (.bl (!decide (i = j))) M
    | .non => Q (.bl true) M
    | _ => False)
  | .str a => (match y with
    | .str b => Q (.bl (!decide (a = b))) M
    | _ => False)
  | .non => (match y with
    | .int _ => Q (.bl true) M
    | .non => Q (.bl false) M
    | _ => datEq true x y M Q)
  | _ => datEq true x y M Q
section
variable {X : Cx}
theorem op_datEq (hu : X.A.units + 200 < cLine) : OpD X (compareOp .Eq) (datEq false) := by
  intro pins s σ H
  intro x y v u Q I rx ry h
  obtain ⟨d, e, M, Qd, hd, he, hm, ⟨p, q, h1, h2, c1, c2, hz, h⟩, hq⟩ := h
  obtain ⟨as, r1⟩ := Dp.reads I p x v (h1.dp hm p d x hd) rx
  obtain ⟨bs, r2⟩ := Dp.reads I q y u (h2.dp hm q e y he) ry
  have hmin : min p.depth q.depth ≤ 199 := by omega
  exact SeqAt.compareEq_reads r1 r2 c1 c2 (by omega) ⟨.bl _, H, I, rfl, hq _ _ ⟨_, M, .refl, .bl _, hm, h⟩⟩
theorem op_datNe (hu : X.A.units + 200 < cLine) : OpD X (compareOp .NotEq) (datEq true) := by
  intro pins s σ H
  intro x y v u Q I rx ry h
  obtain ⟨d, e, M, Qd, hd, he, hm, ⟨p, q, h1, h2, c1, c2, hz, h⟩, hq⟩ := h
  obtain ⟨as, r1⟩ := Dp.reads I p x v (h1.dp hm p d x hd) rx
  obtain ⟨bs, r2⟩ := Dp.reads I q y u (h2.dp hm q e y he) ry
  have hmin : min p.depth q.depth ≤ 199 := by omega
  exact SeqAt.compareNe_reads r1 r2 c1 c2 (by omega) ⟨.bl _, H, I, rfl, hq _ _ ⟨_, M, .refl, .bl _, hm, h⟩⟩
theorem dec_i {i j : Int} : decide (V.int i = V.int j) = decide (i = j) := by rw [dec_int, Bool.beq_eq_decide_eq]
theorem dec_s {i j : Str} : decide (V.str i = V.str j) = decide (i = j) := by rw [dec_str, Bool.beq_eq_decide_eq]
theorem op_eq_d (hu : X.A.units + 200 < cLine) : OpD X (compareOp .Eq) rEq := by
  intro pins s σ H
  intro x y v u Q I rx ry h
  have gen : lft2 X.K (datEq false) x y H Q → wpAny (model X.prog X.w) X.A (compareOp .Eq v u) (EP X pins σ Q) X.xe s := op_datEq hu pins s σ H x y v u Q I rx ry
  obtain ⟨d, e, M, Qd, hd, he, hm, h, hq⟩ := h
  have fin : ∀ b : Bool, Qd (.bl b) M → Q (.bl b) H := fun b q => hq _ _ ⟨_, M, .refl, .bl b, hm, q⟩
  cases hd with
  | int i =>
    cases he with
    | int j => exact op_eq pins s σ H _ _ v u Q I rx ry ⟨rfl, by rw [dec_i]; exact fin _ h⟩
    | non => exact op_eq pins s σ H _ _ v u Q I rx ry ⟨rfl, by simpa using fin _ h⟩
    | _ => exact h.elim
  | str a =>
    cases he with
    | str b => exact op_eq pins s σ H _ _ v u Q I rx ry ⟨rfl, by rw [dec_s]; exact fin _ h⟩
    | _ => exact h.elim
  | non =>
    cases he with
    | int j => exact op_eq pins s σ H _ _ v u Q I rx ry ⟨rfl, by simpa using fin _ h⟩
    | non => exact op_eq pins s σ H _ _ v u Q I rx ry ⟨rfl, by simpa using fin _ h⟩
    | bl b => exact gen ⟨_, _, M, Qd, .non, .bl b, hm, h, hq⟩
    | str b => exact gen ⟨_, _, M, Qd, .non, .str b, hm, h, hq⟩
    | tup a b => exact gen ⟨_, _, M, Qd, .non, .tup a b, hm, h, hq⟩
    | lst a b => exact gen ⟨_, _, M, Qd, .non, .lst a b, hm, h, hq⟩
    | ref a => exact gen ⟨_, _, M, Qd, .non, .ref a, hm, h, hq⟩
  | bl b => exact gen ⟨_, _, M, Qd, .bl b, he, hm, h, hq⟩
  | tup a b => exact gen ⟨_, _, M, Qd, .tup a b, he, hm, h, hq⟩
  | lst a b => exact gen ⟨_, _, M, Qd, .lst a b, he, hm, h, hq⟩
  | ref a => exact gen ⟨_, _, M, Qd, .ref a, he, hm, h, hq⟩
theorem op_ne_d (hu : X.A.units + 200 < cLine) : OpD X (compareOp .NotEq) rNe := by
  intro pins s σ H
  intro x y v u Q I rx ry h
  have gen : lft2 X.K (datEq true) x y H Q → wpAny (model X.prog X.w) X.A (compareOp .NotEq v u) (EP X pins σ Q) X.xe s := op_datNe hu pins s σ H x y v u Q I rx ry
  obtain ⟨d, e, M, Qd, hd, he, hm, h, hq⟩ := h
  have fin : ∀ b : Bool, Qd (.bl b) M → Q (.bl b) H := fun b q => hq _ _ ⟨_, M, .refl, .bl b, hm, q⟩
  cases hd with
  | int i =>
    cases he with
    | int j => exact op_ne pins s σ H _ _ v u Q I rx ry ⟨rfl, by rw [dec_i]; exact fin _ h⟩
    | non => exact op_ne pins s σ H _ _ v u Q I rx ry ⟨rfl, by simpa using fin _ h⟩
    | _ => exact h.elim
  | str a =>
    cases he with
    | str b => exact op_ne pins s σ H _ _ v u Q I rx ry ⟨rfl, by rw [dec_s]; exact fin _ h⟩
    | _ => exact h.elim
  | non =>
    cases he with
    | int j => exact op_ne pins s σ H _ _ v u Q I rx ry ⟨rfl, by simpa using fin _ h⟩
    | non => exact op_ne pins s σ H _ _ v u Q I rx ry ⟨rfl, by simpa using fin _ h⟩
    | bl b => exact gen ⟨_, _, M, Qd, .non, .bl b, hm, h, hq⟩
    | str b => exact gen ⟨_, _, M, Qd, .non, .str b, hm, h, hq⟩
    | tup a b => exact gen ⟨_, _, M, Qd, .non, .tup a b, hm, h, hq⟩
    | lst a b => exact gen ⟨_, _, M, Qd, .non, .lst a b, hm, h, hq⟩
    | ref a => exact gen ⟨_, _, M, Qd, .non, .ref a, hm, h, hq⟩
  | bl b => exact gen ⟨_, _, M, Qd, .bl b, he, hm, h, hq⟩
  | tup a b => exact gen ⟨_, _, M, Qd, .tup a b, he, hm, h, hq⟩
  | lst a b => exact gen ⟨_, _, M, Qd, .lst a b, he, hm, h, hq⟩
  | ref a => exact gen ⟨_, _, M, Qd, .ref a, he, hm, h, hq⟩
/-! ### is None, in -/
def isNon : D → Bool
  | .non => true
  | _ => false
def rIsN : R2D := fun x y M Q => match y with
  | .non => Q (.bl (isNon x)) M
  | _ => False
def rNotN : R2D := fun x y M Q => match y with
  | .non => Q (.bl (!isNon x)) M
  | _ => False
theorem isNon_v {K : PySem.W.Frag} {H : Hp} {x : V} {d : D} (r : Rl K H x d) : decide (x = .non) = isNon d := by
  cases r <;> rfl
theorem op_isN_d : OpD X (compareOp .Is) rIsN := by
  intro pins s σ H
  intro x y v u Q I rx ry h
  obtain ⟨d, e, M, Qd, hd, he, hm, h, hq⟩ := h
  cases he with
  | non => exact op_isN pins s σ H _ _ v u Q I rx ry ⟨rfl, by rw [isNon_v hd]; exact hq _ _ ⟨_, M, .refl, .bl _, hm, h⟩⟩
  | _ => exact h.elim
theorem op_notN_d : OpD X (compareOp .IsNot) rNotN := by
  intro pins s σ H
  intro x y v u Q I rx ry h
  obtain ⟨d, e, M, Qd, hd, he, hm, h, hq⟩ := h
  cases he with
  | non => exact op_notN pins s σ H _ _ v u Q I rx ry ⟨rfl, by rw [isNon_v hd]; exact hq _ _ ⟨_, M, .refl, .bl _, hm, h⟩⟩
  | _ => exact h.elim
/-- scalars -/
def flatD : D → Bool
  | .non => true
  | .int _ => true
  | .str _ => true
  | _ => false
def eqD : D → D → Bool
  | .non, .non => true
  | .int i, .int j => decide (i = j)
  | .str i, .str j => decide (i = j)
  | _, _ => false
def seqIn (M : Mh) (d : D) (ds : List D) : Prop := IsL M d ds ∨ d = .tup ds
def rIn (neg : Bool) : R2D := fun x y M Q => ∃ ds, seqIn M y ds ∧ flatD x = true ∧ ds.all flatD = true ∧ Q (.bl (if neg = true then !ds.any (fun y => eqD y x) else ds.any fun y => eqD y x)) M
theorem flat_v {K : PySem.W.Frag} {H : Hp} {x : V} {d : D} (r : Rl K H x d) (h : flatD d = true) : flatV x = true := by
  cases r <;> first | rfl | cases h
theorem eq_v {K : PySem.W.Frag} {H : Hp} {x y : V} {d e : D} (r : Rl K H x d) (q : Rl K H y e) (h1 : flatD d = true) (h2 : flatD e = true) : eqV x y = eqD d e := by
  cases r <;> first
    | exact absurd h1 Bool.false_ne_true
    | (cases q <;> first
        | exact absurd h2 Bool.false_ne_true
        | rfl
        | (simp [eqV, eqD]; done))
theorem flats_v {K : PySem.W.Frag} {H : Hp} : ∀ {xs : List V} {ds : List D}, Rls K H xs ds → ds.all flatD = true → xs.all flatV = true
  | _, _, .nil, _ => rfl
  | _, _, .cons r t, h => by
    simp only [List.all_cons, Bool.and_eq_true] at h ⊢
    exact ⟨flat_v r h.1, flats_v t h.2⟩
theorem ins_v {K : PySem.W.Frag} {H : Hp} {x : V} {d : D} (rx : Rl K H x d) (hx : flatD d = true) : ∀ {xs : List V} {ds : List D}, Rls K H xs ds → ds.all flatD = true → inV x xs = ds.any fun y => eqD y d
  | _, _, .nil, _ => rfl
  | _, _, .cons r t, h => by
    simp only [List.all_cons, Bool.and_eq_true] at h
    have e := ins_v rx hx t h.2
    unfold inV at e ⊢
    simp only [List.any_cons, e, eq_v r rx h.1 hx]
theorem seqIn.at {K : PySem.W.Frag} {M : Mh} {H : Hp} {x : V} {d : D} {ds : List D} (h : seqIn M d ds) (r : Rl K H x d) (rm : RM K M H) : ∃ a xs, x = .ref a ∧ (SqL K H a xs ∨ SqT K H a xs) ∧ Rls K H xs ds := by
  rcases h with h | h
  · obtain ⟨a, xs, e, q, rs⟩ := h.at r rm
    exact ⟨a, xs, e, .inl (.inl q), rs⟩
  · subst h
    cases r with
    | tup e rs => exact ⟨_, _, rfl, .inr e, rs⟩
theorem op_in_d : OpD X (compareOp .In) (rIn false) := by
  intro pins s σ H
  intro x y v u Q I rx ry h
  obtain ⟨d, e, M, Qd, hd, he, hm, ⟨ds, hs, f1, f2, q⟩, hq⟩ := h
  obtain ⟨a, xs, rfl, sq, rs⟩ := hs.at he hm
  refine op_in_seq pins s σ H _ _ v u Q I rx ry ⟨a, xs, rfl, sq, flat_v hd f1, flats_v rs f2, ?_⟩
  rw [ins_v hd f1 rs f2]
  exact hq _ _ ⟨_, M, .refl, .bl _, hm, q⟩
theorem op_notIn_d : OpD X (compareOp .NotIn) (rIn true) := by
  intro pins s σ H
  intro x y v u Q I rx ry h
  obtain ⟨d, e, M, Qd, hd, he, hm, ⟨ds, hs, f1, f2, q⟩, hq⟩ := h
  obtain ⟨a, xs, rfl, sq, rs⟩ := hs.at he hm
  refine op_notIn_seq pins s σ H _ _ v u Q I rx ry ⟨a, xs, rfl, sq, flat_v hd f1, flats_v rs f2, ?_⟩
  rw [ins_v hd f1 rs f2]
  exact hq _ _ ⟨_, M, .refl, .bl _, hm, q⟩

/-! ### slices -/
abbrev TOD := Sd → Mh → (Option Int → Mh → Prop) → Prop
def lftO (K : PySem.W.Frag) (t : TOD) : TO := fun σ H Q => ∃ σd M Qd, RS K H σ σd ∧ RM K M H ∧ t σd M Qd ∧ ∀ o H' M', Keep H H' → RM K M' H' → Qd o M' → Q o H'
abbrev DO (X : Cx) (e : Option Expr) (t : TOD) : Prop := PO X e (lftO X.K t)
def dNoP : TOD := fun _ M Q => Q none M
def dPart (t : TED) : TOD := fun σ M Q => t σ M fun d M1 => match d with
  | .int i => Q (some i) M1
  | _ => False
theorem _root_.L2.PO.imp {e : Option Expr} {t t' : TO} (h : PO X e t) (i : ∀ σ H Q, t' σ H Q → t σ H Q) : PO X e t' := ⟨fun pins s σ H Q I q => h.run pins s σ H Q I (i σ H Q q)⟩
theorem do_none : DO X none dNoP := po_none.imp fun σ H Q ⟨σd, M, Qd, hs, hm, h, hq⟩ => hq _ _ _ .refl hm h
theorem do_some {e : Expr} {t : TED} (h : DE X e t) : DO X (some e) (dPart t) := (po_some h).imp fun σ H Q ⟨σd, M, Qd, hs, hm, h, hq⟩ => ⟨σd, M, _, hs, hm, h, fun u H' ⟨d, M', k, rl, rm, q⟩ => by
  cases rl with
  | int i => exact ⟨i, rfl, hq _ _ _ k rm q⟩
  | _ => exact q.elim⟩
def cutD (xs : List D) (lo hi : Option Int) : List D := (xs.drop (HT.sIx xs.length 0 lo)).take (HT.sIx xs.length xs.length hi - HT.sIx xs.length 0 lo)
theorem cut_rls {K : PySem.W.Frag} {H : Hp} {xs : List V} {ds : List D} (r : Rls K H xs ds) (lo hi : Option Int) : Rls K H (cutV xs lo hi) (cutD ds lo hi) := by
  unfold cutV cutD
  rw [r.length]
  exact (r.drop _).take _
def dSl (te : TED) (tl th : TOD) : TED := fun σ M Q => te σ M fun x M1 => tl σ M1 fun l M2 => th σ M2 fun u M3 => match x with
  | .tup ds => Q (.tup (cutD ds l u)) M3
  | x => ∃ ds, IsL M3 x ds ∧ Q (.lst (cutD ds l u)) M3
def rSlD (K : PySem.W.Frag) : V → Option Int → Option Int → Hp → VK → Prop := fun x lo hi H Q => (∃ d ds M Qd H0, Keep H0 H ∧ Rl K H x d ∧ IsL M d ds ∧ RM K M H ∧ Qd (.lst (cutD ds lo hi)) M ∧ ∀ u H', Up K H0 Qd u H' → Q u H') ∨
  ∃ ds M Qd H0, Keep H0 H ∧ Rl K H x (.tup ds) ∧ RM K M H ∧ Qd (.tup (cutD ds lo hi)) M ∧ ∀ u H', Up K H0 Qd u H' → Q u H'
theorem sl_d : SlR X (rSlD X.K) := by
  intro pins s σ H
  intro x v vl vu lo hi sl Q I rx hs pl pu h
  rcases h with ⟨d, ds, M, Qd, H0, k0, hd, hl, hm, q, hq⟩ | ⟨ds, M, Qd, H0, k0, hd, hm, q, hq⟩
  · obtain ⟨a, xs, rfl, rd, rs⟩ := hl.at hd hm
    obtain ⟨T, id, h1, h2, h3⟩ := sl_list pins s σ H _ v vl vu lo hi sl (NL X.K H Qd) I rx hs pl pu ⟨a, xs, rfl, .inl rd, fun p hp => ⟨p, _, _, M, H, rfl, hp, rfl, .refl, cut_rls rs lo hi, hm, q⟩⟩
    exact ⟨T, id, h1, h2, thn h3 fun _ _ w => nl_end w fun u H' z => hq u H' (z.from k0)⟩
  · cases hd with
    | @tup a xs _ e rs =>
    refine sl_tupA pins s σ H _ v vl vu lo hi sl Q I rx hs pl pu ⟨a, xs, rfl, e, fun hw => ?_, fun hw p hp => ?_⟩
    · refine hq _ _ ⟨_, M, k0, .tup e rs, hm, ?_⟩
      have e2 : cutD ds lo hi = ds := by
        unfold cutD
        rw [← rs.length, hw.1, hw.2, List.drop_zero, Nat.sub_zero, rs.length, List.take_length]
      rw [← e2]; exact q
    · exact hq _ _ ⟨_, M, k0.trans (.new hp), .tup (.of upd_same) ((cut_rls rs lo hi).mono (.new hp)), hm.new hp, q⟩
theorem de_slice {e : Expr} {lo hi : Option Expr} {te : TED} {tl th : TOD} {p2 pos : Pos} (he : DE X e te) (hl : DO X lo tl) (hu : DO X hi th) : DE X (.Subscript e (.Slice lo hi none p2) pos) (dSl te tl th) :=
  (pe_slice sl_d he hl hu).imp fun σ H Q ⟨σd, M, Qd, hs, hm, h, hq⟩ => ⟨σd, M, _, hs, hm, h, fun u H' ⟨d, M', k, rl, rm, q⟩ => ⟨σd, M', _, RSmono k hs, rm, q, fun l H2 M2 k2 rm2 q2 => ⟨σd, M2, _, RSmono (k.trans k2) hs, rm2, q2, fun h3 H3 M3 k3 rm3 q3 => by
    have hk : Keep H H3 := (k.trans k2).trans k3
    have rl3 := rl.mono (k2.trans k3)
    have go : ∀ x, Rl X.K H3 u x → (∃ ds, IsL M3 x ds ∧ Qd (.lst (cutD ds l h3)) M3) → rSlD X.K u l h3 H3 Q := fun x rx ⟨ds, h1, h2⟩ => .inl ⟨x, ds, M3, Qd, H, hk, rx, h1, rm3, h2, hq⟩
    cases d with
    | tup ds => exact .inr ⟨ds, M3, Qd, H, hk, rl3, rm3, q3, hq⟩
    | _ => exact go _ rl3 q3⟩⟩⟩
end
end Dl
namespace Dl
open PySem L2 PySem.Spec PyProof.Rows

/-! ### calls of what is built in -/
abbrev RCD := List D → Mh → KD → Prop
def lftC (K : PySem.W.Frag) (r : RCD) : List V → Hp → VK → Prop := fun xs H Q => ∃ ds M Qd, Rls K H xs ds ∧ RM K M H ∧ r ds M Qd ∧ ∀ u H', Up K H Qd u H' → Q u H'
abbrev CallD (X : Cx) (f : Value) (r : RCD) : Prop := CallR X f (lftC X.K r)
def dCB (r : RCD) (t : TAD) : TED := fun σ M Q => t σ M fun ds M1 => r ds M1 Q
section
variable {X : Cx}
theorem lft_cb {K : PySem.W.Frag} {r : RCD} {t : TAD} {σ : St} {H : Hp} {Q : VK} (h : lft K (dCB r t) σ H Q) : tCB (lftC K r) (lftA K t) σ H Q := by
  obtain ⟨σd, M, Qd, hs, hm, h, hq⟩ := h
  exact ⟨σd, M, _, hs, hm, h, fun us H' ds M' k rl rm q => ⟨ds, M', Qd, rl, rm, q, fun u H2 w => hq _ _ (w.from k)⟩⟩
theorem de_callB {id : String} {r : RCD} {x : Str} {e : Expr} {es : List Expr} {t : TAD} {p pos : Pos} (hc : CallD X (.builtin id) r) (hg : Gl X x) (hm : X.mg x = none) (hv : bootBuiltins x = some (.builtin id)) (ha : DA X (e :: es) t) (hn : x ≠ "__name__" := by decide) (hdb : (x == ("__debug__" : Str)) = false := by decide)
    (he : starEach (e :: es) X.env = (false, eval e X.env) :: starEach es X.env := by rfl) (hpl : (backTo pos (starEach es X.env)).any (·.1) = false := by rfl) : DE X (.Call (.Name x p) (e :: es) [] pos) (dCB r t) :=
  (pe_callB hc hg hm hv ha hn hdb he hpl).imp fun _ _ _ h => lft_cb h
theorem de_callTy {T : String} {r : RCD} {x : Str} {e : Expr} {es : List Expr} {t : TAD} {p pos : Pos} (hc : CallD X (.type T) r) (hg : Gl X x) (hm : X.mg x = none) (hv : bootBuiltins x = some (.type T)) (ha : DA X (e :: es) t) (hn : x ≠ "__name__" := by decide) (hdb : (x == ("__debug__" : Str)) = false := by decide)
    (he : starEach (e :: es) X.env = (false, eval e X.env) :: starEach es X.env := by rfl) (hpl : (backTo pos (starEach es X.env)).any (·.1) = false := by rfl) : DE X (.Call (.Name x p) (e :: es) [] pos) (dCB r t) :=
  (pe_callTy hc hg hm hv ha hn hdb he hpl).imp fun _ _ _ h => lft_cb h
theorem Rls.one {K : PySem.W.Frag} {H : Hp} : ∀ {xs : List V} {d : D}, Rls K H xs [d] → ∃ x, xs = [x] ∧ Rl K H x d
  | _, _, .cons r .nil => ⟨_, rfl, r⟩
theorem Rls.two {K : PySem.W.Frag} {H : Hp} : ∀ {xs : List V} {d e : D}, Rls K H xs [d, e] → ∃ x y, xs = [x, y] ∧ Rl K H x d ∧ Rl K H y e
  | _, _, _, .cons r (.cons q .nil) => ⟨_, _, rfl, r, q⟩
def rLen : RCD := fun ds M Q => match ds with
  | [x] => (match x with
    | .tup es => Q (.int es.length) M
    | x => ∃ es, IsL M x es ∧ Q (.int es.length) M)
  | _ => False
theorem call_len_d : CallD X (.builtin "len") rLen := by
  intro pins s σ H
  intro xs us Q I r h
  obtain ⟨ds, M, Qd, rl, hm, h, hq⟩ := h
  match ds, rl, h with
  | [x], rl, h =>
    obtain ⟨v, rfl, rx⟩ := rl.one
    have lists : ∀ x, Rl X.K H v x → (∃ es, IsL M x es ∧ Qd (.int es.length) M) → wpAny (model X.prog X.w) X.A (call (.builtin "len") us) (EP X pins σ Q) X.xe s := by
      intro x rx ⟨es, hl, q⟩
      obtain ⟨a, ys, rfl, rd, rs⟩ := hl.at rx hm
      exact call_len_seq pins s σ H _ us Q I r ⟨a, ys, rfl, .inl (.inl rd), by rw [rs.length]; exact hq _ _ ⟨_, M, .refl, .int _, hm, q⟩⟩
    cases x with
    | tup es =>
      cases rx with
      | @tup a ys _ e rs => exact call_len_seq pins s σ H _ us Q I r ⟨a, ys, rfl, .inr e, by rw [rs.length]; exact hq _ _ ⟨_, M, .refl, .int _, hm, h⟩⟩
    | _ => exact lists _ rx h
  | [], _, h => exact h.elim
  | _ :: _ :: _, _, h => exact h.elim
def rInt1 : RCD := fun ds M Q => match ds with
  | [x] => (match x with
    | .int i => Q (.int i) M
    | .bl b => Q (.int (if b then 1 else 0)) M
    | _ => False)
  | _ => False
theorem call_int_d : CallD X (.type "int") rInt1 := by
  intro pins s σ H
  intro xs us Q I r h
  obtain ⟨ds, M, Qd, rl, hm, h, hq⟩ := h
  match ds, rl, h with
  | [x], rl, h =>
    obtain ⟨v, rfl, rx⟩ := rl.one
    cases rx with
    | int i => exact call_int1 pins s σ H _ us Q I r (.inl ⟨i, rfl, hq _ _ ⟨_, M, .refl, .int _, hm, h⟩⟩)
    | bl b => exact call_int1 pins s σ H _ us Q I r (.inr ⟨b, rfl, hq _ _ ⟨_, M, .refl, .int _, hm, h⟩⟩)
    | _ => exact h.elim
  | [], _, h => exact h.elim
  | _ :: _ :: _, _, h => exact h.elim
def rAbs1 : RCD := fun ds M Q => match ds with
  | [x] => (match x with
    | .int i => Q (.int (if i < 0 then -i else i)) M
    | _ => False)
  | _ => False
theorem call_abs_d : CallD X (.builtin "abs") rAbs1 := by
  intro pins s σ H
  intro xs us Q I r h
  obtain ⟨ds, M, Qd, rl, hm, h, hq⟩ := h
  match ds, rl, h with
  | [x], rl, h =>
    obtain ⟨v, rfl, rx⟩ := rl.one
    cases rx with
    | int i => exact call_abs pins s σ H _ us Q I r ⟨i, rfl, hq _ _ ⟨_, M, .refl, .int _, hm, h⟩⟩
    | _ => exact h.elim
  | [], _, h => exact h.elim
  | _ :: _ :: _, _, h => exact h.elim
def rMin2 : RCD := fun ds M Q => match ds with
  | [x, y] => (match x, y with
    | .int i, .int j => Q (.int (if j < i then j else i)) M
    | _, _ => False)
  | _ => False
theorem call_min_d (hc : X.calm = true) : CallD X (.builtin "min") rMin2 := by
  intro pins s σ H
  intro xs us Q I r h
  obtain ⟨ds, M, Qd, rl, hm, h, hq⟩ := h
  match ds, rl, h with
  | [x, y], rl, h =>
    obtain ⟨v, w, rfl, rx, ry⟩ := rl.two
    cases rx with
    | int i =>
      cases ry with
      | int j => exact call_min2 hc pins s σ H _ us Q I r ⟨i, j, rfl, hq _ _ ⟨_, M, .refl, .int _, hm, h⟩⟩
      | _ => exact h.elim
    | _ => exact h.elim
  | [], _, h => exact h.elim
  | [_], _, h => exact h.elim
  | _ :: _ :: _ :: _, _, h => exact h.elim
theorem rls_bls {K : PySem.W.Frag} {H : Hp} : ∀ {bs : List Bool} {xs : List V}, Rls K H xs (bs.map D.bl) → xs = bs.map V.bl
  | [], _, r => by cases r; rfl
  | b :: bs, _, r => by
    cases r with
    | cons r t =>
      cases r
      rw [rls_bls t]; rfl
def rAll1 : RCD := fun ds M Q => match ds with
  | [x] => ∃ bs : List Bool, IsL M x (bs.map D.bl) ∧ Q (.bl (bs.all id)) M
  | _ => False
theorem call_all_d (hc : X.calm = true) : CallD X (.builtin "all") rAll1 := by
  intro pins s σ H
  intro xs us Q I r h
  obtain ⟨ds, M, Qd, rl, hm, h, hq⟩ := h
  match ds, rl, h with
  | [x], rl, h =>
    obtain ⟨v, rfl, rx⟩ := rl.one
    obtain ⟨bs, hl, q⟩ := h
    obtain ⟨a, ys, rfl, rd, rs⟩ := hl.at rx hm
    have e := rls_bls rs
    subst e
    exact cr_all hc pins s σ H _ us Q I r ⟨a, bs, rfl, .inl rd, hq _ _ ⟨_, M, .refl, .bl _, hm, q⟩⟩
  | [], _, h => exact h.elim
  | _ :: _ :: _, _, h => exact h.elim

/-! ### methods of lists -/
abbrev RMD := D → List D → Mh → KD → Prop
def lftM (K : PySem.W.Frag) (r : RMD) : V → List V → Hp → VK → Prop := fun x xs H Q => ∃ d ds M Qd, Rl K H x d ∧ Rls K H xs ds ∧ RM K M H ∧ r d ds M Qd ∧ ∀ u H', Up K H Qd u H' → Q u H'
abbrev MtD (X : Cx) (id : String) (r : RMD) : Prop := MtR X id (lftM X.K r)
def dBM (r : RMD) (to : TED) (t : TAD) : TED := fun σ M Q => to σ M fun x M1 => (∃ ds, IsL M1 x ds) ∧ t σ M1 fun ys M2 => r x ys M2 Q
theorem de_bm {id : String} {name : Str} {r : RMD} {o e : Expr} {es : List Expr} {to : TED} {t : TAD} {apos cpos : Pos} (slot : Slot "list" name id) (hty : typeOf (.builtin id) = pure (.type "method_descriptor")) (hm : MtD X id r) (ho : DE X o to) (ha : DA X (e :: es) t)
    (h1 : attributeBase o name X.env (eval o X.env) = eval o X.env := by rfl) (h2 : ((backTo cpos (starEach (e :: es) X.env)).all (fun z => !z.1) && (backToKw cpos (keywordEach [] X.env)).all (fun z => z.1.isSome) && decide ((e :: es).length + ([] : List Keyword).length + (if ([] : List Keyword).isEmpty then 0 else 1) < 30)) = true := by rfl)
    (h3 : (apos.endLine == cpos.line) = true := by rfl) (h4 : starEach (e :: es) X.env = (false, eval e X.env) :: starEach es X.env := by rfl) (h5 : (backTo cpos (starEach es X.env)).any (·.1) = false := by rfl) :
    DE X (.Call (.Attribute o name apos) (e :: es) [] cpos) (dBM r to t) :=
  (pe_bm PySem.F.plainAttrs_list slot hty hm ho ha h1 h2 h3 h4 h5).imp fun σ H Q ⟨σd, M, Qd, hs, hm, h, hq⟩ => ⟨σd, M, _, hs, hm, h, fun u H' ⟨d, M', k, rl, rm, ⟨ds, hl⟩, q⟩ => by
    obtain ⟨a, xs, rfl, rd, rs⟩ := hl.at rl rm
    refine ⟨.inl ⟨rfl, xs, .inl rd⟩, σd, M', _, RSmono k hs, rm, q, fun us H2 ds2 M2 k2 rls rm2 q2 => ?_⟩
    exact ⟨d, ds2, M2, Qd, rl.mono k2, rls, rm2, q2, fun u H3 w => hq _ _ (w.from (k.trans k2))⟩⟩
def rApp : RMD := fun x ys M Q => match ys with
  | [y] => ∃ a ds, x = .ref a ∧ M a = some (.lst ds) ∧ ds.length < sizeLine ∧ Q .non (mupd M a (.lst (ds ++ [y])))
  | _ => False
theorem mt_append_d : MtD X "list.append" rApp := by
  intro pins s σ H
  intro x xs v us Q I rx rxs h
  obtain ⟨d, ds, M, Qd, hd, hds, hm, h, hq⟩ := h
  match ds, hds, h with
  | [y], hds, h =>
    obtain ⟨w, rfl, rw'⟩ := hds.one
    obtain ⟨a, es, rfl, em, hz, q⟩ := h
    cases hd
    obtain ⟨vs, e, rs⟩ := hm.lst em
    have k : Keep H (upd H a (.lst (vs ++ [w]))) := hm.keepMut em
    exact mt_append pins s σ H _ _ v us Q I rx rxs ⟨a, vs, w, rfl, rfl, e, by rw [rs.length]; exact hz, hq _ _ ⟨.non, _, k, .non, hm.put em (.lst ((rs.append (.cons rw' .nil)).mono k)), q⟩⟩
  | [], _, h => exact h.elim
  | _ :: _ :: _, _, h => exact h.elim
/-- extend by a list that stands there, locked or not -/
def rExt : RMD := fun x ys M Q => match ys with
  | [y] => ∃ a ds es, x = .ref a ∧ M a = some (.lst ds) ∧ IsL M y es ∧ ds.length + es.length ≤ sizeLine ∧ Q .non (mupd M a (.lst (ds ++ es)))
  | _ => False
theorem mt_extend_d : MtD X "list.extend" rExt := by
  intro pins s σ H
  intro x xs v us Q I rx rxs h
  obtain ⟨d, ds, M, Qd, hd, hds, hm, h, hq⟩ := h
  match ds, hds, h with
  | [y], hds, h =>
    obtain ⟨w, rfl, rw'⟩ := hds.one
    obtain ⟨a, fs, es, rfl, em, hl, hz, q⟩ := h
    cases hd
    obtain ⟨vs, e, rs⟩ := hm.lst em
    obtain ⟨b, ws, rfl, rd, rs2⟩ := hl.at rw' hm
    cases rx
    obtain ⟨u, rfl, ru⟩ := rxs.one
    cases ru
    obtain ⟨z, its, n, r, hlen, e1⟩ := I.lstM e
    obtain ⟨z2, its2, n2, r2, hlen2, e2⟩ := lstR I rd
    have l1 := rs.length
    have l2 := rs2.length
    have fits : its.toArray.size + its2.toArray.size ≤ sizeLine := by simp only [List.size_toArray]; omega
    have short : ¬ (!its.toArray.isEmpty && Builtin.List.listTooLong (its.toArray.size + its2.toArray.size)) = true := fun z => by
      simp only [notLongL fits, Bool.and_false, Bool.false_eq_true] at z
    have k : Keep H (upd H a (.lst (vs ++ ws))) := hm.keepMut em
    refine call_meets F.slot_list_extend ⟨_, e1, rfl⟩ F.entry_list_extend (F.args_list_extend_2 _ _)
      (PySem.AutoSeq1.list_extend_list_list_0 a its.toArray n b its2.toArray n2 short (by rw [List.size_toArray]; omega) (by omega)) ⟨e1, e2, ?_⟩
    refine ⟨.non, _, I.lset (its' := its ++ its2) e e1 (by simp) (r.append r2) (by rw [List.length_append]; omega), rfl, hq _ _ ⟨.non, _, k, .non, hm.put em (.lst ((rs.append rs2).mono k)), q⟩⟩
  | [], _, h => exact h.elim
  | _ :: _ :: _, _, h => exact h.elim
/-- pop(0) -/
def rPop0 : RMD := fun x ys M Q => match ys with
  | [y] => ∃ a d ds, x = .ref a ∧ y = .int 0 ∧ M a = some (.lst (d :: ds)) ∧ Q d (mupd M a (.lst ds))
  | _ => False
theorem mt_pop0_d : MtD X "list.pop" rPop0 := by
  intro pins s σ H
  intro x xs v us Q I rx rxs h
  obtain ⟨d, ds, M, Qd, hd, hds, hm, h, hq⟩ := h
  match ds, hds, h with
  | [y], hds, h =>
    obtain ⟨w, rfl, rw'⟩ := hds.one
    obtain ⟨a, e0, es, rfl, rfl, em, q⟩ := h
    cases hd
    cases rw'
    obtain ⟨vs, e, rs⟩ := hm.lst em
    cases rs with
    | @cons v0 vr _ _ r0 rr =>
    have k : Keep H (upd H a (.lst ((v0 :: vr).eraseIdx 0))) := hm.keepMut em
    refine mt_popAt pins s σ H _ _ v us Q I rx rxs ⟨a, v0 :: vr, 0, 0, v0, rfl, rfl, e, by decide, by decide, ?_, rfl, hq _ _ ⟨e0, _, k, r0.mono k, hm.put em (.lst (rr.mono k)), q⟩⟩
    simp [seqIndex?]
  | [], _, h => exact h.elim
  | _ :: _ :: _, _, h => exact h.elim
end
end Dl
namespace Dl
open PySem L2 PySem.Spec PyProof.Rows

/-! ### dicts -/
section
variable {κ : Type} [DecidableEq κ]
def valD (kvs : List (κ × D)) (k : κ) : Option D := (kvs.find? fun kv => decide (kv.1 = k)).map (·.2)
def putD (kvs : List (κ × D)) (k : κ) (v : D) : List (κ × D) :=
  if (kvs.any fun q => decide (q.1 = k)) = true then kvs.map (fun q => if q.1 = k then (q.1, v) else q) else kvs ++ [(k, v)]
abbrev KD2 (K : PySem.W.Frag) (H : Hp) : List (κ × V) → List (κ × D) → Prop := Paired (fun (p : κ × V) (q : κ × D) => p.1 = q.1 ∧ Rl K H p.2 q.2)
theorem KD2.val {K : PySem.W.Frag} {H : Hp} {k : κ} {d : D} : ∀ {ks : List (κ × V)} {kvs : List (κ × D)}, KD2 K H ks kvs → valD kvs k = some d → ∃ v, valV ks k = some v ∧ Rl K H v d
  | _, _, .nil, h => by simp [valD] at h
  | _, _, @Paired.cons _ _ _ p q ps qs r t, h => by
    obtain ⟨e, rr⟩ := r
    by_cases c : q.1 = k
    · have h2 : q.2 = d := by simpa [valD, List.find?_cons, c] using h
      exact ⟨p.2, valV_pos (e.trans c), h2 ▸ rr⟩
    · have h2 : valD qs k = some d := by simpa [valD, List.find?_cons, c] using h
      rw [valV_neg (fun z => c (e ▸ z))]
      exact KD2.val t h2
theorem KD2.none {K : PySem.W.Frag} {H : Hp} {k : κ} : ∀ {ks : List (κ × V)} {kvs : List (κ × D)}, KD2 K H ks kvs → valD kvs k = none → valV ks k = none
  | _, _, .nil, h => rfl
  | _, _, @Paired.cons _ _ _ p q ps qs r t, h => by
    obtain ⟨e, rr⟩ := r
    by_cases c : q.1 = k
    · simp [valD, List.find?_cons, c] at h
    · have h2 : valD qs k = Option.none := by
        simp only [valD, List.find?_cons, c, decide_false] at h
        exact h
      rw [valV_neg (fun z => c (e ▸ z))]
      exact KD2.none t h2
theorem KD2.any {K : PySem.W.Frag} {H : Hp} {k : κ} : ∀ {ks : List (κ × V)} {kvs : List (κ × D)}, KD2 K H ks kvs → (ks.any fun kv => decide (kv.1 = k)) = kvs.any fun kv => decide (kv.1 = k)
  | _, _, .nil => rfl
  | _, _, .cons r t => by rw [List.any_cons, List.any_cons, r.1, KD2.any t]
theorem KD2.app {K : PySem.W.Frag} {H : Hp} : ∀ {ks ks2 : List (κ × V)} {kvs kvs2 : List (κ × D)}, KD2 K H ks kvs → KD2 K H ks2 kvs2 → KD2 K H (ks ++ ks2) (kvs ++ kvs2)
  | _, _, _, _, .nil, s => s
  | _, _, _, _, .cons r t, s => .cons r (KD2.app t s)
theorem KD2.upd1 {K : PySem.W.Frag} {H : Hp} {k : κ} {v : V} {d : D} (rv : Rl K H v d) : ∀ {ks : List (κ × V)} {kvs : List (κ × D)}, KD2 K H ks kvs → KD2 K H (ks.map fun kv => if kv.1 = k then (kv.1, v) else kv) (kvs.map fun kv => if kv.1 = k then (kv.1, d) else kv)
  | _, _, .nil => .nil
  | _, _, @Paired.cons _ _ _ p q _ _ r t => by
    rw [List.map_cons, List.map_cons]
    refine .cons ?_ (KD2.upd1 rv t)
    obtain ⟨e, rr⟩ := r
    by_cases c : q.1 = k
    · rw [if_pos (e.trans c), if_pos c]; exact ⟨e, rv⟩
    · rw [if_neg (fun z => c (e ▸ z)), if_neg c]; exact ⟨e, rr⟩
theorem KD2.put {K : PySem.W.Frag} {H : Hp} {k : κ} {v : V} {d : D} (rv : Rl K H v d) {ks : List (κ × V)} {kvs : List (κ × D)} (h : KD2 K H ks kvs) : KD2 K H (putK ks k v) (putD kvs k d) := by
  unfold putK putD
  rw [h.any]
  by_cases c : (kvs.any fun kv => decide (kv.1 = k)) = true
  · rw [if_pos c, if_pos c]; exact h.upd1 rv
  · rw [if_neg c, if_neg c]; exact h.app (.cons ⟨rfl, rv⟩ .nil)
theorem KD2.mono {K : PySem.W.Frag} {H H' : Hp} {ks : List (κ × V)} {kvs : List (κ × D)} (k : Keep H H') (h : KD2 K H ks kvs) : KD2 K H' ks kvs := L2.Paired.mapP h fun _ _ z => ⟨z.1, z.2.mono k⟩
theorem KD2.len {K : PySem.W.Frag} {H : Hp} {ks : List (κ × V)} {kvs : List (κ × D)} (h : KD2 K H ks kvs) : ks.length = kvs.length := Paired.length h
end
section
variable {X : Cx} {K : PySem.W.Frag} {M : Mh} {H : Hp}
theorem RM.dK {a : Addr} {kvs : List (Key × D)} (rm : RM K M H) (e : M a = some (.dK kvs)) : ∃ ks, H a = some (.dK ks) ∧ KD2 K H ks kvs := by
  obtain ⟨ho, e2, r2⟩ := rm _ _ e
  cases r2 with
  | dK rs => exact ⟨_, e2, rs⟩
theorem RM.dT {a : Addr} {kvs : List (List Key × D)} (rm : RM K M H) (e : M a = some (.dT kvs)) : ∃ ks, H a = some (.dT ks) ∧ KD2 K H ks kvs := by
  obtain ⟨ho, e2, r2⟩ := rm _ _ e
  cases r2 with
  | dT rs => exact ⟨_, e2, rs⟩
/-- d["k"] -/
def dGet (td : TED) (k : Str) : TED := fun σ M Q => td σ M fun x M1 => ∃ a kvs d, x = .ref a ∧ M1 a = some (.dK kvs) ∧ valD kvs (.inr k) = some d ∧ Q d M1
theorem de_dget {o : Expr} {td : TED} {k : Str} {j : Nat} {p pos : Pos} (hu : X.A.units + 1 < cLine) (ho : DE X o td) (hs : NoSl (.Constant (.str k) j p)) : DE X (.Subscript o (.Constant (.str k) j p) pos) (dGet td k) :=
  (pe_dget hu ho pe_str hs).imp fun σ H Q ⟨σd, M, Qd, hs, hm, h, hq⟩ => ⟨σd, M, _, hs, hm, h, fun u H' ⟨d, M', k, rl, rm, a, kvs, d2, e1, e2, e3, q⟩ => by
    subst e1
    cases rl
    obtain ⟨ks, e4, r4⟩ := rm.dK e2
    obtain ⟨v, e5, r5⟩ := r4.val e3
    exact ⟨a, v, rfl, by rw [← e5]; exact .k (k := .inr _) e4, hq _ _ ⟨d2, M', k, r5, rm, q⟩⟩⟩
/-- d["k"] = v -/
def dPut (td : TED) (k : Str) (tv : TED) : TSD := fun E σ M => tv σ M fun v M1 => td σ M1 fun x M2 => ∃ a kvs, x = .ref a ∧ M2 a = some (.dK kvs) ∧ kvs.length < sizeLine ∧ E.nx σ (mupd M2 a (.dK (putD kvs (.inr k) v)))
theorem ds_dput {o value : Expr} {td tv : TED} {k : Str} {j : Nat} {p pos pos' : Pos} (hu : X.A.units + 1 < cLine) (ho : DE X o td) (hv : DE X value tv) (hs : swapsWith value (some (.Subscript o (.Constant (.str k) j p) pos')) pos.line X.env = pure false := by rfl) :
    DS X (.Assign [.Subscript o (.Constant (.str k) j p) pos'] value pos) (dPut td k tv) :=
  (ps_dput hu ho pe_str hv hs).imp fun D' σ H ⟨σd, M, E, hs, hm, h, hE⟩ => ⟨σd, M, _, hs, hm, h, fun v H1 ⟨dv, M1, k1, rv, rm1, q⟩ => ⟨σd, M1, _, RSmono k1 hs, rm1, q, fun x H2 ⟨dx, M2, k2, rx, rm2, a, kvs, e1, e2, hz, q2⟩ => by
    subst e1
    cases rx
    obtain ⟨ks, e4, r4⟩ := rm2.dK e2
    have kk : Keep H2 (upd H2 a (.dK (putK ks (.inr k) v))) := rm2.keepMut e2
    refine ⟨a, _, rfl, .k (k := .inr k) e4 (by rw [r4.len]; exact hz), hE.nx _ _ ⟨σd, _, (k1.trans k2).trans kk, RSmono ((k1.trans k2).trans kk) hs, rm2.put e2 (.dK ((r4.put (rv.mono k2)).mono kk)), q2⟩⟩⟩⟩
/-- {} with keys that are pairs of ints -/
def dNewT : TED := fun _ M Q => ∀ p, M p = none → Q (.ref p) (mupd M p (.dT []))
theorem de_dnewT {pos : Pos} : DE X (.Dict [] [] pos) dNewT := pe_dnewT.imp fun σ H Q ⟨σd, M, Qd, hs, hm, h, hq⟩ p hp =>
  hq _ _ ⟨.ref p, _, .new hp, .ref p, hm.add hp (.dT .nil), h p (hm.free hp)⟩
def keyD : Key → D
  | .inl i => .int i
  | .inr x => .str x
theorem keys_rls {K : PySem.W.Frag} {H : Hp} : ∀ {k : List Key} {xs : List V}, Rls K H xs (k.map keyD) → xs = k.map kV
  | [], _, r => by cases r; rfl
  | .inl i :: k, _, r => by
    cases r with
    | cons r t => cases r; rw [keys_rls t]; rfl
  | .inr i :: k, _, r => by
    cases r with
    | cons r t => cases r; rw [keys_rls t]; rfl
/-- a tuple that was just made -/
def NewT (H : Hp) (v : V) (k : List Key) : Prop := ∃ b, v = .ref b ∧ H b = some (.tup (k.map kV))
/-- the pair (a, b) of two ints, as a key -/
def dPair (ta tb : TED) : Sd → Mh → (List Key → Mh → Prop) → Prop := fun σ M Q => ta σ M fun x M1 => tb σ M1 fun y M2 => match x with
  | .int i => (match y with
    | .int j => Q [.inl i, .inl j] M2
    | _ => False)
  | _ => False
def lftP (K : PySem.W.Frag) (t : Sd → Mh → (List Key → Mh → Prop) → Prop) : TE := fun σ H Q => ∃ σd M Qd, RS K H σ σd ∧ RM K M H ∧ t σd M Qd ∧ ∀ u H' k M', Keep H H' → NewT H' u k → RM K M' H' → Qd k M' → Q u H'
theorem pe_pair {a b : Expr} {ta tb : TED} {k : Nat} {pos : Pos} (ha : DE X a ta) (hb : DE X b tb) (hs : starEach [a, b] X.env = (false, eval a X.env) :: starEach [b] X.env := by rfl) (hs2 : starEach [b] X.env = (false, eval b X.env) :: starEach [] X.env := by rfl) :
    PE X (.Tuple [a, b] k pos) (lftP X.K (dPair ta tb)) :=
  (pe_tup (pa_cons ha (pa_cons hb pa_nil hs2) hs)).imp fun σ H Q ⟨σd, M, Qd, hs, hm, h, hq⟩ => ⟨σd, M, _, hs, hm, h, fun u H1 ⟨d, M1, k1, rl1, rm1, q1⟩ => ⟨σd, M1, _, RSmono k1 hs, rm1, q1, fun w H2 ⟨e, M2, k2, rl2, rm2, q2⟩ => by
    cases rl1 with
    | int i =>
      cases rl2 with
      | int j =>
        refine ⟨by show 2 ≤ sizeLine; decide, fun p hp => hq _ _ [.inl i, .inl j] M2 ((k1.trans k2).trans (.new hp)) ⟨p, rfl, upd_same⟩ (rm2.new hp) q2⟩
      | _ => exact q2.elim
    | _ => exact q2.elim⟩⟩
/-- known[a, b] -/
def dGetT (td : TED) (tk : Sd → Mh → (List Key → Mh → Prop) → Prop) : TED := fun σ M Q => td σ M fun x M1 => tk σ M1 fun k M2 => ∃ a kvs d, x = .ref a ∧ M2 a = some (.dT kvs) ∧ valD kvs k = some d ∧ Q d M2
theorem de_dgetT {o i : Expr} {td : TED} {tk} {pos : Pos} (hu : X.A.units + 1 < cLine) (ho : DE X o td) (hk : PE X i (lftP X.K tk)) (hs : NoSl i) : DE X (.Subscript o i pos) (dGetT td tk) :=
  (pe_dget hu ho hk hs).imp fun σ H Q ⟨σd, M, Qd, hs, hm, h, hq⟩ => ⟨σd, M, _, hs, hm, h, fun u H1 ⟨d, M1, k1, rl, rm, q⟩ => ⟨σd, M1, _, RSmono k1 hs, rm, q, fun w H2 k M2 k2 ⟨b, eb, hb⟩ rm2 ⟨a, kvs, d2, e1, e2, e3, q2⟩ => by
    subst e1
    cases rl
    obtain ⟨ks, e4, r4⟩ := rm2.dT e2
    obtain ⟨v, e5, r5⟩ := r4.val e3
    subst eb
    exact ⟨a, v, rfl, by rw [← e5]; exact .t e4 hb, hq _ _ ⟨d2, M2, k1.trans k2, r5, rm2, q2⟩⟩⟩⟩
def dInT (neg : Bool) (tk : Sd → Mh → (List Key → Mh → Prop) → Prop) (td : TED) : TTD := fun σ M Q => tk σ M fun k M1 => td σ M1 fun x M2 => ∃ a kvs, x = .ref a ∧ M2 a = some (.dT kvs) ∧ Q (if neg = true then !(valD kvs k).isSome else (valD kvs k).isSome) M2
theorem isSome_kd {κ : Type} [DecidableEq κ] {K : PySem.W.Frag} {H : Hp} {ks : List (κ × V)} {kvs : List (κ × D)} (h : KD2 K H ks kvs) (k : κ) : (valV ks k).isSome = (valD kvs k).isSome := by
  cases e : valD kvs k with
  | none => rw [h.none e]; rfl
  | some d => obtain ⟨v, e2, _⟩ := h.val e; rw [e2]; rfl
theorem dt_inT {o i : Expr} {td : TED} {tk} {pos : Pos} (hu : X.A.units + 1 < cLine) (hk : PE X i (lftP X.K tk)) (ho : DE X o td) (h1 : behindInMarks .In o = false := by rfl) : DT X (.Compare i [.In] [o] pos) (dInT false tk td) :=
  (pt_cmp (pc_din hu hk ho) h1).imp fun σ H Q ⟨σd, M, Qd, hs, hm, h, hq⟩ => ⟨σd, M, _, hs, hm, h, fun w H1 k M1 k1 ⟨b, eb, hb⟩ rm1 q => ⟨σd, M1, _, RSmono k1 hs, rm1, q, fun u H2 ⟨d, M2, k2, rl, rm2, a, kvs, e1, e2, q2⟩ => by
    subst e1
    cases rl
    obtain ⟨ks, e4, r4⟩ := rm2.dT e2
    subst eb
    exact ⟨a, _, rfl, .t e4 (k2.tup _ _ hb), _, rfl, by rw [isSome_kd r4]; exact hq _ _ _ (k1.trans k2) rm2 q2⟩⟩⟩
theorem dt_notInT {o i : Expr} {td : TED} {tk} {pos : Pos} (hu : X.A.units + 1 < cLine) (hk : PE X i (lftP X.K tk)) (ho : DE X o td) (h1 : behindInMarks .NotIn o = false := by rfl) : DT X (.Compare i [.NotIn] [o] pos) (dInT true tk td) :=
  (pt_cmp (pc_dnotin hu hk ho) h1).imp fun σ H Q ⟨σd, M, Qd, hs, hm, h, hq⟩ => ⟨σd, M, _, hs, hm, h, fun w H1 k M1 k1 ⟨b, eb, hb⟩ rm1 q => ⟨σd, M1, _, RSmono k1 hs, rm1, q, fun u H2 ⟨d, M2, k2, rl, rm2, a, kvs, e1, e2, q2⟩ => by
    subst e1
    cases rl
    obtain ⟨ks, e4, r4⟩ := rm2.dT e2
    subst eb
    exact ⟨a, _, rfl, .t e4 (k2.tup _ _ hb), _, rfl, by rw [isSome_kd r4]; exact hq _ _ _ (k1.trans k2) rm2 q2⟩⟩⟩
def dPutT (td : TED) (tk : Sd → Mh → (List Key → Mh → Prop) → Prop) (tv : TED) : TSD := fun E σ M => tv σ M fun v M1 => td σ M1 fun x M2 => tk σ M2 fun k M3 => ∃ a kvs, x = .ref a ∧ M3 a = some (.dT kvs) ∧ kvs.length < sizeLine ∧ E.nx σ (mupd M3 a (.dT (putD kvs k v)))
theorem ds_dputT {o i value : Expr} {td tv : TED} {tk} {pos pos' : Pos} (hu : X.A.units + 1 < cLine) (ho : DE X o td) (hk : PE X i (lftP X.K tk)) (hv : DE X value tv) (hs : swapsWith value (some (.Subscript o i pos')) pos.line X.env = pure false := by rfl) :
    DS X (.Assign [.Subscript o i pos'] value pos) (dPutT td tk tv) :=
  (ps_dput hu ho hk hv hs).imp fun D' σ H ⟨σd, M, E, hs, hm, h, hE⟩ => ⟨σd, M, _, hs, hm, h, fun v H1 ⟨dv, M1, k1, rv, rm1, q⟩ => ⟨σd, M1, _, RSmono k1 hs, rm1, q, fun x H2 ⟨dx, M2, k2, rx, rm2, q2⟩ => ⟨σd, M2, _, RSmono (k1.trans k2) hs, rm2, q2, fun w H3 k M3 k3 ⟨b, eb, hb⟩ rm3 ⟨a, kvs, e1, e2, hz, q3⟩ => by
    subst e1
    cases rx
    subst eb
    obtain ⟨ks, e4, r4⟩ := rm3.dT e2
    have kk : Keep H3 (upd H3 a (.dT (putK ks k v))) := rm3.keepMut e2
    refine ⟨a, _, rfl, .t e4 hb (by rw [r4.len]; exact hz), hE.nx _ _ ⟨σd, _, ((k1.trans k2).trans k3).trans kk, RSmono (((k1.trans k2).trans k3).trans kk) hs, rm3.put e2 (.dT ((r4.put (rv.mono (k2.trans k3))).mono kk)), q3⟩⟩⟩⟩⟩
/-- {"a": .., "b": ..} -/
def dPairs : List (Str × TED) → Sd → Mh → (List (Key × D) → Mh → Prop) → Prop
  | [], _, M, Q => Q [] M
  | (k, tv) :: r, σ, M, Q => tv σ M fun y M1 => dPairs r σ M1 fun ps M2 => Q ((.inr k, y) :: ps) M2
def dDisp (trs : List (Str × TED)) : TED := fun σ M Q => ∀ p, M p = none → dPairs trs σ (mupd M p (.dK [])) fun ps M2 => M2 p = some (.dK []) ∧ ps.length ≤ 15 ∧ (ps.map (·.1)).Nodup ∧ Q (.ref p) (mupd M2 p (.dK ps))
theorem merge_nodup : ∀ (ks acc : List (Key × V)), ((acc ++ ks).map (·.1)).Nodup → mergeK acc ks = acc ++ ks
  | [], acc, _ => by simp [mergeK]
  | p :: r, acc, h => by
    have h1 : ¬ (acc.any fun kv => decide (kv.1 = p.1)) = true := by
      intro z
      rw [List.any_eq_true] at z
      obtain ⟨q, hq, e⟩ := z
      rw [List.map_append, List.map_cons, List.nodup_append] at h
      exact h.2.2 q.1 (List.mem_map_of_mem hq) p.1 (List.mem_cons_self ..) (of_decide_eq_true e)
    have e : putK acc p.1 p.2 = acc ++ [p] := by unfold putK; rw [if_neg h1]
    show mergeK (putK acc p.1 p.2) r = acc ++ p :: r
    rw [e, merge_nodup r (acc ++ [p]) (by simpa using h)]
    simp
theorem pairs_lft {σ : St} {σd : Sd} : ∀ {tv : List (Str × TED)} {Qd : List (Key × D) → Mh → Prop} {Q : List (V × V) → Hp → Prop} {H : Hp} {M : Mh}, RS X.K H σ σd → RM X.K M H → dPairs tv σd M Qd →
    (∀ ps H' kvs M', Keep H H' → (∃ ks, ps = ks.map (fun kv : Key × V => (kV kv.1, kv.2)) ∧ KD2 X.K H' ks kvs) → RM X.K M' H' → Qd kvs M' → Q ps H') →
    tPairs (tv.map fun p => (tC (.str p.1), lft X.K p.2)) σ H Q
  | [], Qd, Q, H, M, hs, hm, h, hq => hq _ _ [] M .refl ⟨[], rfl, .nil⟩ hm h
  | (kk, t) :: r, Qd, Q, H, M, hs, hm, h, hq => by
    refine ⟨σd, M, _, hs, hm, h, fun v H1 ⟨d, M1, k1, rl, rm, q⟩ => ?_⟩
    refine pairs_lft (tv := r) (RSmono k1 hs) rm q fun ps H' kvs M' k' ⟨ks, e, rk⟩ rm' q' => ?_
    exact hq _ _ _ M' (k1.trans k') ⟨(.inr kk, v) :: ks, by rw [e]; rfl, .cons ⟨rfl, rl.mono k'⟩ rk⟩ rm' q'
theorem keys_of {K : PySem.W.Frag} {H : Hp} : ∀ {ks : List (Key × V)} {kvs : List (Key × D)}, KD2 K H ks kvs → ks.map (·.1) = kvs.map (·.1)
  | _, _, .nil => rfl
  | _, _, .cons r t => by rw [List.map_cons, List.map_cons, r.1, keys_of t]
theorem de_disp {keys : List (Option Expr)} {values : List Expr} {trs : List (Str × TED)} {pos : Pos} (h : PPs X pos keys values (trs.map fun p => (tC (.str p.1), lft X.K p.2))) (hall : keys.all (·.isSome) = true) (hl : keys.length = values.length) (h0 : keys ≠ [])
    (h15 : keys.length ≤ 15) : DE X (.Dict keys values pos) (dDisp trs) :=
  (pe_disp h hall hl h0 h15).imp fun σ H Q ⟨σd, M, Qd, hs, hm, h, hq⟩ p hp => by
    have k0 : Keep H (upd H p (.dK [])) := .new hp
    refine pairs_lft (RSmono k0 hs) (hm.add hp (.dK .nil)) (h p (hm.free hp)) fun ps H' kvs M' k' ⟨ks, e, rk⟩ rm' ⟨e2, hz, hn, q⟩ => ?_
    obtain ⟨ks0, e3, r3⟩ := rm'.dK e2
    cases r3
    refine ⟨e3, ks, e, by rw [rk.len]; exact hz, ?_⟩
    have em : mergeK [] ks = ks := by
      have := merge_nodup ks [] (by rw [List.nil_append, keys_of rk]; exact hn)
      rw [this, List.nil_append]
    rw [em]
    have kk : Keep H' (upd H' p (.dK ks)) := rm'.keepMut e2
    exact hq _ _ ⟨.ref p, _, (k0.trans k').trans kk, .ref p, rm'.put e2 (.dK (rk.mono kk)), q⟩
theorem pps_one {k : Str} {j : Nat} {p pos : Pos} {v : Expr} {ks : List (Option Expr)} {vs : List Expr} {tv : TED} {trs : List (Str × TED)} (hv : DE X v tv) (hr : PPs X pos ks vs (trs.map fun p => (tC (.str p.1), lft X.K p.2))) :
    PPs X pos (some (.Constant (.str k) j p) :: ks) (v :: vs) (((k, tv) :: trs).map fun p => (tC (.str p.1), lft X.K p.2)) := pps_cons pe_str hv hr
end
end Dl
namespace Dl
open PySem L2 PySem.Spec PyProof.Rows
section
variable {X : Cx}
/-! ### statements -/
def dNext : TSD := fun E σ M => E.nx σ M
def dSeq (t u : TSD) : TSD := fun E σ M => t { E with nx := u E } σ M
theorem dss_nil : DSs X [] dNext := pss_nil.imp fun D' σ H ⟨σd, M, E, hs, hm, h, hE⟩ => hE.nx _ _ ⟨σd, M, .refl, hs, hm, h⟩
theorem dss_cons {st : Stmt} {rest : List Stmt} {t u : TSD} (h1 : DS X st t) (h2 : DSs X rest u) : DSs X (st :: rest) (dSeq t u) :=
  (pss_cons h1 h2).imp fun D' σ H ⟨σd, M, E, hs, hm, h, hE⟩ => ⟨σd, M, { E with nx := u E }, hs, hm, h, hE.with fun σ' H' ⟨σd', M', k, hs', hm', q⟩ => ⟨σd', M', E, hs', hm', q, hE.from k⟩⟩
theorem dss_one {st : Stmt} {t : TSD} (h : DS X st t) : DSs X [st] t := pss_one h
def dDrop (te : TED) : TSD := fun E σ M => te σ M fun _ M1 => E.nx σ M1
theorem ds_expr {e : Expr} {te : TED} {pos : Pos} (he : DE X e te) (hs : swapsWith e none pos.line X.env = pure false := by rfl) : DS X (.Expr e pos) (dDrop te) :=
  (ps_expr he hs).imp fun D' σ H ⟨σd, M, E, hs, hm, h, hE⟩ => ⟨σd, M, _, hs, hm, h, fun u H' ⟨d, M', k, rl, rm, q⟩ => hE.nx _ _ ⟨σd, M', k, RSmono k hs, rm, q⟩⟩
def dRet (te : TED) : TSD := fun E σ M => te σ M E.rt
theorem ds_ret {e : Expr} {te : TED} {pos : Pos} (he : DE X e te) : DS X (.Return (some e) pos) (dRet te) :=
  (ps_ret he).imp fun D' σ H ⟨σd, M, E, hs, hm, h, hE⟩ => ⟨σd, M, _, hs, hm, h, fun u H' w => hE.rt _ _ w⟩
def dIfS (c : TTD) (t u : TSD) : TSD := fun E σ M => c σ M fun b M1 => if b = true then t E σ M1 else u E σ M1
theorem ds_if {c : Expr} {a b : List Stmt} {tc : TTD} {t u : TSD} {pos : Pos} (hc : DT X c tc) (ha : DSs X a t) (hb : DSs X b u) : DS X (.If c a b pos) (dIfS tc t u) :=
  (ps_if hc ha hb).imp fun D' σ H ⟨σd, M, E, hs, hm, h, hE⟩ => ⟨σd, M, _, hs, hm, h, fun b H' M' k rm q => by
    cases b with
    | true => exact ⟨σd, M', E, RSmono k hs, rm, q, hE.from k⟩
    | false => exact ⟨σd, M', E, RSmono k hs, rm, q, hE.from k⟩⟩

/-! ### targets -/
def dName (i : Nat) : TGD := fun d σ M Q => Q (σ.set i (some d)) M
/-- a target that stores only into the slots vs -/
def lftGv (K : PySem.W.Frag) (vs : List Nat) (t : TGD) : TG := fun v σ H Q => ∃ d σd M Qd, Rl K H v d ∧ RS K H σ σd ∧ RM K M H ∧ t d σd M Qd ∧ ∀ σ' H', wipe σ' vs = wipe σ vs → UpS K H Qd σ' H' → Q σ' H'
abbrev DGv (X : Cx) (vs : List Nat) (tg : Expr) (t : TGD) : Prop := PG X tg (lftGv X.K vs t)
def lftGvs (K : PySem.W.Frag) (vs : List Nat) (t : TGsD) : TGs := fun us σ H Q => ∃ ds σd M Qd, Rls K H us ds ∧ RS K H σ σd ∧ RM K M H ∧ t ds σd M Qd ∧ ∀ σ' H', wipe σ' vs = wipe σ vs → UpS K H Qd σ' H' → Q σ' H'
abbrev DGvs (X : Cx) (vs : List Nat) (tgs : List Expr) (t : TGsD) : Prop := PGs X tgs (lftGvs X.K vs t)
theorem wipe_ext {σ τ : St} {vs : List Nat} (hl : σ.length = τ.length) (h : ∀ i, i ∉ vs → σ[i]? = τ[i]?) : wipe σ vs = wipe τ vs := by
  induction vs generalizing σ τ with
  | nil => exact List.ext_getElem? fun i => h i (by simp)
  | cons v vs ih =>
    show (wipe σ vs).set v none = (wipe τ vs).set v none
    have e : wipe (σ.set v none) vs = wipe (τ.set v none) vs := ih (by simp [hl]) fun i hi => by
      by_cases c : v = i
      · subst c
        rw [List.getElem?_set, List.getElem?_set, hl, if_pos rfl, if_pos rfl]
      · rw [List.getElem?_set_ne c, List.getElem?_set_ne c]
        exact h i (by simp only [List.mem_cons, not_or]; exact ⟨fun z => c z.symm, hi⟩)
    have comm : ∀ (ρ : St) (us : List Nat), (wipe ρ us).set v none = (wipe (ρ.set v none) us).set v none := by
      intro ρ us
      induction us with
      | nil => show ρ.set v none = (ρ.set v none).set v none; rw [List.set_set]
      | cons u us ih2 =>
        show ((wipe ρ us).set u none).set v none = ((wipe (ρ.set v none) us).set u none).set v none
        by_cases c : u = v
        · subst c; rw [List.set_set, List.set_set, ih2]
        · rw [List.set_comm _ _ c, ih2, List.set_comm _ _ (Ne.symm c)]
    rw [comm σ, comm τ, e]
theorem wipe_set {σ : St} {i : Nat} {x : Option V} {vs : List Nat} (hi : i ∈ vs) : wipe (σ.set i x) vs = wipe σ vs :=
  wipe_ext (by simp) fun j hj => List.getElem?_set_ne (fun z : i = j => hj (by rw [← z]; exact hi))
theorem dg_name {i : Nat} {x : Str} {pos : Pos} {vs : List Nat} (hi' : i ∈ vs) (hN : X.N.Nodup) (hi : X.N[i]? = some x) (hx : Loc X.env.scope x) (hf : X.fn x = true ∨ X.env.scope.names.lookup x = some .local := by first | exact .inl rfl | exact .inr rfl | assumption) : DGv X vs (.Name x pos) (dName i) :=
  (pg_name hN hi hx hf).imp fun v σ H Q ⟨d, σd, M, Qd, r, hs, hm, h, hq⟩ => hq _ _ (wipe_set hi') ⟨_, M, .refl, RSset r i hs, hm, h⟩
def dgNil : TGsD := fun ds σ M Q => match ds with
  | [] => Q σ M
  | _ => False
def dgCons (t : TGD) (u : TGsD) : TGsD := fun ds σ M Q => match ds with
  | d :: r => t d σ M fun σ1 M1 => u r σ1 M1 Q
  | _ => False
theorem dgs_nil {vs : List Nat} : DGvs X vs [] dgNil := pgs_nil.imp fun us σ H Q ⟨ds, σd, M, Qd, r, hs, hm, h, hq⟩ => by
  cases r with
  | nil => exact ⟨rfl, hq _ _ rfl ⟨_, M, .refl, hs, hm, h⟩⟩
  | cons _ _ => exact h.elim
theorem dgs_cons {vs : List Nat} {e : Expr} {es : List Expr} {t : TGD} {u : TGsD} (h1 : DGv X vs e t) (h2 : DGvs X vs es u)
    (hs : (assignEach (e :: es) X.env).map (·.2) = assign e X.env :: (assignEach es X.env).map (·.2) := by rfl) : DGvs X vs (e :: es) (dgCons t u) :=
  (pgs_cons h1 h2 hs).imp fun us σ H Q ⟨ds, σd, M, Qd, r, hs, hm, h, hq⟩ => by
    cases r with
    | nil => exact h.elim
    | cons r rr => exact ⟨_, _, rfl, _, σd, M, _, r, hs, hm, h, fun σ' H' w ⟨σd', M', k, hs', hm', q⟩ => ⟨_, σd', M', Qd, rr.mono k, hs', hm', q, fun σ2 H2 w2 z => hq _ _ (w2.trans w) (z.from k)⟩⟩
def dgTup (n : Nat) (t : TGsD) : TGD := fun d σ M Q => match d with
  | .tup ds => if (ds.length == n) = true then t ds σ M Q else False
  | _ => False
theorem dg_tup {vs : List Nat} {es : List Expr} {k : Nat} {t : TGsD} {n : Nat} {pos : Pos} (hc : X.calm = true) (h : DGvs X vs es t)
    (hn : (assignEach es X.env).length = n := by rfl) (hst : (assignEach es X.env).findIdx? (·.1) = none := by rfl) : DGv X vs (.Tuple es k pos) (dgTup n t) :=
  (pg_tup hc h hn hst).imp fun v σ H Q ⟨d, σd, M, Qd, r, hs, hm, h, hq⟩ => by
    cases r with
    | @tup a xs ds e rs =>
      have h : if (ds.length == n) = true then t ds σd M Qd else False := h
      split at h
      · rename_i c
        exact ⟨a, xs, rfl, e, by rw [rs.length]; exact eq_of_beq c, ds, σd, M, Qd, rs, hs, hm, h, hq⟩
      · exact h.elim
    | _ => exact h.elim
/-- o[i] = e -/
def rSet : D → D → D → Mh → (Mh → Prop) → Prop := fun o i v M Q => ∃ a k ds j, o = .ref a ∧ i = .int k ∧ M a = some (.lst ds) ∧ ixN ds.length k = some j ∧ Q (mupd M a (.lst (ds.set j v)))
def dAsg (te : TED) (g : TGD) : TSD := fun E σ M => te σ M fun x M1 => g x σ M1 E.nx
def dSub (to ti : TED) : TGD := fun v σ M Q => to σ M fun o M1 => ti σ M1 fun i M2 => rSet o i v M2 fun M3 => Q σ M3
theorem dg_sub {o i : Expr} {to ti : TED} {pos : Pos} {vs : List Nat} (ho : DE X o to) (hi : DE X i ti)
    (hst : ∀ u, assign (.Subscript o i pos) X.env u = (do
      let obj ← holding [u] (eval o X.env)
      let idx ← holding [u, obj] (eval i X.env)
      standAt pos
      holding [u, obj, idx] (setItem obj idx u)
      release [u, obj, idx] []) := by intro _; rfl) : DGv X vs (.Subscript o i pos) (dSub to ti) :=
  (pg_sub ho hi set_list hst).imp fun v σ H Q ⟨d, σd, M, Qd, r, hs, hm, h, hq⟩ => ⟨σd, M, _, hs, hm, h, fun u H1 ⟨dx, M1, k1, r1, m1, q1⟩ => ⟨σd, M1, _, RSmono k1 hs, m1, q1, fun w H2 ⟨dy, M2, k2, r2, m2, a, k, ds, j, e1, e2, e3, e4, q2⟩ => by
    subst e1 e2
    cases r1
    cases r2
    obtain ⟨xs, e5, rs⟩ := m2.lst e3
    have kk : Keep H2 (upd H2 a (.lst (xs.set j v))) := m2.keepMut e3
    refine ⟨a, xs, k, j, rfl, rfl, e5, by rw [rs.length]; exact e4, hq _ _ rfl ⟨σd, _, (k1.trans k2).trans kk, RSmono ((k1.trans k2).trans kk) hs, m2.put e3 (.lst ((rs.set (r.mono (k1.trans k2)) j).mono kk)), q2⟩⟩⟩⟩
theorem ds_asg {vs : List Nat} {tg e : Expr} {te : TED} {g : TGD} {pos : Pos} (he : DE X e te) (hg : DGv X vs tg g) (hs : swapsWithSole [tg] e pos.line X.env = pure false := by rfl) (hw : swappedStores [tg] e X.env = pure none := by rfl)
    (h1 : (assignEach [tg] X.env).map (·.2) = [assign tg X.env] := by rfl) : DS X (.Assign [tg] e pos) (dAsg te g) :=
  (ps_asg he hg hs hw h1).imp fun D' σ H ⟨σd, M, E, hs, hm, h, hE⟩ => ⟨σd, M, _, hs, hm, h, fun u H' ⟨d, M', k, rl, rm, q⟩ => ⟨d, σd, M', _, rl, RSmono k hs, rm, q, fun σ' H2 _ w => hE.nx _ _ (w.from k)⟩⟩
theorem ds_set {i : Nat} {x : Str} {e : Expr} {te : TED} {pos pos' : Pos} (hN : X.N.Nodup) (hi : X.N[i]? = some x) (hx : Loc X.env.scope x) (he : DE X e te) (hs : swapsWith e (some (.Name x pos')) pos.line X.env = pure false := by rfl) (hf : X.fn x = true ∨ X.env.scope.names.lookup x = some .local := by first | exact .inl rfl | exact .inr rfl | assumption) :
    DS X (.Assign [.Name x pos'] e pos) (dAsg te (dName i)) :=
  (ps_set hN hi hx he hs hf).imp fun D' σ H ⟨σd, M, E, hs, hm, h, hE⟩ => ⟨σd, M, _, hs, hm, h, fun u H' ⟨d, M', k, rl, rm, q⟩ => hE.nx _ _ ⟨_, M', k, RSset rl i (RSmono k hs), rm, q⟩⟩
/-- a, b = x, y -/
def dPar (i j : Nat) (ta : TAD) : TSD := fun E σ M => ta σ M fun ds M1 => match ds with
  | [v, w] => E.nx ((σ.set i (some v)).set j (some w)) M1
  | _ => False
theorem ds_par {i j : Nat} {x y : Str} {a b : Expr} {ta : TAD} {px py pt pos : Pos} {kt k2 pt2} (hc : X.calm = true) (hN : X.N.Nodup) (hi : X.N[i]? = some x) (hj : X.N[j]? = some y) (hij : i ≠ j)
    (hx : X.env.scope.names.lookup x = some .local) (hy : X.env.scope.names.lookup y = some .local) (ha : DA X [a, b] ta)
    (two : swappedStores [.Tuple [.Name x px, .Name y py] kt pt] (.Tuple [a, b] k2 pt2) X.env = pure (some [x, y])) (sole : swapsWithSole [.Tuple [.Name x px, .Name y py] kt pt] (.Tuple [a, b] k2 pt2) pos.line X.env = pure false := by rfl) :
    DS X (.Assign [.Tuple [.Name x px, .Name y py] kt pt] (.Tuple [a, b] k2 pt2) pos) (dPar i j ta) :=
  (ps_par hc hN hi hj hij hx hy ha two sole).imp fun D' σ H ⟨σd, M, E, hs, hm, h, hE⟩ => ⟨σd, M, _, hs, hm, h, fun us H' ds M' k rl rm q => by
    match ds, rl, q with
    | [v, w], rl, q =>
      obtain ⟨x1, x2, rfl, r1, r2⟩ := rl.two
      exact ⟨x1, x2, rfl, hE.nx _ _ ⟨_, M', k, RSset r2 j (RSset r1 i (RSmono k hs)), rm, q⟩⟩
    | [], _, q => exact q.elim
    | [_], _, q => exact q.elim
    | _ :: _ :: _ :: _, _, q => exact q.elim⟩

/-! ### what is walked: its items ds; G: what must hold at each turn -/
structure WalkD (K : PySem.W.Frag) (H0 : Hp) (J : It) (ds : List D) (G : Mh → Prop) : Prop where
  goes : ∀ i H M, i < ds.length → Keep H0 H → RM K M H → G M → J.go i H
  stops : ∀ H M, Keep H0 H → RM K M H → G M → J.stop ds.length H
  yields : ∀ i H M x H', i < ds.length → Keep H0 H → RM K M H → G M → J.yld i H x H' → ∃ d, ds[i]? = some d ∧ Keep H H' ∧ RM K M H' ∧ Rl K H' x d
abbrev TID := Sd → Mh → (List D → (Mh → Prop) → Mh → Prop) → Prop
def lftI (K : PySem.W.Frag) (t : TID) : TI := fun σ H R => ∃ σd M Rd, RS K H σ σd ∧ RM K M H ∧ t σd M Rd ∧ ∀ J H', (∃ ds G M', Keep H H' ∧ RM K M' H' ∧ WalkD K H' J ds G ∧ Rd ds G M') → R J H'
abbrev DI (X : Cx) (tg iter : Expr) (t : TID) : Prop := PI X tg iter (lftI X.K t)
/-- over data or a list that stays -/
def dIL (te : TED) : TID := fun σ M R => te σ M fun x M1 => match x with
  | .lst ds => R ds (fun _ => True) M1
  | .ref a => ∃ ds, M1 a = some (.lst ds) ∧ R ds (fun M' => M' a = some (.lst ds)) M1
  | _ => False
theorem walkD_lst {K : PySem.W.Frag} {H : Hp} {a : Addr} {o : Obj} {xs : List V} {ds : List D} (e : H a = some (.frz o (.lst xs))) (rs : Rls K H xs ds) : WalkD K H (Itl K a) ds (fun _ => True) := by
  have sq : ∀ {H'}, Keep H H' → SqL K H' a xs := fun k => .inl (.inr ⟨o, k.frz _ _ _ e⟩)
  refine ⟨fun i H' M hi k _ _ => ⟨xs, xs[i]'(by rw [rs.length]; exact hi), sq k, by simp⟩, fun H' M k _ _ => ⟨xs, sq k, by rw [rs.length]; exact Nat.le_refl _⟩, fun i H1 M x H' hi k rm _ y => ?_⟩
  obtain ⟨d, h1, h2⟩ := rs.get' (y.2 xs (sq k))
  rw [y.1]
  exact ⟨d, h1, .refl, rm, h2.mono k⟩
theorem walkD_ref {K : PySem.W.Frag} {H : Hp} {a : Addr} {ds : List D} : WalkD K H (Itl K a) ds (fun M => M a = some (.lst ds)) := by
  refine ⟨fun i H' M hi k rm g => ?_, fun H' M k rm g => ?_, fun i H1 M x H' hi k rm g y => ?_⟩
  · obtain ⟨xs, e, rs⟩ := rm.lst g
    exact ⟨xs, xs[i]'(by rw [rs.length]; exact hi), .of e, by simp⟩
  · obtain ⟨xs, e, rs⟩ := rm.lst g
    exact ⟨xs, .of e, by rw [rs.length]; exact Nat.le_refl _⟩
  · obtain ⟨xs, e, rs⟩ := rm.lst g
    obtain ⟨d, h1, h2⟩ := rs.get' (y.2 xs (.of e))
    rw [y.1]
    exact ⟨d, h1, .refl, rm, h2⟩
theorem di_list {tg l : Expr} {te : TED} (hl : DE X l te) : DI X tg l (dIL te) :=
  (pi_list hl).imp fun σ H R ⟨σd, M, Rd, hs, hm, h, hR⟩ => ⟨σd, M, _, hs, hm, h, fun u H' ⟨d, M', k, rl, rm, q⟩ => by
    cases rl with
    | @lst a o xs ds e rs => exact ⟨a, rfl, ⟨xs, .inl (.inr ⟨o, e⟩)⟩, hR _ _ ⟨ds, _, M', k, rm, walkD_lst e rs, q⟩⟩
    | ref a =>
      obtain ⟨ds, g, q⟩ := q
      obtain ⟨xs, e, rs⟩ := rm.lst g
      exact ⟨a, rfl, ⟨xs, .of e⟩, hR _ _ ⟨ds, _, M', k, rm, walkD_ref, q⟩⟩
    | _ => exact q.elim⟩
def dIT (te : TED) : TID := fun σ M R => te σ M fun x M1 => match x with
  | .tup ds => R ds (fun _ => True) M1
  | _ => False
theorem di_tup {tg l : Expr} {te : TED} (hl : DE X l te) : DI X tg l (dIT te) :=
  (pi_tup hl).imp fun σ H R ⟨σd, M, Rd, hs, hm, h, hR⟩ => ⟨σd, M, _, hs, hm, h, fun u H' ⟨d, M', k, rl, rm, q⟩ => by
    cases rl with
    | @tup a xs ds e rs =>
      refine ⟨a, rfl, ⟨xs, e⟩, hR _ _ ⟨ds, _, M', k, rm, ⟨fun i H2 M2 hi k2 _ _ => ⟨xs, xs[i]'(by rw [rs.length]; exact hi), k2.sqT e, by simp⟩, fun H2 M2 k2 _ _ => ⟨xs, k2.sqT e, by rw [rs.length]; exact Nat.le_refl _⟩, fun i H1 M2 x H2 hi k2 rm2 _ y => ?_⟩, q⟩⟩
      obtain ⟨d, h1, h2⟩ := rs.get' (y.2 xs (k2.sqT e))
      rw [y.1]
      exact ⟨d, h1, .refl, rm2, h2.mono k2⟩
    | _ => exact q.elim⟩
def intsD (lo : Int) (n : Nat) : List D := (List.range n).map fun i => .int (lo + (i : Nat))
theorem intsD_len (lo : Int) (n : Nat) : (intsD lo n).length = n := by simp [intsD]
theorem walkD_range {K : PySem.W.Frag} {H : Hp} {lo : Int} {n : Nat} : WalkD K H (Itr lo n) (intsD lo n) (fun _ => True) := by
  refine ⟨fun i H' M hi _ _ _ => ?_, fun H' M _ _ _ => ?_, fun i H1 M x H' hi k rm _ y => ?_⟩
  · show i < n
    rw [intsD_len] at hi; exact hi
  · show n ≤ _
    rw [intsD_len]; exact Nat.le_refl _
  · rw [intsD_len] at hi
    rw [y.1, y.2]
    exact ⟨.int (lo + i), by simp [intsD, hi], .refl, rm, .int _⟩
def dIR (t : TAD) : TID := fun σ M R => t σ M fun ds M1 => match ds with
  | [x] => (match x with
    | .int j => j < 2 ^ 62 ∧ -(2 ^ 62) ≤ j ∧ R (intsD 0 j.toNat) (fun _ => True) M1
    | _ => False)
  | _ => False
theorem di_range {tg a : Expr} {ta : TAD} {p pos : Pos} (hg : Gl X "range") (hm : X.mg "range" = none) (ha : DA X [a] ta) (hs : starEach [a] X.env = [(false, eval a X.env)] := by rfl) : DI X tg (.Call (.Name "range" p) [a] [] pos) (dIR ta) :=
  (pi_range1 hg hm ha hs).imp fun σ H R ⟨σd, M, Rd, hs, hm, h, hR⟩ => ⟨σd, M, _, hs, hm, h, fun us H' ds M' k rl rm q => by
    match ds, rl, q with
    | [x], rl, q =>
      obtain ⟨v, rfl, rx⟩ := rl.one
      cases rx with
      | int j => exact ⟨j, rfl, q.2.1, q.1, hR _ _ ⟨_, _, M', k, rm, walkD_range, q.2.2⟩⟩
      | _ => exact q.elim
    | [], _, q => exact q.elim
    | _ :: _ :: _, _, q => exact q.elim⟩
/-! ### for -/
def loopD (g : TGD) (tb : TSD) (E : EndsD) (G : Mh → Prop) : List D → Sd → Mh → Prop
  | [], σ, M => G M ∧ E.nx σ M
  | d :: ds, σ, M => G M ∧ g d σ M fun σ2 M2 => tb ⟨loopD g tb E G ds, E.rt, E.nx, loopD g tb E G ds⟩ σ2 M2
def dFor (wi : TID) (g : TGD) (tb : TSD) : TSD := fun E σ M => wi σ M fun ds G M1 => loopD g tb E G ds σ M1
theorem ds_for {vs : List Nat} {tg iter : Expr} {body : List Stmt} {wi : TID} {g : TGD} {tb : TSD} {pos : Pos} (hp : PassesOwn (model X.prog X.w) X.A X.env X.xe) (hc : X.calm = true) (hi : DI X tg iter wi) (hg : DGv X vs tg g) (hb : DSs X body tb)
    (hs : ∀ x, foldedSetIterable iter X.env x = pure x := by intro _; rfl) : DS X (.For tg iter body [] pos) (dFor wi g tb) :=
  (ps_for hp hc hi hg hb hs).imp fun D' σ H ⟨σd, M, E, hs, hm, h, hE⟩ => ⟨σd, M, _, hs, hm, h, fun J H1 ⟨ds, G, M1, k1, rm1, W, q⟩ => by
    refine ⟨fun i m σ' H' => m = ds.length - i ∧ i ≤ ds.length ∧ ∃ σd' M', Keep H1 H' ∧ RS X.K H' σ' σd' ∧ RM X.K M' H' ∧ loopD g tb E G (ds.drop i) σd' M', ⟨ds.length, by simp, Nat.zero_le _, σd, M1, .refl, RSmono k1 hs, rm1, by rw [List.drop_zero]; exact q⟩, ?_⟩
    rintro i m σ' H' ⟨rfl, hi, σd', M', k, hs', rm', q'⟩
    by_cases hlt : i < ds.length
    · have ed : ds.drop i = ds[i] :: ds.drop (i + 1) := List.drop_eq_getElem_cons hlt
      rw [ed] at q'
      obtain ⟨hG, q'⟩ := q'
      refine .inr ⟨W.goes i H' M' hlt k rm' hG, fun σ2 H2 => ∃ σd2 M2, Keep H1 H2 ∧ RS X.K H2 σ2 σd2 ∧ RM X.K M2 H2 ∧ loopD g tb E G (ds.drop (i + 1)) σd2 M2, fun σ2 H2 w => ⟨ds.length - (i + 1), by omega, rfl, hlt, w⟩, fun x H2 y => ?_⟩
      obtain ⟨d, e, k2, rm2, rl⟩ := W.yields i H' M' x H2 hlt k rm' hG y
      rw [List.getElem?_eq_getElem hlt] at e
      cases e
      refine ⟨_, σd', M', _, rl, RSmono k2 hs', rm2, q', fun σ3 H3 _ ⟨σd3, M3, k3, hs3, rm3, q3⟩ => ⟨σd3, M3, _, hs3, rm3, q3, ?_⟩⟩
      have kk : Keep H1 H3 := (k.trans k2).trans k3
      exact ⟨fun σ4 H4 ⟨σd4, M4, k4, hs4, rm4, q4⟩ => ⟨σd4, M4, kk.trans k4, hs4, rm4, q4⟩, fun v H4 w => hE.rt _ _ (w.from (k1.trans kk)), fun σ4 H4 w => hE.nx _ _ (w.from (k1.trans kk)), fun σ4 H4 ⟨σd4, M4, k4, hs4, rm4, q4⟩ => ⟨σd4, M4, kk.trans k4, hs4, rm4, q4⟩⟩
    · have e : i = ds.length := by omega
      subst e
      rw [List.drop_length] at q'
      exact .inl ⟨W.stops H' M' k rm' q'.1, hE.nx _ _ ⟨σd', M', k1.trans k, hs', rm', q'.2⟩⟩⟩
/-- by an invariant over the turns -/
theorem loop_inv {g : TGD} {tb : TSD} {E : EndsD} {G : Mh → Prop} {ds : List D} (P : Nat → Sd → Mh → Prop) (hG : ∀ i σ M, i ≤ ds.length → P i σ M → G M)
    (hs : ∀ i d σ M, ds[i]? = some d → P i σ M → g d σ M fun σ2 M2 => ∀ nx : Sd → Mh → Prop, (∀ σ3 M3, P (i + 1) σ3 M3 → nx σ3 M3) → tb ⟨nx, E.rt, E.nx, nx⟩ σ2 M2) (hd : ∀ σ M, P ds.length σ M → E.nx σ M)
    (gm : ∀ d σ M Q Q', (∀ σ' M', Q σ' M' → Q' σ' M') → g d σ M Q → g d σ M Q') {σ : Sd} {M : Mh} (h0 : P 0 σ M) : loopD g tb E G ds σ M := by
  have go : ∀ (n i : Nat) (σ : Sd) (M : Mh), n + i = ds.length → P i σ M → loopD g tb E G (ds.drop i) σ M := by
    intro n
    induction n with
    | zero =>
      intro i σ M hi p
      have e : i = ds.length := by omega
      subst e
      rw [List.drop_length]
      exact ⟨hG _ _ _ (Nat.le_refl _) p, hd _ _ p⟩
    | succ n ih =>
      intro i σ M hi p
      have hlt : i < ds.length := by omega
      rw [List.drop_eq_getElem_cons hlt]
      refine ⟨hG _ _ _ (by omega) p, gm _ _ _ _ _ (fun σ' M' w => w _ fun σ3 M3 p3 => ih (i + 1) σ3 M3 (by omega) p3) (hs i _ σ M (List.getElem?_eq_getElem hlt) p)⟩
  have := go ds.length 0 σ M (by omega) h0
  rwa [List.drop_zero] at this
/-! ### while -/
def dWhile (c : TTD) (tb : TSD) : TSD := fun E σ M => ∃ W : Nat → Sd → Mh → Prop, (∃ m, W m σ M) ∧ ∀ m σ M, W m σ M →
  c σ M fun b M1 => if b = true then tb ⟨fun σ' M' => ∃ m', m' < m ∧ W m' σ' M', E.rt, E.nx, fun σ' M' => ∃ m', m' < m ∧ W m' σ' M'⟩ σ M1 else E.nx σ M1
theorem ds_while {c : Expr} {body : List Stmt} {tc : TTD} {tb : TSD} {pos : Pos} (hp : PassesOwn (model X.prog X.w) X.A X.env X.xe) (hc : DT X c tc) (hb : DSs X body tb) : DS X (.While c body [] pos) (dWhile tc tb) :=
  (ps_while hp hc hb).imp fun D' σ H ⟨σd, M, E, hs, hm, ⟨W, ⟨m0, w0⟩, turn⟩, hE⟩ => by
    refine ⟨fun m σ' H' => ∃ σd' M', Keep H H' ∧ RS X.K H' σ' σd' ∧ RM X.K M' H' ∧ W m σd' M', ⟨m0, σd, M, .refl, hs, hm, w0⟩, ?_⟩
    rintro m σ1 H1 ⟨σd1, M1, k1, hs1, rm1, w1⟩
    refine ⟨σd1, M1, _, hs1, rm1, turn m σd1 M1 w1, fun b H2 M2 k2 rm2 q => ?_⟩
    cases b with
    | true =>
      refine ⟨fun σ' H' => ∃ m', m' < m ∧ ∃ σd' M', Keep H H' ∧ RS X.K H' σ' σd' ∧ RM X.K M' H' ∧ W m' σd' M', fun σ' H' w => w, σd1, M2, _, RSmono k2 hs1, rm2, q, ?_⟩
      have kk := k1.trans k2
      exact ⟨fun σ' H' ⟨σd', M', k, h1, h2, m', hm', w⟩ => ⟨m', hm', σd', M', kk.trans k, h1, h2, w⟩, fun v H' w => hE.rt _ _ (w.from kk), fun σ' H' w => hE.nx _ _ (w.from kk), fun σ' H' ⟨σd', M', k, h1, h2, m', hm', w⟩ => ⟨m', hm', σd', M', kk.trans k, h1, h2, w⟩⟩
    | false => exact hE.nx _ _ ⟨σd1, M2, k1.trans k2, RSmono k2 hs1, rm2, q⟩
end
end Dl
namespace Dl
open PySem L2 PySem.Spec PyProof.Rows
section
variable {X : Cx}
/-! ### enumerate, zip over data -/
def pairD (x y : D) : D := .tup [x, y]
def enumD (i : Nat) : List D → List D
  | [] => []
  | d :: ds => .tup [.int (i : Nat), d] :: enumD (i + 1) ds
theorem enumD_len : ∀ (ds : List D) (i : Nat), (enumD i ds).length = ds.length
  | [], _ => rfl
  | _ :: ds, i => congrArg Nat.succ (enumD_len ds (i + 1))
theorem enumD_at : ∀ {ds : List D} {i k : Nat} {d : D}, ds[k]? = some d → (enumD i ds)[k]? = some (.tup [.int ((i + k : Nat) : Int), d])
  | [], _, _, _, h => by simp at h
  | _ :: ds, i, 0, d, h => by simp at h; subst h; simp [enumD]
  | _ :: ds, i, k + 1, d, h => by
    have := enumD_at (ds := ds) (i := i + 1) (k := k) (d := d) (by simpa using h)
    simp only [enumD, List.getElem?_cons_succ, this]
    have e : i + 1 + k = i + (k + 1) := by omega
    rw [e]
def dIE (t : TAD) : TID := fun σ M R => t σ M fun ds M1 => match ds with
  | [x] => (match x with
    | .lst es => R (enumD 0 es) (fun _ => True) M1
    | _ => False)
  | _ => False
theorem di_enum {e : Expr} {ta : TAD} {p pos tpos : Pos} {elts : List Expr} {kk : Nat} (hg : Gl X "enumerate") (hm : X.mg "enumerate" = none) (ha : DA X [e] ta) (hs : starEach [e] X.env = [(false, eval e X.env)] := by rfl) :
    DI X (.Tuple elts kk tpos) (.Call (.Name "enumerate" p) [e] [] pos) (dIE ta) :=
  (pi_enum hg hm ha hs).imp fun σ H R ⟨σd, M, Rd, hs, hm, h, hR⟩ => ⟨σd, M, _, hs, hm, h, fun us H' ds M' k rl rm q => by
    match ds, rl, q with
    | [x], rl, q =>
      obtain ⟨v, rfl, rx⟩ := rl.one
      cases rx with
      | @lst a o xs es e rs =>
        have sq : ∀ {H2}, Keep H' H2 → SqL X.K H2 a xs := fun k => .inl (.inr ⟨o, k.frz _ _ _ e⟩)
        refine ⟨a, xs, rfl, sq .refl, hR _ _ ⟨_, _, M', k, rm, ⟨fun i H2 M2 hi k2 _ _ => ?_, fun H2 M2 k2 _ _ => ?_, fun i H1 M2 x H2 hi k2 rm2 _ y => ?_⟩, q⟩⟩
        · rw [enumD_len] at hi
          exact ⟨xs, xs[i]'(by rw [rs.length]; exact hi), sq k2, by simp⟩
        · exact ⟨xs, sq k2, by rw [enumD_len, rs.length]; exact Nat.le_refl _⟩
        · obtain ⟨T, v, e1, e2, e3, e4⟩ := y
          obtain ⟨d, h1, h2⟩ := rs.get' (e4 xs (sq k2))
          subst e1 e3
          have kn : Keep H1 (upd H1 T (.tup [.int (i : Nat), v])) := .new e2
          refine ⟨_, enumD_at h1, kn, rm2.new e2, .tup (.of upd_same) (.cons ?_ (.cons (h2.mono (k2.trans kn)) .nil))⟩
          rw [Nat.zero_add]
          exact .int _
      | _ => exact q.elim
    | [], _, q => exact q.elim
    | _ :: _ :: _, _, q => exact q.elim⟩
def dIZ (t : TAD) : TID := fun σ M R => t σ M fun ds M1 => match ds with
  | [x, y] => (match x with
    | .lst es => (match y with
      | .lst fs => R (List.zipWith pairD es fs) (fun _ => True) M1
      | _ => False)
    | _ => False)
  | _ => False
theorem di_zip {e e2 : Expr} {ta : TAD} {p pos tpos : Pos} {elts : List Expr} {kk : Nat} (hg : Gl X "zip") (hm : X.mg "zip" = none) (ha : DA X [e, e2] ta)
    (h1 : starEach [e, e2] X.env = (false, eval e X.env) :: starEach [e2] X.env := by rfl) (h2 : (backTo pos (starEach [e2] X.env)).any (·.1) = false := by rfl) :
    DI X (.Tuple elts kk tpos) (.Call (.Name "zip" p) [e, e2] [] pos) (dIZ ta) :=
  (pi_zip hg hm ha h1 h2).imp fun σ H R ⟨σd, M, Rd, hs, hm, h, hR⟩ => ⟨σd, M, _, hs, hm, h, fun us H' ds M' k rl rm q => by
    match ds, rl, q with
    | [x, y], rl, q =>
      obtain ⟨v, w, rfl, rx, ry⟩ := rl.two
      cases rx with
      | @lst a o xs es e rs =>
        cases ry with
        | @lst b o2 ys fs e2 rs2 =>
          have sq : ∀ {H2}, Keep H' H2 → SqL X.K H2 a xs := fun k => .inl (.inr ⟨o, k.frz _ _ _ e⟩)
          have sq2 : ∀ {H2}, Keep H' H2 → SqL X.K H2 b ys := fun k => .inl (.inr ⟨o2, k.frz _ _ _ e2⟩)
          have l1 := rs.length
          have l2 := rs2.length
          refine ⟨a, b, xs, ys, rfl, sq .refl, sq2 .refl, hR _ _ ⟨_, _, M', k, rm, ⟨fun i H2 M2 hi k2 _ _ => ?_, fun H2 M2 k2 _ _ => ?_, fun i H1 M2 x H2 hi k2 rm2 _ y => ?_⟩, q⟩⟩
          · rw [List.length_zipWith] at hi
            exact ⟨xs, ys, xs[i]'(by omega), ys[i]'(by omega), sq k2, sq2 k2, by simp, by simp⟩
          · exact ⟨xs, ys, sq k2, sq2 k2, by rw [List.length_zipWith]; omega⟩
          · obtain ⟨T, v, w, e1, e2, e3, e4, e5⟩ := y
            obtain ⟨d, h1, h2⟩ := rs.get' (e4 xs (sq k2))
            obtain ⟨f, h3, h4⟩ := rs2.get' (e5 ys (sq2 k2))
            subst e1 e3
            have kn : Keep H1 (upd H1 T (.tup [v, w])) := .new e2
            exact ⟨pairD d f, by rw [List.getElem?_zipWith, h1, h3], kn, rm2.new e2, .tup (.of upd_same) (.cons (h2.mono (k2.trans kn)) (.cons (h4.mono (k2.trans kn)) .nil))⟩
        | _ => exact q.elim
      | _ => exact q.elim
    | [], _, q => exact q.elim
    | [_], _, q => exact q.elim
    | _ :: _ :: _ :: _, _, q => exact q.elim⟩

/-! ### list comprehensions -/
abbrev DTs (X : Cx) (ifs : List Expr) (t : TTD) : Prop := PTs X ifs (lftT X.K t)
def dYes : TTD := fun _ M Q => Q true M
theorem dts_nil : DTs X [] dYes := ⟨fun pins s σ H Q I ⟨σd, M, Qd, hs, hm, h, hq⟩ => pts_nil.run pins s σ H Q I (hq _ _ _ .refl hm h)⟩
theorem dts_one {c : Expr} {t : TTD} (h : DT X c t) : DTs X [c] t := pts_one h
def wipeD (σ : Sd) : List Nat → Sd
  | [] => σ
  | v :: vs => (wipeD σ vs).set v none
theorem RSwipe {K : PySem.W.Frag} {H : Hp} : ∀ {σ : St} {σd : Sd} (vs : List Nat), RS K H σ σd → RS K H (wipe σ vs) (wipeD σd vs)
  | _, _, [], h => h
  | σ, σd, v :: vs, h => by
    have set0 : ∀ {τ : St} {τd : Sd} (i : Nat), RS K H τ τd → RS K H (τ.set i none) (τd.set i none) := by
      intro τ τd i h
      induction h generalizing i with
      | nil => exact .nil
      | cons r t ih =>
        cases i with
        | zero => exact .cons trivial t
        | succ i => exact .cons r (ih i)
    exact set0 v (RSwipe vs h)
theorem wipe_idem (σ : St) (vs : List Nat) : wipe (wipe σ vs) vs = wipe σ vs := wipe_ext (wipe_length σ vs) fun i hi => wipe_out hi
def lcD (g : TGD) (tt : TTD) (te : TED) (G : Mh → Prop) (p : Addr) (σ : Sd) (F : List D → Mh → Prop) : List D → Mh → Prop
  | [], M => G M ∧ ∃ acc, M p = some (.lst acc) ∧ F acc M
  | d :: ds, M => G M ∧ g d σ M fun σ2 M2 => tt σ2 M2 fun b M3 => if b = true then te σ2 M3 fun y M4 => ∃ acc, M4 p = some (.lst acc) ∧ acc.length < sizeLine ∧ lcD g tt te G p σ F ds (mupd M4 p (.lst (acc ++ [y]))) else lcD g tt te G p σ F ds M3
def dLcF (wi : TID) (g : TGD) (tt : TTD) (te : TED) (vs : List Nat) (F : Addr → List D → Mh → Prop) : Sd → Mh → Prop := fun σ M => wi σ M fun ds G M1 => ∀ p, M1 p = none → lcD g tt te G p (wipeD σ vs) (F p) ds (mupd M1 p (.lst []))
/-- [..] as data; as a list that will be changed -/
def dLc (wi : TID) (g : TGD) (tt : TTD) (te : TED) (vs : List Nat) : TED := fun σ M Q => dLcF wi g tt te vs (fun p acc M' => Q (.lst acc) (mdel M' p)) σ M
def dLcM (wi : TID) (g : TGD) (tt : TTD) (te : TED) (vs : List Nat) : TED := fun σ M Q => dLcF wi g tt te vs (fun p acc M' => Q (.ref p) M') σ M
theorem lc_lft {wi : TID} {g : TGD} {tt : TTD} {te : TED} {vs : List Nat} {F : Addr → List D → Mh → Prop} {σ : St} {H : Hp} {σd : Sd} {M : Mh} {Q : VK} (hs : RS X.K H σ σd) (hm : RM X.K M H) (h : dLcF wi g tt te vs F σd M)
    (hq : ∀ p H' M' acc, Keep H H' → RM X.K M' H' → M' p = some (.lst acc) → F p acc M' → Q (.ref p) H') : tLc (lftI X.K wi) (lftGv X.K vs g) (lftT X.K tt) (lft X.K te) vs σ H Q := by
  refine ⟨σd, M, _, hs, hm, h, fun J H1 ⟨ds, G, M1, k1, rm1, W, q⟩ => fun p hp => ?_⟩
  have kp : Keep H1 (upd H1 p (.lst [])) := .new hp
  have q0 := q p (rm1.free hp)
  refine ⟨fun i m H' => m = ds.length - i ∧ i ≤ ds.length ∧ ∃ M', Keep H1 H' ∧ RM X.K M' H' ∧ lcD g tt te G p (wipeD σd vs) (F p) (ds.drop i) M', ⟨ds.length, by simp, Nat.zero_le _, _, kp, rm1.add hp (.lst .nil), by rw [List.drop_zero]; exact q0⟩, ?_⟩
  rintro i m H' ⟨rfl, hi, M', k, rm', q'⟩
  by_cases hlt : i < ds.length
  · rw [List.drop_eq_getElem_cons hlt] at q'
    obtain ⟨hG, q'⟩ := q'
    refine .inr ⟨W.goes i H' M' hlt k rm' hG, fun H2 => ∃ M2, Keep H1 H2 ∧ RM X.K M2 H2 ∧ lcD g tt te G p (wipeD σd vs) (F p) (ds.drop (i + 1)) M2, fun H2 w => ⟨ds.length - (i + 1), by omega, rfl, hlt, w⟩, fun x H2 y => ?_⟩
    obtain ⟨d, e, k2, rm2, rl⟩ := W.yields i H' M' x H2 hlt k rm' hG y
    rw [List.getElem?_eq_getElem hlt] at e
    cases e
    have kk := (k1.trans k).trans k2
    refine ⟨_, wipeD σd vs, M', _, rl, RSwipe vs (RSmono kk hs), rm2, q', fun σ3 H3 hw ⟨σd3, M3, k3, hs3, rm3, q3⟩ => ⟨hw.trans (wipe_idem σ vs), σd3, M3, _, hs3, rm3, q3, fun b H4 M4 k4 rm4 q4 => ?_⟩⟩
    have kk4 : Keep H1 H4 := ((k.trans k2).trans k3).trans k4
    cases b with
    | false => exact ⟨M4, kk4, rm4, q4⟩
    | true =>
      refine ⟨σd3, M4, _, RSmono k4 hs3, rm4, q4, fun y H5 ⟨d5, M5, k5, rl5, rm5, acc, e5, hz, q5⟩ => ?_⟩
      obtain ⟨xs, e6, r6⟩ := rm5.lst e5
      have k6 : Keep H5 (upd H5 p (.lst (xs ++ [y]))) := rm5.keepMut e5
      exact ⟨xs, e6, by rw [r6.length]; exact hz, _, (kk4.trans k5).trans k6, rm5.put e5 (.lst ((r6.append (.cons rl5 .nil)).mono k6)), q5⟩
  · have e : i = ds.length := by omega
    subst e
    rw [List.drop_length] at q'
    obtain ⟨hG, acc, e, q'⟩ := q'
    exact .inl ⟨W.stops H' M' k rm' hG, hq p H' M' acc (k1.trans k) rm' e q'⟩
/-- a list at its end, to be locked -/
def NL2 (K : PySem.W.Frag) (H : Hp) (Qd : KD) : VK := fun v H1 => ∃ p xs ds M1, v = .ref p ∧ H1 p = some (.lst xs) ∧ Keep H H1 ∧ Rls K H1 xs ds ∧ RM K M1 H1 ∧ Qd (.lst ds) (mdel M1 p)
theorem nl2_end {pins : List (Addr × Obj)} {σ : St} {u : Value} {s : Shared} {H : Hp} {Qd : KD} {Q : VK} (h : EP X pins σ (NL2 X.K H Qd) u s) (hq : ∀ u H', Up X.K H Qd u H' → Q u H') : EP X pins σ Q u s := by
  refine frz_end h ?_
  rintro v H1 ⟨p, xs, ds, M1, rfl, hp, k, rl, rm, q⟩
  exact ⟨p, xs, rfl, hp, fun o => hq _ _ ⟨.lst ds, _, k.trans (.lock hp), .lst upd_same (rl.mono (.lock hp)), rm.lock hp, q⟩⟩
section
variable {elt tg iter : Expr} {ifs : List Expr} {scope : Scope} {own : List (Str × Nat)} {pos : Pos} {wi : TID} {g : TGD} {tt : TTD} {te : TED}
theorem de_lcM (hc : X.calm = true) (hN : X.N.Nodup) (hi : DI X tg iter wi) (ok : BlkOk X.N X.env.scope scope own)
    (hg : ∀ (s : Shared) (H : Hp) (C : Addr) (cl : List (Str × Addr)) (fp : List Addr), DGv (X.blk s H scope (compEnvC scope cl C X.env) fp) (own.map (·.2)) tg g) (ht : ∀ (s : Shared) (H : Hp) (C : Addr) (cl : List (Str × Addr)) (fp : List Addr), DTs (X.blk s H scope (compEnvC scope cl C X.env) fp) ifs tt)
    (he : ∀ (s : Shared) (H : Hp) (C : Addr) (cl : List (Str × Addr)) (fp : List Addr), DE (X.blk s H scope (compEnvC scope cl C X.env) fp) elt te) (hs : ∀ x, foldedSetIterable iter X.env x = pure x := by intro _; rfl) :
    DE X (.ListComp elt [⟨tg, iter, ifs, 0⟩] scope pos) (dLcM wi g tt te (own.map (·.2))) :=
  (pe_lc hc hN hi ok hg ht he hs).imp fun σ H Q ⟨σd, M, Qd, hs, hm, h, hq⟩ => lc_lft hs hm h fun p H' M' acc k rm e q => hq _ _ ⟨.ref p, M', k, .ref p, rm, q⟩
theorem de_lc (hc : X.calm = true) (hN : X.N.Nodup) (hi : DI X tg iter wi) (ok : BlkOk X.N X.env.scope scope own)
    (hg : ∀ (s : Shared) (H : Hp) (C : Addr) (cl : List (Str × Addr)) (fp : List Addr), DGv (X.blk s H scope (compEnvC scope cl C X.env) fp) (own.map (·.2)) tg g) (ht : ∀ (s : Shared) (H : Hp) (C : Addr) (cl : List (Str × Addr)) (fp : List Addr), DTs (X.blk s H scope (compEnvC scope cl C X.env) fp) ifs tt)
    (he : ∀ (s : Shared) (H : Hp) (C : Addr) (cl : List (Str × Addr)) (fp : List Addr), DE (X.blk s H scope (compEnvC scope cl C X.env) fp) elt te) (hs : ∀ x, foldedSetIterable iter X.env x = pure x := by intro _; rfl) :
    DE X (.ListComp elt [⟨tg, iter, ifs, 0⟩] scope pos) (dLc wi g tt te (own.map (·.2))) := by
  refine ⟨fun pins s σ H Q I ⟨σd, M, Qd, hs', hm, h, hq⟩ => ?_⟩
  refine thn ((pe_lc hc hN hi ok hg ht he hs).run pins s σ H (NL2 X.K H Qd) I (lc_lft hs' hm h fun p H' M' acc k rm e q => ?_)) fun _ _ w => nl2_end w hq
  obtain ⟨xs, e2, rs⟩ := rm.lst e
  exact ⟨p, xs, acc, M', rfl, e2, k, rs, rm, q⟩
theorem ds_setLcM {i : Nat} {y : Str} {py spos : Pos} (hc : X.calm = true) (hN : X.N.Nodup) (hy : X.N[i]? = some y) (hyl : X.env.scope.names.lookup y = some .local)
    (hsw : swapsWith (.ListComp elt [⟨tg, iter, ifs, 0⟩] scope pos) (some (.Name y py)) spos.line X.env = pure true) (hi : DI X tg iter wi) (ok : BlkOk X.N X.env.scope scope own)
    (hg : ∀ (s : Shared) (H : Hp) (C : Addr) (cl : List (Str × Addr)) (fp : List Addr), DGv (X.blk s H scope (compEnvC scope cl C X.env) fp) (own.map (·.2)) tg g) (ht : ∀ (s : Shared) (H : Hp) (C : Addr) (cl : List (Str × Addr)) (fp : List Addr), DTs (X.blk s H scope (compEnvC scope cl C X.env) fp) ifs tt)
    (he : ∀ (s : Shared) (H : Hp) (C : Addr) (cl : List (Str × Addr)) (fp : List Addr), DE (X.blk s H scope (compEnvC scope cl C X.env) fp) elt te) (hs : ∀ x, foldedSetIterable iter X.env x = pure x := by intro _; rfl) :
    DS X (.Assign [.Name y py] (.ListComp elt [⟨tg, iter, ifs, 0⟩] scope pos) spos) (dAsg (dLcM wi g tt te (own.map (·.2))) (dName i)) :=
  (ps_setLc hc hN hy hyl hsw hi ok hg ht he hs).imp fun D' σ H ⟨σd, M, E, hs, hm, h, hE⟩ => lc_lft hs hm h fun p H' M' acc k rm e q => hE.nx _ _ ⟨_, M', k, RSset (.ref p) i (RSmono k hs), rm, q⟩
theorem ds_setLc {i : Nat} {y : Str} {py spos : Pos} (hc : X.calm = true) (hN : X.N.Nodup) (hy : X.N[i]? = some y) (hyl : X.env.scope.names.lookup y = some .local)
    (hsw : swapsWith (.ListComp elt [⟨tg, iter, ifs, 0⟩] scope pos) (some (.Name y py)) spos.line X.env = pure true) (hi : DI X tg iter wi) (ok : BlkOk X.N X.env.scope scope own)
    (hg : ∀ (s : Shared) (H : Hp) (C : Addr) (cl : List (Str × Addr)) (fp : List Addr), DGv (X.blk s H scope (compEnvC scope cl C X.env) fp) (own.map (·.2)) tg g) (ht : ∀ (s : Shared) (H : Hp) (C : Addr) (cl : List (Str × Addr)) (fp : List Addr), DTs (X.blk s H scope (compEnvC scope cl C X.env) fp) ifs tt)
    (he : ∀ (s : Shared) (H : Hp) (C : Addr) (cl : List (Str × Addr)) (fp : List Addr), DE (X.blk s H scope (compEnvC scope cl C X.env) fp) elt te) (hs : ∀ x, foldedSetIterable iter X.env x = pure x := by intro _; rfl) :
    DS X (.Assign [.Name y py] (.ListComp elt [⟨tg, iter, ifs, 0⟩] scope pos) spos) (dAsg (dLc wi g tt te (own.map (·.2))) (dName i)) := by
  refine ⟨fun pins s σ H D' I ⟨σd, M, E, hs', hm, h, hE⟩ => ?_⟩
  refine thn ((ps_setLc hc hN hy hyl hsw hi ok hg ht he hs).run pins s σ H { nx := fun σ' H' => ∃ p xs acc M', σ' = σ.set i (some (.ref p)) ∧ H' p = some (.lst xs) ∧ Keep H H' ∧ Rls X.K H' xs acc ∧ RM X.K M' H' ∧ E.nx (σd.set i (some (.lst acc))) (mdel M' p), rt := fun _ _ => False } I
    (lc_lft hs' hm h fun p H' M' acc k rm e q => ?_)) fun f s1 q => ?_
  · obtain ⟨xs, e2, rs⟩ := rm.lst e
    exact ⟨p, xs, acc, M', rfl, e2, k, rs, rm, q⟩
  · cases f with
    | next =>
      obtain ⟨σ', H', I', p, xs, acc, M', rfl, e, k, rs, rm, q⟩ := q
      obtain ⟨o, I2⟩ := I'.lock e trivial
      refine ⟨_, _, I2, hE.nx _ _ ⟨_, _, k.trans (.lock e), RSset (.lst upd_same (rs.mono (.lock e))) i (RSmono (k.trans (.lock e)) hs'), rm.lock e, q⟩⟩
    | brk => obtain ⟨_, _, _, q⟩ := q; exact q.elim
    | cont => obtain ⟨_, _, _, q⟩ := q; exact q.elim
    | ret v => obtain ⟨_, _, _, _, _, q⟩ := q; exact q.elim
end

/-! ### defs -/
abbrev SpD := List D → Mh → KD → Prop
def lftSp (K : PySem.W.Frag) (sp : SpD) : Sp := fun vs H Q _ => ∃ ds M Qd, Rls K H vs ds ∧ RM K M H ∧ sp ds M Qd ∧ ∀ u H', Up K H Qd u H' → Q u H'
def dCall (sp : SpD) (t : TAD) : TED := fun σ M Q => t σ M fun ds M1 => sp ds M1 Q
theorem de_call {k : Nat} {f : Addr} {fd : FuncData} {ps : List Str} {sp : SpD} {x : Str} {p pos : Pos} {e : Expr} {es : List Expr} {t : TAD} (F : FnOk X.prog X.w X.K X.mg X.base CX0 k f fd ps (lftSp X.K sp)) (hr : Room k X.A) (hg : Gl X x) (hm : X.mg x = some (.ref f)) (hk : PySem.W.keepIn X.K (.ref f) = true) (hb : Binds X.K fd ps [])
    (ha : DA X (e :: es) t) (hdb : (x == ("__debug__" : Str)) = false := by decide) (he : starEach (e :: es) X.env = (false, eval e X.env) :: starEach es X.env := by rfl) (hpl : (backTo pos (starEach es X.env)).any (·.1) = false := by rfl) :
    DE X (.Call (.Name x p) (e :: es) [] pos) (dCall sp t) :=
  (pe_call F hr hg hm hk hb .nil pass0 ha hdb he hpl).imp fun σ H Q ⟨σd, M, Qd, hs, hm, h, hq⟩ => ⟨σd, M, _, hs, hm, h, fun us H' ds M' k rl rm q => ⟨ds, M', Qd, by rw [List.append_nil]; exact rl, rm, q, fun u H2 w => hq _ _ (w.from k)⟩⟩
/-- the slots at a def's start -/
def startD (n : Nat) (ds : List D) : Sd := ds.map some ++ List.replicate (n - ds.length) none
theorem RSstart {K : PySem.W.Frag} {H : Hp} {N : List Str} : ∀ {vs : List V} {ds : List D}, Rls K H vs ds → RS K H (L2.start N vs) (startD N.length ds) := by
  intro vs ds r
  unfold L2.start startD
  rw [r.length]
  have app : ∀ {a b : St} {c d : Sd}, RS K H a c → RS K H b d → RS K H (a ++ b) (c ++ d) := by
    intro a b c d h g
    induction h with
    | nil => exact g
    | cons r _ ih => exact .cons r ih
  refine app ?_ ?_
  · have go : ∀ {vs : List V} {ds : List D}, Rls K H vs ds → RS K H (vs.map some) (ds.map some) := by
      intro vs
      induction vs with
      | nil => intro ds r; cases r; exact .nil
      | cons v vs ih =>
        intro ds r
        cases r with
        | cons r t => exact .cons ⟨v, rfl, r⟩ (ih t)
    exact go r
  · have rep : ∀ n, RS K H (List.replicate n none) (List.replicate n none) := by
      intro n
      induction n with
      | zero => exact .nil
      | succ n ih => exact .cons trivial ih
    exact rep _
section
variable {P : Program} {K : PySem.W.Frag} {mg : Str → Option Value} {w : World} {base : Heap} {f : Addr} {fd : FuncData}
/-- THE RULE for a def -/
theorem okD {x qual : Str} {params : Arguments} {body : List Stmt} {scope : Scope} {N ps : List Str} {k : Nat} {sp : SpD} (F : FunD K x qual params body scope [] [] f fd) (S : FnScope N ps scope) (len : ∀ ds M Q, sp ds M Q → ds.length = ps.length)
    (hbody : ∀ (cdv : Value) (A : Around) (outer : List Env) (s : Shared) (H : Hp) (E : XK), Room k (A.deeper (envOfC qual scope s.heap.objs.size f cdv)) →
      ∃ t, DSs (cxOf CX0 P w K mg base N qual scope f cdv A outer s H E).nox body t ∧ ∀ ds M Q, sp ds M Q → t ⟨fun _ M' => Q .non M', fun d M' => ∃ M2, (∀ a mo, M2 a = some mo → M' a = some mo) ∧ Q d M2, fun _ _ => False, fun _ _ => False⟩ (startD N.length ds) M) : FnOk P w K mg base CX0 (k + 1) f fd ps (lftSp K sp) := by
  refine F.ok S (fun vs H Q E h => ?_) (fun cdv A outer s H vs Q E hr h => ?_)
  · obtain ⟨ds, M, Qd, rl, _, h, _⟩ := h
    rw [rl.length]; exact len _ _ _ h
  · obtain ⟨ds, M, Qd, rl, rm, h, hq⟩ := h
    obtain ⟨t, ht, hw⟩ := hbody cdv A outer s H E hr
    refine ⟨_, ht.nox, startD N.length ds, M, _, RSstart rl, rm, hw ds M Qd h, ?_⟩
    refine ⟨fun σ' H' ⟨σd, M', k, _, rm', q⟩ => hq _ _ ⟨.non, M', k, .non, rm', q⟩, fun v H' ⟨d, M', k, rl', rm', M2, hsub, q⟩ => hq _ _ ⟨d, M2, k, rl', rm'.sub hsub, q⟩, fun σ' H' ⟨_, _, _, _, _, q⟩ => q.elim, fun σ' H' ⟨_, _, _, _, _, q⟩ => q.elim⟩
end
end
end Dl
namespace Dl
open PySem L2 PySem.Spec PyProof.Rows
/-! ### the text's defs, by their names -/
structure Txt (K : PySem.W.Frag) (mg : Str → Option Value) (x : Str) (st : Stmt) : Prop where
  ex : ∃ f fd, mg x = some (.ref f) ∧ FunD K x x (defArgs st) (defBody st) (defScope st) [] [] f fd
/-- what is built in, the module's constants -/
structure Bl (K : PySem.W.Frag) (mg : Str → Option Value) : Prop where
  len : mg "len" = none
  range : mg "range" = none
  int : mg "int" = none
  repr : mg "repr" = none
  isinstance : mg "isinstance" = none
  zip : mg "zip" = none
  enumerate : mg "enumerate" = none
  sorted : mg "sorted" = none
  all : mg "all" = none
  min : mg "min" = none
  abs : mg "abs" = none
  tuple : mg "tuple" = none
  list : mg "list" = none
  words : ∃ t, mg "WORDS" = some (.int 65536 t)
  faulted : ∃ a, mg "FAULTED" = some (.ref a) ∧ ∀ H, SqT K H a [.str "faulted"]
  stopped : ∃ a, mg "STOPPED" = some (.ref a) ∧ ∀ H, SqT K H a [.str "stopped"]
/-- a def at hand: its promise at a level -/
structure Have (P : Program) (w : World) (K : PySem.W.Frag) (mg : Str → Option Value) (base : Heap) (x : Str) (ps : List Str) (k : Nat) (sp : SpD) : Prop where
  ex : ∃ f fd, mg x = some (.ref f) ∧ PySem.W.keepIn K (.ref f) = true ∧ Binds K fd ps [] ∧ FnOk P w K mg base CX0 k f fd ps (lftSp K sp)
section
variable {P : Program} {K : PySem.W.Frag} {mg : Str → Option Value} {w : World} {base : Heap}
theorem Have.mono {x : Str} {ps : List Str} {j k : Nat} {sp : SpD} (h : Have P w K mg base x ps j sp) (hk : j ≤ k) : Have P w K mg base x ps k sp := by
  obtain ⟨f, fd, h1, h2, h3, h4⟩ := h.ex
  exact ⟨f, fd, h1, h2, h3, h4.mono hk⟩
theorem Have.imp {x : Str} {ps : List Str} {k : Nat} {sp sp' : SpD} (h : Have P w K mg base x ps k sp) (i : ∀ ds M Q, sp' ds M Q → sp ds M Q) : Have P w K mg base x ps k sp' := by
  obtain ⟨f, fd, h1, h2, h3, h4⟩ := h.ex
  exact ⟨f, fd, h1, h2, h3, h4.imp fun vs H Q E ⟨ds, M, Qd, rl, rm, q, hq⟩ => ⟨ds, M, Qd, rl, rm, i _ _ _ q, hq⟩⟩
abbrev rtOf (Q : KD) : KD := fun d M' => ∃ M2, (∀ a mo, M2 a = some mo → M' a = some mo) ∧ Q d M2
abbrev endsOf (Q : KD) : EndsD := ⟨fun _ M' => Q .non M', rtOf Q, fun _ _ => False, fun _ _ => False⟩
theorem have_of {x : Str} {st : Stmt} {N ps : List Str} {k : Nat} {sp : SpD} (T : Txt K mg x st) (S : FnScope N ps (defScope st))
    (hb : ∀ (kV doc pm : Value) (an : Option Addr) (cdv ct : Value) (us : List Value), us.length = ps.length → bindArgs (PySem.W.fnOf x x (defArgs st) (defBody st) (defScope st) .none kV doc pm an cdv ct) ⟨us, []⟩ = pure (ps.zip us))
    (len : ∀ ds M Q, sp ds M Q → ds.length = ps.length)
    (hbody : ∀ (cdv : Value) (f : Addr) (A : Around) (outer : List Env) (s : Shared) (H : Hp) (E : XK), Room k (A.deeper (envOfC x (defScope st) s.heap.objs.size f cdv)) →
      ∃ t, DSs (cxOf CX0 P w K mg base N x (defScope st) f cdv A outer s H E).nox (defBody st) t ∧ ∀ ds M Q, sp ds M Q → t (endsOf Q) (startD N.length ds) M) : Have P w K mg base x ps (k + 1) sp := by
  obtain ⟨f, fd, h1, F⟩ := T.ex
  exact ⟨f, fd, h1, F.kp, F.bindsN hb, okD F S len fun cdv A outer s H E hr => hbody cdv f A outer s H E hr⟩
theorem de_callH {X : Cx} {k : Nat} {ps : List Str} {sp : SpD} {x : Str} {p pos : Pos} {e : Expr} {es : List Expr} {t : TAD} (F : Have X.prog X.w X.K X.mg X.base x ps k sp) (hr : Room k X.A) (hg : Gl X x)
    (ha : DA X (e :: es) t) (hdb : (x == ("__debug__" : Str)) = false := by decide) (he : starEach (e :: es) X.env = (false, eval e X.env) :: starEach es X.env := by rfl) (hpl : (backTo pos (starEach es X.env)).any (·.1) = false := by rfl) :
    DE X (.Call (.Name x p) (e :: es) [] pos) (dCall sp t) := by
  obtain ⟨f, fd, h1, h2, h3, h4⟩ := F.ex
  exact de_call h4 hr hg h1 h2 h3 ha hdb he hpl
end
/-- promises by the number of arguments -/
def sp1 (f : D → Mh → KD → Prop) : SpD := fun ds M Q => ∃ a, ds = [a] ∧ f a M Q
def sp2 (f : D → D → Mh → KD → Prop) : SpD := fun ds M Q => ∃ a b, ds = [a, b] ∧ f a b M Q
def sp3 (f : D → D → D → Mh → KD → Prop) : SpD := fun ds M Q => ∃ a b c, ds = [a, b, c] ∧ f a b c M Q
def sp4 (f : D → D → D → D → Mh → KD → Prop) : SpD := fun ds M Q => ∃ a b c d, ds = [a, b, c, d] ∧ f a b c d M Q
def sp5 (f : D → D → D → D → D → Mh → KD → Prop) : SpD := fun ds M Q => ∃ a b c d e, ds = [a, b, c, d, e] ∧ f a b c d e M Q
theorem len1 {f} : ∀ ds M Q, sp1 f ds M Q → ds.length = 1 := fun _ _ _ ⟨_, h, _⟩ => by rw [h]; rfl
theorem len2 {f} : ∀ ds M Q, sp2 f ds M Q → ds.length = 2 := fun _ _ _ ⟨_, _, h, _⟩ => by rw [h]; rfl
theorem len3 {f} : ∀ ds M Q, sp3 f ds M Q → ds.length = 3 := fun _ _ _ ⟨_, _, _, h, _⟩ => by rw [h]; rfl
theorem len4 {f} : ∀ ds M Q, sp4 f ds M Q → ds.length = 4 := fun _ _ _ ⟨_, _, _, _, h, _⟩ => by rw [h]; rfl
theorem len5 {f} : ∀ ds M Q, sp5 f ds M Q → ds.length = 5 := fun _ _ _ ⟨_, _, _, _, _, h, _⟩ => by rw [h]; rfl
/-- the answer goes out, the heap may be forgotten in part -/
theorem rt_same {Q : KD} {d : D} {M : Mh} (h : Q d M) : rtOf Q d M := ⟨M, fun _ _ e => e, h⟩
section
variable {X : Cx}
/-- a returned list, locked for good -/
theorem de_globT {x : Str} {a : Addr} {xs : List V} {ds : List D} {pos : Pos} (hg : Gl X x) (hm : X.mg x = some (.ref a)) (hs : ∀ H, SqT X.K H a xs) (hr : ∀ H, Rls X.K H xs ds) (hd : (x == ("__debug__" : Str)) = false := by decide) : DE X (.Name x pos) (dC (.tup ds)) :=
  de_c (pe_glob hg hm (v := .ref a) rfl hd) fun H => .tup (hs H) (hr H)
theorem de_faulted {pos : Pos} (B : Bl X.K X.mg) (hg : Gl X "FAULTED") : DE X (.Name "FAULTED" pos) (dC (.tup [.str "faulted"])) := by
  obtain ⟨a, h1, h2⟩ := B.faulted
  exact de_globT hg h1 h2 fun H => .cons (.str _) .nil
theorem de_stopped {pos : Pos} (B : Bl X.K X.mg) (hg : Gl X "STOPPED") : DE X (.Name "STOPPED" pos) (dC (.tup [.str "stopped"])) := by
  obtain ⟨a, h1, h2⟩ := B.stopped
  exact de_globT hg h1 h2 fun H => .cons (.str _) .nil
theorem de_words {pos : Pos} (B : Bl X.K X.mg) (hg : Gl X "WORDS") : DE X (.Name "WORDS" pos) (dC (.int 65536)) := by
  obtain ⟨t, h1⟩ := B.words
  exact de_c (pe_glob hg h1 (v := .int 65536) ⟨t, rfl⟩) fun H => .int _
end
theorem isL_lst {M : Mh} {ds es : List D} : IsL M (.lst ds) es ↔ es = ds := ⟨fun h => by cases h; rfl, fun h => h ▸ .lst⟩
theorem isL_ref {M : Mh} {a : Addr} {es : List D} : IsL M (.ref a) es ↔ M a = some (.lst es) := ⟨fun h => by cases h; assumption, fun h => .ref h⟩
theorem seqIn_tup {M : Mh} {ds es : List D} : seqIn M (.tup ds) es ↔ es = ds := by
  constructor
  · intro h
    rcases h with h | h
    · cases h
    · cases h; rfl
  · intro h; exact .inr (by rw [h])
theorem seqIn_lst {M : Mh} {ds es : List D} : seqIn M (.lst ds) es ↔ es = ds := by
  constructor
  · intro h
    rcases h with h | h
    · exact isL_lst.mp h
    · cases h
  · intro h; exact .inl (isL_lst.mpr h)
theorem have_none {P : Program} {w : World} {K : PySem.W.Frag} {mg : Str → Option Value} {base : Heap} {x : Str} {st : Stmt} {ps : List Str} {sp : SpD} (T : Txt K mg x st)
    (hb : ∀ (kV doc pm : Value) (an : Option Addr) (cdv ct : Value) (us : List Value), us.length = ps.length → bindArgs (PySem.W.fnOf x x (defArgs st) (defBody st) (defScope st) .none kV doc pm an cdv ct) ⟨us, []⟩ = pure (ps.zip us))
    (no : ∀ ds M Q, ¬ sp ds M Q) : Have P w K mg base x ps 0 sp := by
  obtain ⟨f, fd, h1, F⟩ := T.ex
  have no2 : ∀ vs H Q E, ¬ lftSp K sp vs H Q E := fun vs H Q E ⟨ds, M, Qd, _, _, h, _⟩ => no _ _ _ h
  exact ⟨f, fd, h1, F.kp, F.bindsN hb, ⟨fun vs H Q E h => absurd h (no2 vs H Q E), fun A outer s H args us vs Q E _ _ _ _ h => absurd h (no2 vs H Q E)⟩⟩
/-! ### tests whose answer is known -/
theorem tT {A B : Prop} {b : Bool} (hb : b = true) (h : A) : if b = true then A else B := by rw [if_pos hb]; exact h
theorem tF {A B : Prop} {b : Bool} (hb : b = false) (h : B) : if b = true then A else B := by rw [hb, if_neg Bool.false_ne_true]; exact h
theorem t2 {A B : Prop} {b : Bool} (h1 : b = true → A) (h2 : b = false → B) : if b = true then A else B := by
  cases b with
  | true => exact h1 rfl
  | false => exact h2 rfl
theorem of_sE {a b : String} : decide (Str.ofString a = Str.ofString b) = decide (a = b) := by
  have inj : ∀ {x y : List Char}, x.map Char.toNat = y.map Char.toNat → x = y := by
    intro x
    induction x with
    | nil => intro y h; cases y with
      | nil => rfl
      | cons _ _ => simp at h
    | cons c t ih => intro y h; cases y with
      | nil => simp at h
      | cons d u =>
        simp only [List.map_cons, List.cons.injEq] at h
        rw [Char.toNat_inj.mp h.1, ih h.2]
  by_cases h : a = b
  · rw [h, decide_eq_true rfl, decide_eq_true rfl]
  · rw [decide_eq_false h, decide_eq_false]
    intro e
    refine h ?_
    unfold Str.ofString at e
    rw [cpsOfBytes_string, cpsOfBytes_string] at e
    exact String.toList_injective (inj (by simpa using e))
end Dl
namespace Mi
open PySem Dl
/-! ### the mirror: expressions, statements, states -/
inductive Bop where
  | add | sub | mul | div | mod | and | or | eq | ne | lt | le
  deriving DecidableEq
def Bop.nm : Bop → String
  | .add => "+" | .sub => "-" | .mul => "*" | .div => "/" | .mod => "mod" | .and => "and" | .or => "or" | .eq => "==" | .ne => "!=" | .lt => "<" | .le => "<="
inductive Exp where
  | num (n : Nat) | cell (k : Nat) | idx (f s : Nat) (e : Exp) | neg (a : Exp) | not (a : Exp) | bin (o : Bop) (a b : Exp)
abbrev S (x : String) : D := .str (Str.ofString x)
abbrev N (n : Nat) : D := .int (n : Nat)
def Exp.d : Exp → D
  | .num n => .tup [S "num", N n]
  | .cell k => .tup [S "cell", N k]
  | .idx f s e => .tup [S "at", N f, N s, e.d]
  | .neg a => .tup [S "neg", a.d]
  | .not a => .tup [S "not", a.d]
  | .bin o a b => .tup [S o.nm, a.d, b.d]
def Exp.dep : Exp → Nat
  | .num _ => 0
  | .cell _ => 0
  | .idx _ _ e => e.dep + 1
  | .neg a => a.dep + 1
  | .not a => a.dep + 1
  | .bin _ a b => max a.dep b.dep + 1
/-- a target -/
def Exp.tgt : Exp → Bool
  | .cell _ => true
  | .idx _ _ _ => true
  | _ => false
inductive Stm where
  | skip | stop
  | set (t e : Exp)
  | give (c : Nat) (e : Exp)
  | take (c : Nat) (t : Exp)
  | seq (l : List Stm)
  | par (l : List (Nat × Stm))
  | alt (l : List (Option Exp × Nat × Exp × Stm))
  | ite (e : Exp) (a b : Stm)
  | rep (e : Exp) (n : Nat) (s : Stm)
def optE : Option Exp → D
  | none => .non
  | some e => e.d
mutual
def Stm.d : Stm → D
  | .skip => .tup [S "skip"]
  | .stop => .tup [S "stop"]
  | .set t e => .tup [S "set", t.d, e.d]
  | .give c e => .tup [S "give", N c, e.d]
  | .take c t => .tup [S "take", N c, t.d]
  | .seq l => .tup [S "seq", .lst (stmsD l)]
  | .par l => .tup [S "par", .lst (brsD l)]
  | .alt l => .tup [S "alt", .lst (rowsD l)]
  | .ite e a b => .tup [S "if", e.d, a.d, b.d]
  | .rep e n s => .tup [S "repeat", e.d, N n, s.d]
def stmsD : List Stm → List D
  | [] => []
  | s :: r => s.d :: stmsD r
def brsD : List (Nat × Stm) → List D
  | [] => []
  | (t, s) :: r => .tup [N t, s.d] :: brsD r
def rowsD : List (Option Exp × Nat × Exp × Stm) → List D
  | [] => []
  | (g, c, t, s) :: r => .tup [optE g, N c, t.d, s.d] :: rowsD r
end
theorem stmsD_eq : ∀ l, stmsD l = l.map Stm.d
  | [] => rfl
  | s :: r => by rw [stmsD, stmsD_eq r]; rfl
theorem brsD_eq : ∀ l, brsD l = l.map fun p => .tup [N p.1, p.2.d]
  | [] => rfl
  | (t, s) :: r => by rw [brsD, brsD_eq r]; rfl
theorem rowsD_eq : ∀ l, rowsD l = l.map fun p => .tup [optE p.1, N p.2.1, p.2.2.1.d, p.2.2.2.d]
  | [] => rfl
  | (g, c, t, s) :: r => by rw [rowsD, rowsD_eq r]; rfl
mutual
def Stm.work : Stm → Nat
  | .skip => 1
  | .stop => 1
  | .set _ _ => 1
  | .give _ _ => 2
  | .take _ _ => 2
  | .seq l => 1 + works l
  | .par l => 2 + bworks l
  | .alt l => 2 + rworks l
  | .ite _ a b => 1 + max a.work b.work
  | .rep _ n s => 1 + n * (1 + s.work)
def works : List Stm → Nat
  | [] => 0
  | s :: r => s.work + works r
def bworks : List (Nat × Stm) → Nat
  | [] => 0
  | (_, s) :: r => s.work + bworks r
def rworks : List (Option Exp × Nat × Exp × Stm) → Nat
  | [] => 0
  | (_, _, _, s) :: r => max s.work (rworks r)
end
end Mi
namespace Mi
open PySem Dl
/-! ### what expressions are worth -/
def clc (o : Bop) (a b : Nat) : Option Nat := match o with
  | .add => some ((a + b) % 65536)
  | .sub => some ((a + 65536 - b) % 65536)
  | .mul => some (a * b % 65536)
  | .div => if b = 0 then none else some (a / b)
  | .mod => if b = 0 then none else some (a % b)
  | .and => some (if a ≠ 0 ∧ b ≠ 0 then 1 else 0)
  | .or => some (if a ≠ 0 ∨ b ≠ 0 then 1 else 0)
  | .eq => some (if a = b then 1 else 0)
  | .ne => some (if a ≠ b then 1 else 0)
  | .lt => some (if a < b then 1 else 0)
  | .le => some (if a ≤ b then 1 else 0)
def val (cs : List Nat) : Exp → Option Nat
  | .num n => some n
  | .cell k => cs[k]?
  | .idx f s e => (match val cs e with
    | none => none
    | some i => if i < s then cs[f + i]? else none)
  | .neg a => (match val cs a with
    | none => none
    | some x => some ((65536 - x) % 65536))
  | .not a => (match val cs a with
    | none => none
    | some x => some (if x = 0 then 1 else 0))
  | .bin o a b => (match val cs a with
    | none => none
    | some x => (match val cs b with
      | none => none
      | some y => clc o x y))
def plc (cs : List Nat) : Exp → Option Nat
  | .cell k => some k
  | .idx f s e => (match val cs e with
    | none => none
    | some i => if i < s then some (f + i) else none)
  | _ => none
def Exp.ok (n : Nat) : Exp → Prop
  | .num m => m < 65536
  | .cell k => k < n
  | .idx f s e => f + s ≤ n ∧ e.ok n
  | .neg a => a.ok n
  | .not a => a.ok n
  | .bin _ a b => a.ok n ∧ b.ok n
structure Cells (n : Nat) (cs : List Nat) : Prop where
  len : cs.length = n
  lt : ∀ (i x : Nat), cs[i]? = some x → x < 65536
theorem clc_lt {o : Bop} {a b v : Nat} (ha : a < 65536) (hb : b < 65536) (h : clc o a b = some v) : v < 65536 := by
  cases o <;> simp only [clc] at h
  case div =>
    split at h
    · cases h
    · cases h
      exact Nat.lt_of_le_of_lt (Nat.div_le_self a b) ha
  case mod =>
    split at h
    · cases h
    · cases h
      exact Nat.lt_of_le_of_lt (Nat.mod_le a b) ha
  all_goals (cases h; first | omega | (split <;> omega))
theorem val_lt {n : Nat} {cs : List Nat} (C : Cells n cs) : ∀ {e : Exp} {v : Nat}, e.ok n → val cs e = some v → v < 65536
  | .num m, v, h, e => by simp only [val, Option.some.injEq] at e; rw [← e]; exact h
  | .cell k, v, h, e => C.lt _ _ e
  | .idx f s e, v, h, e' => by
    simp only [val] at e'
    split at e'
    · cases e'
    · split at e'
      · exact C.lt _ _ e'
      · cases e'
  | .neg a, v, h, e' => by
    simp only [val] at e'
    split at e'
    · cases e'
    · cases e'; omega
  | .not a, v, h, e' => by
    simp only [val] at e'
    split at e'
    · cases e'
    · cases e'; split <;> omega
  | .bin o a b, v, h, e' => by
    simp only [val] at e'
    split at e'
    · cases e'
    · rename_i x hx
      split at e'
      · cases e'
      · rename_i y hy
        exact clc_lt (val_lt C h.1 hx) (val_lt C h.2 hy) e'
theorem plc_lt {n : Nat} {cs : List Nat} : ∀ {e : Exp} {v : Nat}, e.ok n → plc cs e = some v → v < n
  | .cell k, v, h, e => by simp only [plc, Option.some.injEq] at e; rw [← e]; exact h
  | .idx f s e, v, h, e' => by
    simp only [plc] at e'
    split at e'
    · cases e'
    · rename_i i _
      split at e'
      · cases e'
        have := h.1
        omega
      · cases e'
  | .num _, _, _, e => by simp [plc] at e
  | .neg _, _, _, e => by simp [plc] at e
  | .not _, _, _, e => by simp [plc] at e
  | .bin _ _ _, _, _, e => by simp [plc] at e
/-- of a target: its place tells its word -/
theorem val_plc {cs : List Nat} {n : Nat} (hl : cs.length = n) : ∀ {e : Exp}, e.tgt = true → e.ok n → val cs e = (match plc cs e with
    | none => none
    | some k => cs[k]?)
  | .cell k, _, _ => rfl
  | .idx f s e, _, _ => by
    simp only [val, plc]
    cases val cs e with
    | none => rfl
    | some i =>
      by_cases h : i < s
      · simp only [h, if_true]
      · simp only [h, if_false]
  | .num _, h, _ => by simp [Exp.tgt] at h
  | .neg _, h, _ => by simp [Exp.tgt] at h
  | .not _, h, _ => by simp [Exp.tgt] at h
  | .bin _ _ _, h, _ => by simp [Exp.tgt] at h
/-! ### states -/
inductive Cond where
  | idle
  | on (k : List Stm)
  | giving (c w : Nat) (k : List Stm)
  | opn (rows : List (Nat × Nat × List Stm)) (k : List Stm)
  | joining (ts : List Nat) (k : List Stm)
  | done | stopped | faulted
def orowD (r : Nat × Nat × List Stm) : D := .tup [N r.1, N r.2.1, .lst (stmsD r.2.2)]
def Cond.d : Cond → D
  | .idle => .tup [S "idle"]
  | .on k => .tup [S "at", .lst (stmsD k)]
  | .giving c w k => .tup [S "giving", N c, N w, .lst (stmsD k)]
  | .opn rows k => .tup [S "open", .lst (rows.map orowD), .lst (stmsD k)]
  | .joining ts k => .tup [S "joining", .lst (ts.map N), .lst (stmsD k)]
  | .done => .tup [S "done"]
  | .stopped => .tup [S "stopped"]
  | .faulted => .tup [S "faulted"]
structure Sta where
  cells : List Nat
  thr : List Cond
  taken : List Nat
  outs : List (List Nat)
def natsD (l : List Nat) : D := .lst (l.map N)
def Sta.d (s : Sta) : D := .tup [natsD s.cells, .lst (s.thr.map Cond.d), natsD s.taken, .lst (s.outs.map natsD)]
inductive Kind where
  | inp | out | inner
  deriving DecidableEq
def Kind.nm : Kind → String
  | .inp => "in" | .out => "out" | .inner => "inner"
structure Core where
  n : Nat
  kinds : List Kind
  body : Stm
def kindD (k : Kind) : D := S k.nm
def Core.d (c : Core) : D := .tup [S "core", N c.n, .lst (c.kinds.map kindD), c.body.d]
def inpD (i : List (List Nat)) : D := .lst (i.map natsD)
def onK : List Stm → Cond
  | [] => .done
  | s :: k => .on (s :: k)
inductive Rdx where
  | step (t : Nat) | fin (t : Nat) | input (c t : Nat) | meet (c g t : Nat) | output (c t : Nat)
def Rdx.d : Rdx → D
  | .step t => .tup [S "step", N t]
  | .fin t => .tup [S "end", N t]
  | .input c t => .tup [S "input", N c, N t]
  | .meet c g t => .tup [S "meet", N c, N g, N t]
  | .output c t => .tup [S "output", N c, N t]
def isGiv (c : Nat) : Cond → Bool
  | .giving c' _ _ => decide (c' = c)
  | _ => false
def giver (thr : List Cond) (c : Nat) : Option Nat := thr.findIdx? (isGiv c)
def isDone : Cond → Bool
  | .done => true
  | _ => false
def rowRdx (co : Core) (inp : List (List Nat)) (s : Sta) (t c : Nat) : List Rdx := match co.kinds[c]? with
  | some .inner => (match giver s.thr c with
    | none => []
    | some g => [.meet c g t])
  | some .inp => if s.taken.getD c 0 < (inp.getD c []).length then [.input c t] else []
  | _ => []
def thrRdx (co : Core) (inp : List (List Nat)) (s : Sta) (t : Nat) : List Rdx := match s.thr.getD t .idle with
  | .on _ => [.step t]
  | .opn rows _ => rows.flatMap fun r => rowRdx co inp s t r.1
  | .giving c _ _ => if co.kinds[c]? = some .out then [.output c t] else []
  | .joining ts _ => if (ts.all fun o => isDone (s.thr.getD o .idle)) = true then [.fin t] else []
  | _ => []
def rdxs (co : Core) (inp : List (List Nat)) (s : Sta) : List Rdx := (List.range s.thr.length).flatMap fun t => thrRdx co inp s t
def gval (cs : List Nat) : Option Exp → Option Nat
  | none => some 1
  | some e => val cs e
abbrev ARow := Option Exp × Nat × Exp × Stm
def openR (cs : List Nat) (rows : List ARow) : Option (List (Nat × Nat × List Stm)) :=
  if (rows.any fun r => (gval cs r.1).isNone) = true then none else
  if ((rows.filter fun r => decide (gval cs r.1 ≠ some 0)).any fun r => (plc cs r.2.2.1).isNone) = true then none else
  some ((rows.filter fun r => decide (gval cs r.1 ≠ some 0)).map fun r => (r.2.1, (plc cs r.2.2.1).getD 0, [r.2.2.2]))
def afterAlt (o : Option (List (Nat × Nat × List Stm))) (k : List Stm) : Cond := match o with
  | none => .faulted
  | some [] => .stopped
  | some (r :: rs) => .opn (r :: rs) k
def afterTest (cs : List Nat) (k : List Stm) : Stm → Cond
  | .ite e a b => (match val cs e with
    | none => .faulted
    | some v => onK ((if v ≠ 0 then a else b) :: k))
  | .rep e n s => if n = 0 then onK k else (match val cs e with
    | none => .faulted
    | some v => if v = 0 then onK k else onK (s :: .rep e (n - 1) s :: k))
  | _ => .faulted
def afterStep (cs : List Nat) (k : List Stm) : Stm → Cond
  | .skip => onK k
  | .stop => .stopped
  | .give c e => (match val cs e with
    | none => .faulted
    | some w => .giving c w k)
  | .take c t => (match plc cs t with
    | none => .faulted
    | some x => .opn [(c, x, [])] k)
  | .alt rows => afterAlt (openR cs rows) k
  | .seq l => onK (l ++ k)
  | s => afterTest cs k s
def forks (l : List (Nat × Stm)) (thr : List Cond) : List Cond := l.foldl (fun th p => th.set p.1 (.on [p.2])) thr
def stepS (s : Sta) (t : Nat) (k : List Stm) : Stm → Sta
  | .set tg e => (match val s.cells e with
    | none => { s with thr := s.thr.set t .faulted }
    | some w => (match plc s.cells tg with
      | none => { s with thr := s.thr.set t .faulted }
      | some x => { s with cells := s.cells.set x w, thr := s.thr.set t (onK k) }))
  | .par l => { s with thr := forks l (s.thr.set t (.joining (l.map (·.1)) k)) }
  | st => { s with thr := s.thr.set t (afterStep s.cells k st) }
def stepT (s : Sta) (t : Nat) : Sta := match s.thr.getD t .idle with
  | .on (st :: k) => stepS s t k st
  | _ => s
def recv (s : Sta) (c t w : Nat) : Sta := match s.thr.getD t .idle with
  | .opn rows k => (match rows.find? fun r => decide (r.1 = c) with
    | some r => { s with cells := s.cells.set r.2.1 w, thr := s.thr.set t (onK (r.2.2 ++ k)) }
    | none => s)
  | _ => s
def wordIn (inp : List (List Nat)) (s : Sta) (c : Nat) : Nat := (inp.getD c []).getD (s.taken.getD c 0) 0
def perf (inp : List (List Nat)) (s : Sta) : Rdx → Sta
  | .step t => stepT s t
  | .fin t => (match s.thr.getD t .idle with
    | .joining _ k => { s with thr := s.thr.set t (onK k) }
    | _ => s)
  | .output c t => (match s.thr.getD t .idle with
    | .giving _ w k => { s with outs := s.outs.set (c - s.taken.length) (s.outs.getD (c - s.taken.length) [] ++ [w]), thr := s.thr.set t (onK k) }
    | _ => s)
  | .input c t => let s' := recv s c t (wordIn inp s c); { s' with taken := s.taken.set c (s.taken.getD c 0 + 1) }
  | .meet c g t => (match s.thr.getD g .idle with
    | .giving _ w k => let s' := recv s c t w; { s' with thr := s'.thr.set g (onK k) }
    | _ => s)
def evnt (inp : List (List Nat)) (s : Sta) : Rdx → Option (Nat × Nat)
  | .input c _ => some (c, wordIn inp s c)
  | .meet c g _ => (match s.thr.getD g .idle with
    | .giving _ w _ => some (c, w)
    | _ => none)
  | .output c t => (match s.thr.getD t .idle with
    | .giving _ w _ => some (c, w)
    | _ => none)
  | _ => none
def evntD : Option (Nat × Nat) → D
  | none => .non
  | some p => .tup [N p.1, N p.2]
def optN : Option Nat → D
  | none => .non
  | some n => N n
end Mi
namespace Mi
open PySem Dl
/-! ### what is well formed -/
def Exp.wf (n : Nat) (e : Exp) : Prop := e.ok n ∧ e.dep < 7
def Exp.twf (n : Nat) (t : Exp) : Prop := t.tgt = true ∧ t.ok n ∧ t.dep < 7
def owf (n : Nat) : Option Exp → Prop
  | none => True
  | some e => e.wf n
mutual
def Stm.wf (n T C : Nat) : Stm → Prop
  | .skip => True
  | .stop => True
  | .set t e => t.twf n ∧ e.wf n
  | .give c e => c < C ∧ e.wf n
  | .take c t => c < C ∧ t.twf n
  | .seq l => swf n T C l
  | .par l => l.length ≤ 1000 ∧ bwf n T C l
  | .alt l => l.length ≤ 1000 ∧ (l.map fun r => r.2.1).Nodup ∧ rwf n T C l
  | .ite e a b => e.wf n ∧ a.wf n T C ∧ b.wf n T C
  | .rep e _ s => e.wf n ∧ s.wf n T C
def swf (n T C : Nat) : List Stm → Prop
  | [] => True
  | s :: r => s.wf n T C ∧ swf n T C r
def bwf (n T C : Nat) : List (Nat × Stm) → Prop
  | [] => True
  | (t, s) :: r => t < T ∧ s.wf n T C ∧ bwf n T C r
def rwf (n T C : Nat) : List (Option Exp × Nat × Exp × Stm) → Prop
  | [] => True
  | (g, c, t, s) :: r => owf n g ∧ c < C ∧ t.twf n ∧ s.wf n T C ∧ rwf n T C r
end
theorem swf_iff {n T C : Nat} : ∀ {l : List Stm}, swf n T C l ↔ ∀ s ∈ l, s.wf n T C
  | [] => by simp [swf]
  | s :: r => by simp [swf, swf_iff (l := r)]
theorem bwf_iff {n T C : Nat} : ∀ {l : List (Nat × Stm)}, bwf n T C l ↔ ∀ p ∈ l, p.1 < T ∧ p.2.wf n T C
  | [] => by simp [bwf]
  | (t, s) :: r => by simp [bwf, bwf_iff (l := r), and_assoc]
theorem rwf_iff {n T C : Nat} : ∀ {l : List ARow}, rwf n T C l ↔ ∀ p ∈ l, owf n p.1 ∧ p.2.1 < C ∧ p.2.2.1.twf n ∧ p.2.2.2.wf n T C
  | [] => by simp [rwf]
  | (g, c, t, s) :: r => by simp [rwf, rwf_iff (l := r), and_assoc]
def Cond.wf (n T C : Nat) : Cond → Prop
  | .on k => k ≠ [] ∧ swf n T C k
  | .giving c w k => c < C ∧ w < 65536 ∧ swf n T C k
  | .opn rows k => (∀ r ∈ rows, r.1 < C ∧ r.2.1 < n ∧ swf n T C r.2.2) ∧ (rows.map (·.1)).Nodup ∧ rows.length ≤ 1000 ∧ swf n T C k
  | .joining ts k => (∀ t ∈ ts, t < T) ∧ ts.length ≤ 1000 ∧ swf n T C k
  | _ => True
def rowsWork (rows : List (Nat × Nat × List Stm)) : Nat := rows.foldr (fun r m => max (works r.2.2) m) 0
def Cond.meas : Cond → Nat
  | .on k => works k
  | .giving _ _ k => works k + 1
  | .opn rows k => works k + 1 + rowsWork rows
  | .joining _ k => works k + 1
  | _ => 0
def Sta.meas (s : Sta) : Nat := (s.thr.map Cond.meas).sum
/-- what stays through a run -/
structure Fix (co : Core) (inp : List (List Nat)) (T : Nat) where
  ins : Nat
  outs : Nat
  inn : Nat
  kinds : co.kinds = List.replicate ins .inp ++ (List.replicate outs .out ++ List.replicate inn .inner)
  inl : inp.length = ins
  inw : ∀ l ∈ inp, l.length ≤ 1000 ∧ ∀ x ∈ l, x < 65536
  T1 : 1 ≤ T
  T2 : T ≤ 1000
  n2 : co.n ≤ 1000
  C2 : co.kinds.length ≤ 1000
structure Sta.wf {co : Core} {inp : List (List Nat)} {T : Nat} (F : Fix co inp T) (s : Sta) : Prop where
  cells : Cells co.n s.cells
  thr : s.thr.length = T
  cond : ∀ c ∈ s.thr, c.wf co.n T co.kinds.length
  taken : s.taken.length = F.ins
  outs : s.outs.length = F.outs
  meas : s.meas ≤ 3000
  outl : ∀ o ∈ s.outs, o.length ≤ 3000
section
variable {co : Core} {inp : List (List Nat)} {T : Nat}
theorem Fix.kind_inp (F : Fix co inp T) {c : Nat} (h : co.kinds[c]? = some .inp) : c < F.ins := by
  rw [F.kinds] at h
  by_cases h1 : c < F.ins
  · exact h1
  · rw [List.getElem?_append_right (by simpa using h1), List.length_replicate] at h
    by_cases h2 : c - F.ins < F.outs
    · rw [List.getElem?_append_left (by simpa using h2), List.getElem?_replicate, if_pos h2] at h
      cases h
    · rw [List.getElem?_append_right (by simpa using h2), List.getElem?_replicate] at h
      split at h <;> cases h
theorem Fix.kind_out (F : Fix co inp T) {c : Nat} (h : co.kinds[c]? = some .out) : F.ins ≤ c ∧ c - F.ins < F.outs := by
  rw [F.kinds] at h
  by_cases h1 : c < F.ins
  · rw [List.getElem?_append_left (by simpa using h1), List.getElem?_replicate, if_pos h1] at h
    cases h
  · rw [List.getElem?_append_right (by simpa using h1), List.length_replicate] at h
    by_cases h2 : c - F.ins < F.outs
    · exact ⟨by omega, h2⟩
    · rw [List.getElem?_append_right (by simpa using h2), List.getElem?_replicate] at h
      split at h <;> cases h
end
mutual
theorem Stm.work_pos : ∀ s : Stm, 1 ≤ s.work
  | .skip => Nat.le_refl _
  | .stop => Nat.le_refl _
  | .set _ _ => Nat.le_refl _
  | .give _ _ => by simp [Stm.work]
  | .take _ _ => by simp [Stm.work]
  | .seq l => by simp only [Stm.work]; omega
  | .par l => by simp only [Stm.work]; omega
  | .alt l => by simp only [Stm.work]; omega
  | .ite _ a b => by simp only [Stm.work]; omega
  | .rep _ n s => by simp only [Stm.work]; omega
end
theorem len_works : ∀ l : List Stm, l.length ≤ works l
  | [] => Nat.le_refl _
  | s :: r => by
    have h1 := len_works r
    have h2 := Stm.work_pos s
    simp only [works, List.length_cons]; omega
theorem works_app : ∀ a b : List Stm, works (a ++ b) = works a + works b
  | [], b => by simp [works]
  | s :: r, b => by simp only [List.cons_append, works, works_app r b]; omega
theorem sum_ge {l : List Nat} {x : Nat} (h : x ∈ l) : x ≤ l.sum := by
  induction l with
  | nil => cases h
  | cons a r ih =>
    rw [List.sum_cons]
    rcases List.mem_cons.mp h with e | h
    · subst e; omega
    · have := ih h; omega
theorem Sta.meas_at {s : Sta} {t : Nat} {c : Cond} (h : s.thr[t]? = some c) : c.meas ≤ s.meas := sum_ge (List.mem_map_of_mem (List.mem_of_getElem? h))
end Mi
namespace Mi
open PySem Dl
/-- a redex that may be performed -/
def RdxOk (inp : List (List Nat)) (s : Sta) : Rdx → Prop
  | .step t => ∃ st k, s.thr[t]? = some (.on (st :: k))
  | .fin t => ∃ ts k, s.thr[t]? = some (.joining ts k)
  | .output c t => ∃ w k, s.thr[t]? = some (.giving c w k) ∧ s.taken.length ≤ c ∧ c - s.taken.length < s.outs.length
  | .input c t => (∃ rows k r, s.thr[t]? = some (.opn rows k) ∧ rows.find? (fun r => decide (r.1 = c)) = some r) ∧ c < s.taken.length ∧ c < inp.length ∧ s.taken.getD c 0 < (inp.getD c []).length
  | .meet c g t => (∃ w k, s.thr[g]? = some (.giving c w k)) ∧ ∃ rows k r, s.thr[t]? = some (.opn rows k) ∧ rows.find? (fun r => decide (r.1 = c)) = some r
end Mi
namespace Mi
open PySem Dl
/-! ### the statements within a statement -/
def kids : Stm → List Stm
  | .seq l => l
  | .par l => l.map (·.2)
  | .alt l => l.map (·.2.2.2)
  | .ite _ a b => [a, b]
  | .rep _ _ s => [s]
  | _ => []
mutual
def Stm.dep : Stm → Nat
  | .skip => 0
  | .stop => 0
  | .set _ _ => 0
  | .give _ _ => 0
  | .take _ _ => 0
  | .seq l => 1 + deps l
  | .par l => 1 + bdeps l
  | .alt l => 1 + rdeps l
  | .ite _ a b => 1 + max a.dep b.dep
  | .rep _ _ s => 1 + s.dep
def deps : List Stm → Nat
  | [] => 0
  | s :: r => max s.dep (deps r)
def bdeps : List (Nat × Stm) → Nat
  | [] => 0
  | (_, s) :: r => max s.dep (bdeps r)
def rdeps : List (Option Exp × Nat × Exp × Stm) → Nat
  | [] => 0
  | (_, _, _, s) :: r => max s.dep (rdeps r)
end
mutual
def Stm.cnt : Stm → Nat
  | .skip => 0
  | .stop => 0
  | .set _ _ => 0
  | .give _ _ => 0
  | .take _ _ => 0
  | .seq l => cnts l
  | .par l => l.length + bcnts l
  | .alt l => rcnts l
  | .ite _ a b => a.cnt + b.cnt
  | .rep _ _ s => s.cnt
def cnts : List Stm → Nat
  | [] => 0
  | s :: r => s.cnt + cnts r
def bcnts : List (Nat × Stm) → Nat
  | [] => 0
  | (_, s) :: r => s.cnt + bcnts r
def rcnts : List (Option Exp × Nat × Exp × Stm) → Nat
  | [] => 0
  | (_, _, _, s) :: r => s.cnt + rcnts r
end
theorem deps_mem : ∀ {l : List Stm} {s : Stm}, s ∈ l → s.dep ≤ deps l
  | [], _, h => by cases h
  | a :: r, s, h => by
    simp only [deps]
    rcases List.mem_cons.mp h with e | e
    · subst e; exact Nat.le_max_left _ _
    · exact Nat.le_trans (deps_mem e) (Nat.le_max_right _ _)
theorem bdeps_eq : ∀ l : List (Nat × Stm), bdeps l = deps (l.map (·.2))
  | [] => rfl
  | (_, s) :: r => by simp only [bdeps, List.map_cons, deps, bdeps_eq r]
theorem rdeps_eq : ∀ l : List (Option Exp × Nat × Exp × Stm), rdeps l = deps (l.map (·.2.2.2))
  | [] => rfl
  | (_, _, _, s) :: r => by simp only [rdeps, List.map_cons, deps, rdeps_eq r]
theorem bcnts_eq : ∀ l : List (Nat × Stm), bcnts l = cnts (l.map (·.2))
  | [] => rfl
  | (_, s) :: r => by simp only [bcnts, List.map_cons, cnts, bcnts_eq r]
theorem rcnts_eq : ∀ l : List (Option Exp × Nat × Exp × Stm), rcnts l = cnts (l.map (·.2.2.2))
  | [] => rfl
  | (_, _, _, s) :: r => by simp only [rcnts, List.map_cons, cnts, rcnts_eq r]
theorem kids_dep {s c : Stm} (h : c ∈ kids s) : c.dep < s.dep := by
  have hd := deps_mem h
  cases s with
  | seq l => simp only [kids] at hd; simp only [Stm.dep]; omega
  | par l => simp only [kids] at hd; simp only [Stm.dep, bdeps_eq]; omega
  | alt l => simp only [kids] at hd; simp only [Stm.dep, rdeps_eq]; omega
  | ite e a b => simp only [kids, deps] at hd; simp only [Stm.dep]; omega
  | rep e n s => simp only [kids, deps] at hd; simp only [Stm.dep]; omega
  | _ => cases h
def ownCnt : Stm → Nat
  | .par l => l.length
  | _ => 0
theorem cnt_kids (s : Stm) : s.cnt = ownCnt s + cnts (kids s) := by
  cases s <;> simp only [Stm.cnt, ownCnt, kids, cnts, bcnts_eq, rcnts_eq] <;> omega
theorem cnts_take {l : List Stm} {i : Nat} {s : Stm} (h : l[i]? = some s) : cnts (l.take (i + 1)) = cnts (l.take i) + s.cnt := by
  rw [List.take_succ, h]
  have app : ∀ a b : List Stm, cnts (a ++ b) = cnts a + cnts b := by
    intro a b
    induction a with
    | nil => simp [cnts]
    | cons x a ih => simp only [List.cons_append, cnts, ih]; omega
  rw [app]
  simp [cnts]
theorem kids_wf {n T C : Nat} {s c : Stm} (w : s.wf n T C) (h : c ∈ kids s) : c.wf n T C := by
  cases s with
  | seq l => exact swf_iff.mp w c h
  | par l =>
    obtain ⟨p, hp, e⟩ := List.mem_map.mp h
    rw [← e]
    exact (bwf_iff.mp w.2 p hp).2
  | alt l =>
    obtain ⟨p, hp, e⟩ := List.mem_map.mp h
    rw [← e]
    exact (rwf_iff.mp w.2.2 p hp).2.2.2
  | ite e a b =>
    simp only [kids, List.mem_cons, List.not_mem_nil, or_false] at h
    rcases h with rfl | rfl
    · exact w.2.1
    · exact w.2.2
  | rep e n s =>
    simp only [kids, List.mem_cons, List.not_mem_nil, or_false] at h
    subst h
    exact w.2
  | _ => cases h
/-- how many there may be -/
theorem cnts_mem {l : List Stm} {s : Stm} (h : s ∈ l) : s.cnt ≤ cnts l := by
  induction l with
  | nil => cases h
  | cons a r ih =>
    simp only [cnts]
    rcases List.mem_cons.mp h with e | e
    · subst e; omega
    · have := ih e; omega
end Mi
namespace Mi
open PySem Dl
/-! ### the run of the mirror: what stays well formed, what falls -/
def tot (m : Cond → Nat) (thr : List Cond) : Nat := (thr.map m).sum
theorem tot_set {m : Cond → Nat} {c d : Cond} : ∀ {thr : List Cond} {i : Nat}, thr[i]? = some d → tot m (thr.set i c) + m d = tot m thr + m c
  | [], _, h => by simp at h
  | a :: l, 0, h => by
    simp only [List.getElem?_cons_zero, Option.some.injEq] at h
    subst h
    simp only [tot, List.set_cons_zero, List.map_cons, List.sum_cons]
    omega
  | a :: l, i + 1, h => by
    have ih := tot_set (m := m) (c := c) (d := d) (thr := l) (i := i) (by simpa using h)
    simp only [tot, List.set_cons_succ, List.map_cons, List.sum_cons] at ih ⊢
    omega
theorem tot_set_le {m : Cond → Nat} {c : Cond} {thr : List Cond} {i : Nat} : tot m (thr.set i c) ≤ tot m thr + m c := by
  by_cases h : i < thr.length
  · have := tot_set (m := m) (c := c) (List.getElem?_eq_getElem h)
    omega
  · rw [List.set_eq_of_length_le (by omega)]
    omega
/-- the children's weights -/
def kidsTot (m : Cond → Nat) (l : List (Nat × Stm)) : Nat := (l.map fun p => m (.on [p.2])).sum
theorem tot_forks {m : Cond → Nat} : ∀ (l : List (Nat × Stm)) (thr : List Cond), tot m (forks l thr) ≤ tot m thr + kidsTot m l
  | [], thr => by simp [forks, kidsTot]
  | p :: l, thr => by
    have h1 := tot_forks (m := m) l (thr.set p.1 (.on [p.2]))
    have h2 := tot_set_le (m := m) (c := .on [p.2]) (thr := thr) (i := p.1)
    have e : forks (p :: l) thr = forks l (thr.set p.1 (.on [p.2])) := rfl
    rw [e]
    simp only [kidsTot, List.map_cons, List.sum_cons] at h1 ⊢
    omega
theorem meas_tot (s : Sta) : s.meas = tot Cond.meas s.thr := rfl
theorem meas_onK : ∀ k : List Stm, (onK k).meas = works k
  | [] => rfl
  | _ :: _ => rfl
theorem wf_onK {n T C : Nat} : ∀ {k : List Stm}, swf n T C k → (onK k).wf n T C
  | [], _ => trivial
  | _ :: _, h => ⟨by simp, h⟩
theorem kids_meas : ∀ l : List (Nat × Stm), kidsTot Cond.meas l = bworks l
  | [] => rfl
  | (t, s) :: l => by
    have ih := kids_meas l
    simp only [kidsTot, List.map_cons, List.sum_cons, Cond.meas, works, bworks] at ih ⊢
    omega
theorem rowsWork_map {rows : List ARow} {f : ARow → Nat × Nat × List Stm} (hf : ∀ r, works (f r).2.2 = r.2.2.2.work) : ∀ {ch : List ARow}, (∀ r ∈ ch, r ∈ rows) → rowsWork (ch.map f) ≤ rworks rows
  | [], _ => Nat.zero_le _
  | r :: ch, h => by
    have ih := rowsWork_map hf (rows := rows) (ch := ch) fun x hx => h x (List.mem_cons_of_mem _ hx)
    have h1 : r.2.2.2.work ≤ rworks rows := by
      have := h r (List.mem_cons_self ..)
      clear ih h
      induction rows with
      | nil => cases this
      | cons a rows ih =>
        obtain ⟨g, c, t, s⟩ := a
        simp only [rworks]
        rcases List.mem_cons.mp this with e | e
        · subst e; exact Nat.le_max_left _ _
        · exact Nat.le_trans (ih e) (Nat.le_max_right _ _)
    show max (works (f r).2.2) (rowsWork (ch.map f)) ≤ _
    rw [hf]
    omega
theorem openR_some {cs : List Nat} {rows : List ARow} {rs : List (Nat × Nat × List Stm)} (h : openR cs rows = some rs) : ∃ ch : List ARow, ch.Sublist rows ∧ (∀ r ∈ ch, (plc cs r.2.2.1).isSome) ∧ rs = ch.map fun r => (r.2.1, (plc cs r.2.2.1).getD 0, [r.2.2.2]) := by
  unfold openR at h
  split at h
  · cases h
  split at h
  · cases h
  rename_i _ h2
  refine ⟨_, List.filter_sublist, fun r hr => ?_, (Option.some.inj h).symm⟩
  have h3 : ((rows.filter fun r => decide (gval cs r.1 ≠ some 0)).any fun r => (plc cs r.2.2.1).isNone) = false := Bool.eq_false_iff.mpr h2
  have h4 := List.any_eq_false.mp h3 r hr
  cases e : plc cs r.2.2.1 with
  | none => rw [e] at h4; exact absurd rfl h4
  | some _ => rfl
theorem swf_app {n T C : Nat} {a b : List Stm} (h1 : swf n T C a) (h2 : swf n T C b) : swf n T C (a ++ b) := swf_iff.mpr fun s hs => by
  rcases List.mem_append.mp hs with h | h
  · exact swf_iff.mp h1 s h
  · exact swf_iff.mp h2 s h
theorem plc_lt2 {n : Nat} {cs : List Nat} {e : Exp} {v : Nat} (h : e.ok n) (hp : plc cs e = some v) : v < n := plc_lt h hp
/-- one statement's step, the thread's own part -/
theorem after_ok {n T C : Nat} {cs : List Nat} {k : List Stm} {st : Stm} (Cc : Cells n cs) (W : st.wf n T C) (Wk : swf n T C k) (hp : ∀ l, st ≠ .par l) (hs : ∀ t e, st ≠ .set t e) :
    (afterStep cs k st).wf n T C ∧ (afterStep cs k st).meas < st.work + works k := by
  cases st with
  | skip => exact ⟨wf_onK Wk, by simp only [afterStep, meas_onK, Stm.work]; omega⟩
  | stop => exact ⟨trivial, by simp only [afterStep, Cond.meas, Stm.work]; omega⟩
  | set t e => exact absurd rfl (hs t e)
  | give c e =>
    simp only [afterStep]
    cases hv : val cs e with
    | none => exact ⟨trivial, by simp only [Cond.meas, Stm.work]; omega⟩
    | some w => exact ⟨⟨W.1, val_lt Cc W.2.1 hv, Wk⟩, by simp only [Cond.meas, Stm.work]; omega⟩
  | take c t =>
    simp only [afterStep]
    cases hv : plc cs t with
    | none => exact ⟨trivial, by simp only [Cond.meas, Stm.work]; omega⟩
    | some x =>
      refine ⟨⟨fun r hr => ?_, by simp, by simp, Wk⟩, by simp only [Cond.meas, Stm.work, rowsWork, List.foldr, works]; omega⟩
      rw [List.mem_singleton.mp hr]
      exact ⟨W.1, plc_lt W.2.2.1 hv, trivial⟩
  | seq l => exact ⟨wf_onK (swf_app W Wk), by simp only [afterStep, meas_onK, works_app, Stm.work]; omega⟩
  | par l => exact absurd rfl (hp l)
  | alt rows =>
    simp only [afterStep]
    cases ho : openR cs rows with
    | none => exact ⟨trivial, by simp only [afterAlt, Cond.meas, Stm.work]; omega⟩
    | some rs =>
      obtain ⟨ch, hsub, hpl, e⟩ := openR_some ho
      have hw := rwf_iff.mp W.2.2
      have hm : rowsWork rs ≤ rworks rows := by
        rw [e]
        exact rowsWork_map (fun r => by simp [works]) fun r hr => hsub.subset hr
      have hl : rs.length ≤ 1000 := by
        rw [e, List.length_map]
        exact Nat.le_trans hsub.length_le W.1
      have hnd : (rs.map (·.1)).Nodup := by
        rw [e, List.map_map]
        exact (hsub.map fun r : ARow => r.2.1).nodup W.2.1
      have hr : ∀ r ∈ rs, r.1 < C ∧ r.2.1 < n ∧ swf n T C r.2.2 := by
        intro r hr
        rw [e] at hr
        obtain ⟨a, ha, rfl⟩ := List.mem_map.mp hr
        obtain ⟨w1, w2, w3, w4⟩ := hw a (hsub.subset ha)
        have hs := hpl a ha
        cases hv : plc cs a.2.2.1 with
        | none => rw [hv] at hs; cases hs
        | some x => exact ⟨w2, plc_lt w3.2.1 hv, w4, trivial⟩
      cases rs with
      | nil => exact ⟨trivial, by simp only [afterAlt, Cond.meas, Stm.work]; omega⟩
      | cons r rs => exact ⟨⟨hr, hnd, hl, Wk⟩, by simp only [afterAlt, Cond.meas, Stm.work] at hm ⊢; omega⟩
  | ite e a b =>
    simp only [afterStep, afterTest]
    cases hv : val cs e with
    | none => exact ⟨trivial, by simp only [Cond.meas, Stm.work]; omega⟩
    | some v =>
      simp only
      split
      · exact ⟨⟨by simp, W.2.1, Wk⟩, by simp only [onK, Cond.meas, works, Stm.work]; omega⟩
      · exact ⟨⟨by simp, W.2.2, Wk⟩, by simp only [onK, Cond.meas, works, Stm.work]; omega⟩
  | rep e j s =>
    simp only [afterStep, afterTest]
    split
    · exact ⟨wf_onK Wk, by simp only [meas_onK, Stm.work]; omega⟩
    · rename_i hj
      cases hv : val cs e with
      | none => exact ⟨trivial, by simp only [Cond.meas, Stm.work]; omega⟩
      | some v =>
        simp only
        split
        · exact ⟨wf_onK Wk, by simp only [meas_onK, Stm.work]; omega⟩
        · refine ⟨⟨by simp, W.2, W, Wk⟩, ?_⟩
          simp only [onK, Cond.meas, works, Stm.work]
          obtain ⟨i, rfl⟩ : ∃ i, j = i + 1 := ⟨j - 1, by omega⟩
          simp only [Nat.add_sub_cancel, Nat.succ_mul]
          omega
end Mi
namespace Mi
open PySem Dl
/-! ### how long the data's texts are -/
def len (d : D) : Nat := (PyData.shown (py d)).length
def lens : List D → Nat
  | [] => 0
  | d :: r => len d + 2 + lens r
theorem lens_sum : ∀ ds : List D, ((PyData.shownAll (pys ds)).map (·.length)).sum + 2 * (PyData.shownAll (pys ds)).length = lens ds
  | [] => rfl
  | d :: r => by
    have ih := lens_sum r
    simp only [pys, PyData.shownAll, List.map_cons, List.sum_cons, List.length_cons, lens, len] at ih ⊢
    omega
theorem len_tup (ds : List D) : len (.tup ds) ≤ 3 + lens ds := by
  have h := tupleText_len_le (PyData.shownAll (pys ds))
  rw [← lens_sum]
  show (tupleText (PyData.shownAll (pys ds))).length ≤ _
  omega
theorem len_lst (ds : List D) : len (.lst ds) ≤ 3 + lens ds := by
  have h := listText_len_le (PyData.shownAll (pys ds))
  rw [← lens_sum]
  show (listText (PyData.shownAll (pys ds))).length ≤ _
  omega
theorem len_N {n : Nat} (h : n < 100000) : len (N n) ≤ 6 := by
  have e := int_text_length_le10 (a := (n : Int)) (k := 5) (by decide) (by omega)
  show (Str.ofString (toString (n : Int))).length ≤ 6
  rw [ofString_length]; exact e
theorem len_Nn (n : Nat) : len (N n) ≤ n + 2 := by
  have e := int_text_length_le (a := (n : Int)) (k := n + 1) (by omega) (by
    show n.log2 < n + 1
    have := Nat.log2_le_self n
    omega)
  show (Str.ofString (toString (n : Int))).length ≤ n + 2
  rw [ofString_length]; exact e
theorem len_non : len .non = 4 := rfl
theorem lens_app : ∀ a b : List D, lens (a ++ b) = lens a + lens b
  | [], b => by simp [lens]
  | d :: a, b => by simp only [List.cons_append, lens, lens_app a b]; omega
theorem len_tag : ∀ x ∈ ["num", "cell", "at", "neg", "not", "+", "-", "*", "/", "mod", "and", "or", "==", "!=", "<", "<=", "skip", "stop", "set", "give", "take", "seq", "par", "alt", "if", "repeat", "idle", "giving", "open", "joining", "done", "stopped", "faulted", "core", "in", "out", "inner"], len (S x) ≤ 9 := by
  decide +kernel
theorem tag_le {x : String} (h : x ∈ ["num", "cell", "at", "neg", "not", "+", "-", "*", "/", "mod", "and", "or", "==", "!=", "<", "<=", "skip", "stop", "set", "give", "take", "seq", "par", "alt", "if", "repeat", "idle", "giving", "open", "joining", "done", "stopped", "faulted", "core", "in", "out", "inner"] := by decide) : len (S x) ≤ 9 := len_tag x h
theorem len_S {x : String} (h : len (S x) ≤ 9) : len (.str (Str.ofString x)) ≤ 9 := h
/-! ### a weight that bounds all texts of a run -/
mutual
def Stm.wt : Stm → Nat
  | .skip => 60
  | .stop => 60
  | .set t e => len t.d + len e.d + 60
  | .give _ e => len e.d + 80
  | .take _ t => len t.d + 100
  | .seq l => 60 + wts l
  | .par l => 60 + bwts l
  | .alt l => 60 + rwts l
  | .ite e a b => 60 + len e.d + a.wt + b.wt
  | .rep e n s => (n + 1) * (60 + len e.d + s.wt)
def wts : List Stm → Nat
  | [] => 0
  | s :: r => s.wt + 2 + wts r
def bwts : List (Nat × Stm) → Nat
  | [] => 0
  | (_, s) :: r => s.wt + 120 + bwts r
def rwts : List (Option Exp × Nat × Exp × Stm) → Nat
  | [] => 0
  | (g, _, t, s) :: r => len (optE g) + len t.d + s.wt + 100 + rwts r
end
theorem wts_app : ∀ a b : List Stm, wts (a ++ b) = wts a + wts b
  | [], b => by simp [wts]
  | s :: r, b => by simp only [List.cons_append, wts, wts_app r b]; omega
section
variable {n T C : Nat}
mutual
theorem len_stm (hT : T ≤ 1000) (hC : C ≤ 1000) : ∀ s : Stm, s.wf n T C → len s.d + 10 ≤ s.wt
  | .skip, _ => by
    have h := len_tup [S "skip"]
    have h1 : len (S "skip") ≤ 9 := tag_le
    simp only [lens] at h
    simp only [Stm.d, Stm.wt]; omega
  | .stop, _ => by
    have h := len_tup [S "stop"]
    have h1 : len (S "stop") ≤ 9 := tag_le
    simp only [lens] at h
    simp only [Stm.d, Stm.wt]; omega
  | .set t e, _ => by
    have h := len_tup [S "set", t.d, e.d]
    have h1 : len (S "set") ≤ 9 := tag_le
    simp only [lens] at h
    simp only [Stm.d, Stm.wt]; omega
  | .give c e, W => by
    have h := len_tup [S "give", N c, e.d]
    have h1 : len (S "give") ≤ 9 := tag_le
    have h2 := len_N (n := c) (by have := W.1; omega)
    simp only [lens] at h
    simp only [Stm.d, Stm.wt]; omega
  | .take c t, W => by
    have h := len_tup [S "take", N c, t.d]
    have h1 : len (S "take") ≤ 9 := tag_le
    have h2 := len_N (n := c) (by have := W.1; omega)
    simp only [lens] at h
    simp only [Stm.d, Stm.wt]; omega
  | .seq l, W => by
    have h := len_tup [S "seq", .lst (stmsD l)]
    have h1 : len (S "seq") ≤ 9 := tag_le
    have h2 := len_lst (stmsD l)
    have h3 := len_stms hT hC l W
    simp only [lens] at h
    simp only [Stm.d, Stm.wt]; omega
  | .par l, W => by
    have h := len_tup [S "par", .lst (brsD l)]
    have h1 : len (S "par") ≤ 9 := tag_le
    have h2 := len_lst (brsD l)
    have h3 := len_brs hT hC l W.2
    simp only [lens] at h
    simp only [Stm.d, Stm.wt]; omega
  | .alt l, W => by
    have h := len_tup [S "alt", .lst (rowsD l)]
    have h1 : len (S "alt") ≤ 9 := tag_le
    have h2 := len_lst (rowsD l)
    have h3 := len_rows hT hC l W.2.2
    simp only [lens] at h
    simp only [Stm.d, Stm.wt]; omega
  | .ite e a b, W => by
    have h := len_tup [S "if", e.d, a.d, b.d]
    have h1 : len (S "if") ≤ 9 := tag_le
    have h2 := len_stm hT hC a W.2.1
    have h3 := len_stm hT hC b W.2.2
    simp only [lens] at h
    simp only [Stm.d, Stm.wt]; omega
  | .rep e j s, W => by
    have h := len_tup [S "repeat", e.d, N j, s.d]
    have h1 : len (S "repeat") ≤ 9 := tag_le
    have h2 := len_stm hT hC s W.2
    have h3 := len_Nn j
    simp only [lens] at h
    simp only [Stm.d, Stm.wt, Nat.succ_mul]
    have h4 : j * 60 ≤ j * (60 + len e.d + s.wt) := Nat.mul_le_mul_left _ (by omega)
    omega
theorem len_stms (hT : T ≤ 1000) (hC : C ≤ 1000) : ∀ l : List Stm, swf n T C l → lens (stmsD l) ≤ wts l
  | [], _ => Nat.le_refl _
  | s :: r, W => by
    have h1 := len_stm hT hC s W.1
    have h2 := len_stms hT hC r W.2
    simp only [stmsD, lens, wts]; omega
theorem len_brs (hT : T ≤ 1000) (hC : C ≤ 1000) : ∀ l : List (Nat × Stm), bwf n T C l → lens (brsD l) ≤ bwts l
  | [], _ => Nat.le_refl _
  | (t, s) :: r, W => by
    have h1 := len_stm hT hC s W.2.1
    have h2 := len_brs hT hC r W.2.2
    have h3 := len_tup [N t, s.d]
    have h4 := len_N (n := t) (by have := W.1; omega)
    simp only [lens] at h3
    simp only [brsD, lens, bwts]; omega
theorem len_rows (hT : T ≤ 1000) (hC : C ≤ 1000) : ∀ l : List (Option Exp × Nat × Exp × Stm), rwf n T C l → lens (rowsD l) ≤ rwts l
  | [], _ => Nat.le_refl _
  | (g, c, t, s) :: r, W => by
    have h1 := len_stm hT hC s W.2.2.2.1
    have h2 := len_rows hT hC r W.2.2.2.2
    have h3 := len_tup [optE g, N c, t.d, s.d]
    have h4 := len_N (n := c) (by have := W.2.1; omega)
    simp only [lens] at h3
    simp only [rowsD, lens, rwts]; omega
end
end
def orw : List (Nat × Nat × List Stm) → Nat
  | [] => 0
  | r :: l => 60 + wts r.2.2 + orw l
def Cond.cwt : Cond → Nat
  | .on k => 40 + wts k
  | .giving _ _ k => 80 + wts k
  | .opn rows k => 40 + orw rows + wts k
  | .joining ts k => 40 + 10 * ts.length + wts k
  | _ => 40
theorem len_orows {n T C : Nat} (hn : n ≤ 1000) (hT : T ≤ 1000) (hC : C ≤ 1000) : ∀ rows : List (Nat × Nat × List Stm), (∀ r ∈ rows, r.1 < C ∧ r.2.1 < n ∧ swf n T C r.2.2) → lens (rows.map orowD) ≤ orw rows
  | [], _ => Nat.le_refl _
  | r :: l, W => by
    have ih := len_orows hn hT hC l fun x hx => W x (List.mem_cons_of_mem _ hx)
    obtain ⟨w1, w2, w3⟩ := W r (List.mem_cons_self ..)
    have h1 := len_tup [N r.1, N r.2.1, .lst (stmsD r.2.2)]
    have h2 := len_lst (stmsD r.2.2)
    have h3 := len_stms hT hC r.2.2 w3
    have h4 := len_N (n := r.1) (by omega)
    have h5 := len_N (n := r.2.1) (by omega)
    simp only [lens] at h1
    simp only [List.map_cons, lens, orw, orowD]; omega
theorem len_ids : ∀ ts : List Nat, (∀ t ∈ ts, t < 100000) → lens (ts.map N) ≤ 8 * ts.length
  | [], _ => Nat.le_refl _
  | t :: r, h => by
    have ih := len_ids r fun x hx => h x (List.mem_cons_of_mem _ hx)
    have h1 := len_N (h t (List.mem_cons_self ..))
    simp only [List.map_cons, lens, List.length_cons]; omega
theorem len_cond {n T C : Nat} (hn : n ≤ 1000) (hT : T ≤ 1000) (hC : C ≤ 1000) (c : Cond) (W : c.wf n T C) : len c.d + 2 ≤ c.cwt := by
  cases c with
  | on k =>
    have h := len_tup [S "at", .lst (stmsD k)]
    have h1 : len (S "at") ≤ 9 := tag_le
    have h2 := len_lst (stmsD k)
    have h3 := len_stms hT hC k W.2
    simp only [lens] at h
    simp only [Cond.d, Cond.cwt]; omega
  | giving c w k =>
    have h := len_tup [S "giving", N c, N w, .lst (stmsD k)]
    have h1 : len (S "giving") ≤ 9 := tag_le
    have h2 := len_lst (stmsD k)
    have h3 := len_stms hT hC k W.2.2
    have h4 := len_N (n := c) (by have := W.1; omega)
    have h5 := len_N (n := w) (by have := W.2.1; omega)
    simp only [lens] at h
    simp only [Cond.d, Cond.cwt]; omega
  | opn rows k =>
    have h := len_tup [S "open", .lst (rows.map orowD), .lst (stmsD k)]
    have h1 : len (S "open") ≤ 9 := tag_le
    have h2 := len_lst (stmsD k)
    have h3 := len_stms hT hC k W.2.2.2
    have h4 := len_lst (rows.map orowD)
    have h5 := len_orows hn hT hC rows W.1
    simp only [lens] at h
    simp only [Cond.d, Cond.cwt]; omega
  | joining ts k =>
    have h := len_tup [S "joining", .lst (ts.map N), .lst (stmsD k)]
    have h1 : len (S "joining") ≤ 9 := tag_le
    have h2 := len_lst (stmsD k)
    have h3 := len_stms hT hC k W.2.2
    have h4 := len_lst (ts.map N)
    have h5 := len_ids ts fun t ht => by have := W.1 t ht; omega
    simp only [lens] at h
    simp only [Cond.d, Cond.cwt]; omega
  | idle =>
    have h := len_tup [S "idle"]
    have h1 : len (S "idle") ≤ 9 := tag_le
    simp only [lens] at h
    simp only [Cond.d, Cond.cwt]; omega
  | done =>
    have h := len_tup [S "done"]
    have h1 : len (S "done") ≤ 9 := tag_le
    simp only [lens] at h
    simp only [Cond.d, Cond.cwt]; omega
  | stopped =>
    have h := len_tup [S "stopped"]
    have h1 : len (S "stopped") ≤ 9 := tag_le
    simp only [lens] at h
    simp only [Cond.d, Cond.cwt]; omega
  | faulted =>
    have h := len_tup [S "faulted"]
    have h1 : len (S "faulted") ≤ 9 := tag_le
    simp only [lens] at h
    simp only [Cond.d, Cond.cwt]; omega
theorem cwt_onK : ∀ k : List Stm, (onK k).cwt ≤ 40 + wts k
  | [] => Nat.le_refl _
  | _ :: _ => Nat.le_refl _
theorem cwt_40 (c : Cond) : 40 ≤ c.cwt := by cases c <;> simp only [Cond.cwt] <;> omega
theorem rwts_sub : ∀ {ch rows : List ARow}, ch.Sublist rows → rwts ch ≤ rwts rows
  | _, _, .slnil => Nat.le_refl _
  | _, _, .cons a h => by
    have := rwts_sub h
    obtain ⟨g, c, t, s⟩ := a
    simp only [rwts]; omega
  | _, _, .cons_cons a h => by
    have := rwts_sub h
    obtain ⟨g, c, t, s⟩ := a
    simp only [rwts]; omega
theorem orw_map (f : ARow → Nat × Nat × List Stm) (hf : ∀ r, (f r).2.2 = [r.2.2.2]) : ∀ ch : List ARow, orw (ch.map f) ≤ rwts ch
  | [] => Nat.le_refl _
  | r :: l => by
    have ih := orw_map f hf l
    have e := hf r
    obtain ⟨g, c, t, s⟩ := r
    simp only [List.map_cons, orw, e, wts, rwts] at ih ⊢
    omega
theorem after_wt {cs : List Nat} {k : List Stm} {st : Stm} (hp : ∀ l, st ≠ .par l) (hs : ∀ t e, st ≠ .set t e) : (afterStep cs k st).cwt ≤ 40 + wts (st :: k) := by
  have hk := cwt_onK k
  cases st with
  | skip => simp only [afterStep, wts]; omega
  | stop => simp only [afterStep, Cond.cwt, wts]; omega
  | set t e => exact absurd rfl (hs t e)
  | give c e =>
    simp only [afterStep]
    cases val cs e with
    | none => simp only [Cond.cwt]; omega
    | some w => simp only [Cond.cwt, wts, Stm.wt]; omega
  | take c t =>
    simp only [afterStep]
    cases plc cs t with
    | none => simp only [Cond.cwt]; omega
    | some x => simp only [Cond.cwt, orw, wts, Stm.wt]; omega
  | seq l =>
    have := cwt_onK (l ++ k)
    simp only [afterStep]
    rw [wts_app] at this
    simp only [wts, Stm.wt]; omega
  | par l => exact absurd rfl (hp l)
  | alt rows =>
    simp only [afterStep]
    cases ho : openR cs rows with
    | none => simp only [afterAlt, Cond.cwt]; omega
    | some rs =>
      obtain ⟨ch, hsub, _, e⟩ := openR_some ho
      have h1 := orw_map (fun r : ARow => (r.2.1, (plc cs r.2.2.1).getD 0, [r.2.2.2])) (fun _ => rfl) ch
      have h2 := rwts_sub hsub
      rw [← e] at h1
      cases rs with
      | nil => simp only [afterAlt, Cond.cwt]; omega
      | cons r rs => simp only [afterAlt, Cond.cwt, wts, Stm.wt] at h1 ⊢; omega
  | ite e a b =>
    simp only [afterStep, afterTest]
    cases val cs e with
    | none => simp only [Cond.cwt]; omega
    | some v =>
      simp only
      split <;> (simp only [onK, Cond.cwt, wts, Stm.wt]; omega)
  | rep e j s =>
    simp only [afterStep, afterTest]
    split
    · simp only [wts]; omega
    · rename_i hj
      cases val cs e with
      | none => simp only [Cond.cwt]; omega
      | some v =>
        simp only
        split
        · simp only [wts]; omega
        · obtain ⟨i, rfl⟩ : ∃ i, j = i + 1 := ⟨j - 1, by omega⟩
          simp only [onK, Cond.cwt, wts, Stm.wt, Nat.add_sub_cancel, Nat.succ_mul]
          omega
end Mi
namespace Dl
open PySem L2 PySem.Spec PyProof.Rows
def topS (i : Nat) : Stmt := PySem.Challenge.pw_placedanyhow_k16_whole_steps_of_a_plain.main.body.getD i (.Pass ⟨0, 0, 0, 0⟩)
abbrev s_parts : Stmt := topS 1
abbrev s_inner_statements : Stmt := topS 2
abbrev s_branches : Stmt := topS 3
abbrev s_threads_of : Stmt := topS 4
abbrev s_thread_number : Stmt := topS 5
abbrev s_at : Stmt := topS 7
abbrev s_initial : Stmt := topS 8
abbrev s_calculate : Stmt := topS 11
abbrev s_place : Stmt := topS 12
abbrev s_value : Stmt := topS 13
abbrev s_giver_on : Stmt := topS 17
abbrev s_row_redexes : Stmt := topS 18
abbrev s_thread_redexes : Stmt := topS 19
abbrev s_redexes : Stmt := topS 20
abbrev s_opened : Stmt := topS 21
abbrev s_after_alt : Stmt := topS 22
abbrev s_after_test : Stmt := topS 23
abbrev s_after_step : Stmt := topS 24
abbrev s_with_cell : Stmt := topS 25
abbrev s_with_item : Stmt := topS 26
abbrev s_step : Stmt := topS 27
abbrev s_received : Stmt := topS 28
abbrev s_perform : Stmt := topS 29
abbrev s_event : Stmt := topS 30
abbrev s_law_state : Stmt := topS 32
abbrev s_law_draw : Stmt := topS 33
abbrev s_law_pick : Stmt := topS 34
abbrev s_law_number : Stmt := topS 35
abbrev s_law_operator : Stmt := topS 36
abbrev s_law_index : Stmt := topS 37
abbrev s_law_read : Stmt := topS 38
abbrev s_law_expression : Stmt := topS 39
abbrev s_law_target : Stmt := topS 40
abbrev s_law_set : Stmt := topS 41
abbrev s_law_simple : Stmt := topS 42
abbrev s_law_more_cells : Stmt := topS 43
abbrev s_law_env : Stmt := topS 44
abbrev s_law_alt : Stmt := topS 45
abbrev s_law_wrapped : Stmt := topS 46
abbrev s_law_items : Stmt := topS 47
abbrev s_law_meetings : Stmt := topS 48
abbrev s_law_shared : Stmt := topS 49
abbrev s_law_faulty : Stmt := topS 50
abbrev s_law_par : Stmt := topS 51
abbrev s_law_core : Stmt := topS 52
abbrev s_law_inputs : Stmt := topS 53
abbrev s_law_choices : Stmt := topS 54
abbrev s_law_parts : Stmt := topS 55
abbrev s_law_many : Stmt := topS 56
abbrev s_law_first : Stmt := topS 57
abbrev s_law_binary : Stmt := topS 58
abbrev s_law_value : Stmt := topS 59
abbrev s_law_where : Stmt := topS 60
abbrev s_law_ready : Stmt := topS 61
abbrev s_law_on : Stmt := topS 62
abbrev s_law_open : Stmt := topS 63
abbrev s_law_take_word : Stmt := topS 64
abbrev s_law_take_step : Stmt := topS 65
abbrev s_law_got : Stmt := topS 66
abbrev s_law_do : Stmt := topS 67
abbrev s_law_choice : Stmt := topS 68
abbrev s_law : Stmt := topS 69
theorem hu2 {A : Around} {k : Nat} (hr : Room k A) : A.units + 200 < cLine := by have := hr.un; omega
end Dl
namespace Dl
open PySem PySem.Spec PyProof.Rows L2 Mi
/-! ### loops by an invariant; comprehensions over a mirror's list -/
theorem loop_by {g : TGD} {tb : TSD} {E : EndsD} {G : Mh → Prop} {ds : List D} (Pv : Nat → Sd → Mh → Prop) (hG : ∀ i σ M, i ≤ ds.length → Pv i σ M → G M)
    (hs : ∀ i d σ M (nx : Sd → Mh → Prop), ds[i]? = some d → Pv i σ M → (∀ σ3 M3, Pv (i + 1) σ3 M3 → nx σ3 M3) → g d σ M fun σ2 M2 => tb ⟨nx, E.rt, E.nx, nx⟩ σ2 M2) (hd : ∀ σ M, Pv ds.length σ M → E.nx σ M)
    {σ : Sd} {M : Mh} (h0 : Pv 0 σ M) : loopD g tb E G ds σ M := by
  have go : ∀ (n i : Nat) (σ : Sd) (M : Mh), n + i = ds.length → Pv i σ M → loopD g tb E G (ds.drop i) σ M := by
    intro n
    induction n with
    | zero =>
      intro i σ M hi p
      have e : i = ds.length := by omega
      subst e
      rw [List.drop_length]
      exact ⟨hG _ _ _ (Nat.le_refl _) p, hd _ _ p⟩
    | succ n ih =>
      intro i σ M hi p
      have hlt : i < ds.length := by omega
      rw [List.drop_eq_getElem_cons hlt]
      exact ⟨hG _ _ _ (by omega) p, hs i _ σ M _ (List.getElem?_eq_getElem hlt) p fun σ3 M3 p3 => ih (i + 1) σ3 M3 (by omega) p3⟩
  have := go ds.length 0 σ M (by omega) h0
  rwa [List.drop_zero] at this
theorem lc_map {α : Type} {g : TGD} {tt : TTD} {te : TED} {G : Mh → Prop} {p : Addr} {σ : Sd} {F : List D → Mh → Prop} {M : Mh} (l : List α) (tod : α → D) (keep : α → Bool) (f : α → D) (hz : l.length < sizeLine)
    (hG : ∀ acc, G (mupd M p (.lst acc)))
    (hs : ∀ a ∈ l, ∀ acc (Ky : KD) (Kn : Mh → Prop), (if keep a = true then Ky (f a) (mupd M p (.lst acc)) else Kn (mupd M p (.lst acc))) → g (tod a) σ (mupd M p (.lst acc)) fun σ2 M2 => tt σ2 M2 fun b M3 => if b = true then te σ2 M3 Ky else Kn M3)
    (hF : F ((l.filter keep).map f) (mupd M p (.lst ((l.filter keep).map f)))) : lcD g tt te G p σ F (l.map tod) (mupd M p (.lst [])) := by
  have go : ∀ (r done : List α), done ++ r = l → lcD g tt te G p σ F (r.map tod) (mupd M p (.lst ((done.filter keep).map f))) := by
    intro r
    induction r with
    | nil =>
      intro done e
      rw [List.append_nil] at e
      subst e
      exact ⟨hG _, _, mupd_same, hF⟩
    | cons a r ih =>
      intro done e
      have hl : done.length < l.length := by rw [← e, List.length_append, List.length_cons]; omega
      refine ⟨hG _, hs a (by rw [← e]; simp) _ _ _ ?_⟩
      have nxt := ih (done ++ [a]) (by rw [← e, List.append_assoc]; rfl)
      rw [List.filter_append, List.map_append, List.filter_cons, List.filter_nil] at nxt
      by_cases hk : keep a = true
      · rw [if_pos hk] at nxt ⊢
        refine ⟨_, mupd_same, ?_, ?_⟩
        · rw [List.length_map]
          exact Nat.lt_of_le_of_lt (List.length_filter_le _ _) (Nat.lt_trans hl hz)
        · rw [mupd_mupd]; exact nxt
      · rw [if_neg hk] at nxt ⊢
        rw [List.map_nil, List.append_nil] at nxt
        exact nxt
  exact go l [] rfl
/-- the result as data, the heap as before -/
theorem lc_frz {α : Type} {g : TGD} {tt : TTD} {te : TED} {G : Mh → Prop} {p : Addr} {σ : Sd} {Q : KD} {M : Mh} (l : List α) (tod : α → D) (keep : α → Bool) (f : α → D) (hp : M p = none) (hz : l.length < sizeLine)
    (hG : ∀ acc, G (mupd M p (.lst acc)))
    (hs : ∀ a ∈ l, ∀ acc (Ky : KD) (Kn : Mh → Prop), (if keep a = true then Ky (f a) (mupd M p (.lst acc)) else Kn (mupd M p (.lst acc))) → g (tod a) σ (mupd M p (.lst acc)) fun σ2 M2 => tt σ2 M2 fun b M3 => if b = true then te σ2 M3 Ky else Kn M3)
    (h : Q (.lst ((l.filter keep).map f)) M) : lcD g tt te G p σ (fun acc M' => Q (.lst acc) (mdel M' p)) (l.map tod) (mupd M p (.lst [])) :=
  lc_map l tod keep f hz hG hs (by rw [mdel_mupd hp]; exact h)
theorem filter_all {α : Type} (l : List α) : l.filter (fun _ => true) = l := List.filter_eq_self.mpr fun _ _ => rfl
/-- a returned list that is locked: all as before -/
theorem del_upd {M : Mh} {p : Addr} {o : MO} (h : M p = none) : mdel (mupd M p o) p = M := mdel_mupd h
theorem rt_sub {Q : KD} {d : D} {M M' : Mh} (h : Q d M) (hs : ∀ a mo, M a = some mo → M' a = some mo) : rtOf Q d M' := ⟨M, hs, h⟩
theorem mapN_get {l : List Nat} {i x : Nat} (h : l[i]? = some x) : atI (l.map N) (i : Int) = some (N x) := atI_nat (by rw [List.getElem?_map, h]; rfl)
theorem map_get {α : Type} {l : List α} {f : α → D} {i : Nat} {x : α} (h : l[i]? = some x) : atI (l.map f) (i : Int) = some (f x) := atI_nat (by rw [List.getElem?_map, h]; rfl)
theorem getD_get {α : Type} {l : List α} {i : Nat} {x d : α} (h : l[i]? = some x) : l.getD i d = x := by rw [List.getD_eq_getElem?_getD, h]; rfl
theorem get_of_lt {α : Type} {l : List α} {i : Nat} (d : α) (h : i < l.length) : l[i]? = some (l.getD i d) := by
  rw [List.getD_eq_getElem?_getD, List.getElem?_eq_getElem h]; rfl
end Dl
namespace Mi
open PySem Dl
/-- what stays through the run -/
structure Run {co : Core} {inp : List (List Nat)} {T : Nat} (F : Fix co inp T) (Wt : Nat) (s : Sta) : Prop where
  wf : s.wf F
  out : (s.outs.map List.length).sum + s.meas ≤ 3000
  ow : ∀ o ∈ s.outs, ∀ x ∈ o, x < 65536
  tk : ∀ x ∈ s.taken, x ≤ 1000
  wt : tot Cond.cwt s.thr ≤ Wt
section
variable {co : Core} {inp : List (List Nat)} {T : Nat} {F : Fix co inp T} {Wt : Nat} {s : Sta}
theorem getD_some {thr : List Cond} {t : Nat} {c : Cond} (h : thr.getD t .idle = c) (hn : c ≠ .idle) : thr[t]? = some c := by
  rw [List.getD_eq_getElem?_getD] at h
  cases e : thr[t]? with
  | none => rw [e] at h; exact absurd h.symm hn
  | some d => rw [e] at h; exact congrArg some h
theorem rdx_ok (R : Run F Wt s) {r : Rdx} (h : r ∈ rdxs co inp s) : RdxOk inp s r := by
  obtain ⟨t, ht, h⟩ := List.mem_flatMap.mp h
  unfold thrRdx at h
  cases hc : s.thr.getD t .idle with
  | on k =>
    rw [hc] at h
    simp only [List.mem_singleton] at h
    subst h
    have hc2 := getD_some hc (by simp)
    have W := R.wf.cond _ (List.mem_of_getElem? hc2)
    cases k with
    | nil => exact absurd rfl W.1
    | cons st k => exact ⟨st, k, hc2⟩
  | opn rows k =>
    rw [hc] at h
    obtain ⟨x, hx, h⟩ := List.mem_flatMap.mp h
    have hc2 := getD_some hc (by simp)
    have W := R.wf.cond _ (List.mem_of_getElem? hc2)
    have hf : ∃ y, rows.find? (fun r => decide (r.1 = x.1)) = some y := by
      have := List.find?_isSome (xs := rows) (p := fun r => decide (r.1 = x.1)) |>.mpr ⟨x, hx, by simp⟩
      exact Option.isSome_iff_exists.mp this
    obtain ⟨y, hy⟩ := hf
    unfold rowRdx at h
    cases hk : co.kinds[x.1]? with
    | none => rw [hk] at h; cases h
    | some kd =>
      rw [hk] at h
      cases kd with
      | out => cases h
      | inner =>
        simp only at h
        cases hg : giver s.thr x.1 with
        | none => rw [hg] at h; cases h
        | some g =>
          rw [hg] at h
          simp only [List.mem_singleton] at h
          subst h
          refine ⟨?_, rows, k, y, hc2, hy⟩
          unfold giver at hg
          rw [List.findIdx?_eq_some_iff_getElem] at hg
          obtain ⟨hgl, hgi, _⟩ := hg
          cases hd : s.thr[g] with
          | giving c w k' =>
            rw [hd] at hgi
            simp only [isGiv, decide_eq_true_eq] at hgi
            subst hgi
            exact ⟨w, k', by rw [List.getElem?_eq_getElem hgl, hd]⟩
          | _ => rw [hd] at hgi; cases hgi
      | inp =>
        simp only at h
        split at h
        · rename_i hl
          simp only [List.mem_singleton] at h
          subst h
          have hin := F.kind_inp hk
          exact ⟨⟨rows, k, y, hc2, hy⟩, by rw [R.wf.taken]; exact hin, by rw [F.inl]; exact hin, hl⟩
        · cases h
  | giving c w k =>
    rw [hc] at h
    simp only at h
    split at h
    · rename_i hk
      simp only [List.mem_singleton] at h
      subst h
      obtain ⟨h1, h2⟩ := F.kind_out hk
      exact ⟨w, k, getD_some hc (by simp), by rw [R.wf.taken]; exact h1, by rw [R.wf.taken, R.wf.outs]; exact h2⟩
    · cases h
  | joining ts k =>
    rw [hc] at h
    simp only at h
    split at h
    · simp only [List.mem_singleton] at h
      subst h
      exact ⟨ts, k, getD_some hc (by simp)⟩
    · cases h
  | _ => rw [hc] at h; cases h
theorem cells_set {n x w : Nat} {cs : List Nat} (C : Cells n cs) (hw : w < 65536) : Cells n (cs.set x w) := by
  refine ⟨by rw [List.length_set]; exact C.len, fun i y e => ?_⟩
  by_cases h : i = x
  · subst h
    rw [List.getElem?_set] at e
    split at e
    · split at e
      · cases e; exact hw
      · cases e
    · exact C.lt _ _ e
  · rw [List.getElem?_set_ne (Ne.symm h)] at e
    exact C.lt _ _ e
theorem mem_set_or {α : Type} {l : List α} {i : Nat} {a x : α} (h : x ∈ l.set i a) : x ∈ l ∨ x = a := List.mem_or_eq_of_mem_set h
theorem cond_set {n T C i : Nat} {thr : List Cond} {c : Cond} (h : ∀ c ∈ thr, c.wf n T C) (hc : c.wf n T C) : ∀ d ∈ thr.set i c, d.wf n T C := fun d hd => by
  rcases mem_set_or hd with e | e
  · exact h d e
  · rw [e]; exact hc
/-- one thread's condition is replaced -/
theorem run_thr (R : Run F Wt s) {t : Nat} {c d : Cond} (hc : s.thr[t]? = some d) (hw : c.wf co.n T co.kinds.length) (hm : c.meas < d.meas) (hwt : c.cwt ≤ d.cwt) :
    Run F Wt { s with thr := s.thr.set t c } ∧ ({ s with thr := s.thr.set t c } : Sta).meas < s.meas := by
  have h1 := tot_set (m := Cond.meas) (c := c) hc
  have h2 := tot_set (m := Cond.cwt) (c := c) hc
  have hlt : ({ s with thr := s.thr.set t c } : Sta).meas < s.meas := by
    rw [meas_tot, meas_tot]
    show tot Cond.meas (s.thr.set t c) < tot Cond.meas s.thr
    omega
  have W := R.wf
  have ho := R.out
  have hwt0 := R.wt
  refine ⟨⟨⟨W.cells, by show (s.thr.set t c).length = T; rw [List.length_set]; exact W.thr, cond_set W.cond hw, W.taken, W.outs, by have := W.meas; omega, W.outl⟩, ?_, R.ow, R.tk, ?_⟩, hlt⟩
  · show (s.outs.map List.length).sum + _ ≤ 3000
    omega
  · show tot Cond.cwt (s.thr.set t c) ≤ Wt
    omega
theorem run_cells (R : Run F Wt s) {x w : Nat} (hw : w < 65536) : Run F Wt { s with cells := s.cells.set x w } :=
  ⟨⟨cells_set R.wf.cells hw, R.wf.thr, R.wf.cond, R.wf.taken, R.wf.outs, R.wf.meas, R.wf.outl⟩, R.out, R.ow, R.tk, R.wt⟩
theorem run_taken (R : Run F Wt s) {c x : Nat} (hx : x ≤ 1000) : Run F Wt { s with taken := s.taken.set c x } :=
  ⟨⟨R.wf.cells, R.wf.thr, R.wf.cond, by show (s.taken.set c x).length = _; rw [List.length_set]; exact R.wf.taken, R.wf.outs, R.wf.meas, R.wf.outl⟩, R.out, R.ow, fun y hy => by
    rcases mem_set_or hy with e | e
    · exact R.tk y e
    · rw [e]; exact hx, R.wt⟩
theorem rows_work {rows : List (Nat × Nat × List Stm)} {r : Nat × Nat × List Stm} (hrm : r ∈ rows) : works r.2.2 ≤ rowsWork rows := by
  induction rows with
  | nil => cases hrm
  | cons a rows ih =>
    show _ ≤ max (works a.2.2) (rowsWork rows)
    rcases List.mem_cons.mp hrm with e | e
    · subst e; exact Nat.le_max_left _ _
    · exact Nat.le_trans (ih e) (Nat.le_max_right _ _)
theorem rows_orw {rows : List (Nat × Nat × List Stm)} {r : Nat × Nat × List Stm} (hrm : r ∈ rows) : 60 + wts r.2.2 ≤ orw rows := by
  induction rows with
  | nil => cases hrm
  | cons a rows ih =>
    simp only [orw]
    rcases List.mem_cons.mp hrm with e | e
    · subst e; omega
    · have := ih e; omega
theorem run_recv (R : Run F Wt s) {t c w : Nat} {rows k r} (hc : s.thr[t]? = some (.opn rows k)) (hf : rows.find? (fun r => decide (r.1 = c)) = some r) (hw : w < 65536) :
    Run F Wt (recv s c t w) ∧ (recv s c t w).meas < s.meas ∧ (recv s c t w).thr = s.thr.set t (onK (r.2.2 ++ k)) ∧ (recv s c t w).taken = s.taken ∧ (recv s c t w).outs = s.outs := by
  have e : recv s c t w = { s with cells := s.cells.set r.2.1 w, thr := s.thr.set t (onK (r.2.2 ++ k)) } := by
    unfold recv
    rw [getD_get hc]
    simp only [hf]
  have W := R.wf.cond _ (List.mem_of_getElem? hc)
  have hr := List.mem_of_find?_eq_some hf
  have h1 := rows_work hr
  have h2 := rows_orw hr
  have h3 := cwt_onK (r.2.2 ++ k)
  obtain ⟨R2, hm⟩ := run_thr R hc (wf_onK (swf_app (W.1 r hr).2.2 W.2.2.2)) (by rw [meas_onK, works_app]; simp only [Cond.meas]; omega) (Nat.le_trans h3 (by rw [wts_app]; show _ ≤ 40 + orw rows + wts k; omega))
  rw [e]
  exact ⟨run_cells R2 hw, hm, rfl, rfl, rfl⟩
theorem run_perf (R : Run F Wt s) {r : Rdx} (h : RdxOk inp s r) : Run F Wt (perf inp s r) ∧ (perf inp s r).meas < s.meas := by
  cases r with
  | step t =>
    obtain ⟨st, k, hc⟩ := h
    have W : Cond.wf co.n T co.kinds.length (.on (st :: k)) := R.wf.cond _ (List.mem_of_getElem? hc)
    have e : perf inp s (.step t) = stepS s t k st := by
      show stepT s t = _
      unfold stepT
      rw [getD_get hc]
    rw [e]
    have hpos := Stm.work_pos st
    have flt : Run F Wt { s with thr := s.thr.set t .faulted } ∧ ({ s with thr := s.thr.set t .faulted } : Sta).meas < s.meas :=
      run_thr R hc trivial (by simp only [Cond.meas, works]; omega) (by simp only [Cond.cwt]; omega)
    by_cases hpar : ∃ l, st = .par l
    · obtain ⟨l, rfl⟩ := hpar
      obtain ⟨wl, wb⟩ := W.2.1
      have Wb := bwf_iff.mp wb
      have h1 := tot_set (m := Cond.meas) (c := .joining (l.map (·.1)) k) hc
      have h2 := tot_set (m := Cond.cwt) (c := .joining (l.map (·.1)) k) hc
      have h3 := tot_forks (m := Cond.meas) l (s.thr.set t (.joining (l.map (·.1)) k))
      have h4 := tot_forks (m := Cond.cwt) l (s.thr.set t (.joining (l.map (·.1)) k))
      rw [kids_meas] at h3
      have h5 : kidsTot Cond.cwt l + 10 * l.length ≤ bwts l := by
        clear h1 h2 h3 h4 W wl wb Wb hc hpos e flt
        induction l with
        | nil => exact Nat.le_refl _
        | cons p l ih =>
          obtain ⟨a, b⟩ := p
          simp only [kidsTot, List.map_cons, List.sum_cons, Cond.cwt, wts, bwts, List.length_cons] at ih ⊢
          omega
      have hlt : (stepS s t k (.par l)).meas < s.meas := by
        rw [meas_tot, meas_tot]
        show tot Cond.meas (forks l (s.thr.set t (.joining (l.map (·.1)) k))) < tot Cond.meas s.thr
        simp only [Cond.meas, works, Stm.work] at h1
        omega
      have Wk := W.2.2
      refine ⟨⟨⟨R.wf.cells, ?_, ?_, R.wf.taken, R.wf.outs, by have := R.wf.meas; omega, R.wf.outl⟩, ?_, R.ow, R.tk, ?_⟩, hlt⟩
      · show (forks l (s.thr.set t (.joining (l.map (·.1)) k))).length = T
        have fl : ∀ (l : List (Nat × Stm)) (thr : List Cond), (forks l thr).length = thr.length := by
          intro l
          induction l with
          | nil => intro thr; rfl
          | cons p l ih => intro thr; exact (ih (thr.set p.1 (.on [p.2]))).trans List.length_set
        rw [fl, List.length_set]
        exact R.wf.thr
      · have fw : ∀ (l : List (Nat × Stm)) (thr : List Cond), (∀ p ∈ l, p.2.wf co.n T co.kinds.length) → (∀ c ∈ thr, c.wf co.n T co.kinds.length) → ∀ c ∈ forks l thr, c.wf co.n T co.kinds.length := by
          intro l
          induction l with
          | nil => intro thr _ h; exact h
          | cons p l ih =>
            intro thr hp h
            exact ih (thr.set p.1 (.on [p.2])) (fun q hq => hp q (List.mem_cons_of_mem _ hq)) (cond_set h ⟨by simp, hp p (List.mem_cons_self ..), trivial⟩)
        refine fw l _ (fun p hp => (Wb p hp).2) (cond_set R.wf.cond ⟨fun i hi => ?_, by rw [List.length_map]; exact wl, Wk⟩)
        obtain ⟨p, hp, rfl⟩ := List.mem_map.mp hi
        exact (Wb p hp).1
      · have := R.out
        show (s.outs.map List.length).sum + _ ≤ 3000
        omega
      · have := R.wt
        show tot Cond.cwt (forks l (s.thr.set t (.joining (l.map (·.1)) k))) ≤ Wt
        simp only [Cond.cwt, wts, Stm.wt, List.length_map] at h2
        omega
    · by_cases hset : ∃ a b, st = .set a b
      · obtain ⟨tg, ex, rfl⟩ := hset
        simp only [stepS]
        cases hv : val s.cells ex with
        | none => exact flt
        | some w =>
          simp only
          cases hp : plc s.cells tg with
          | none => exact flt
          | some x =>
            obtain ⟨R2, hm⟩ := run_thr R hc (wf_onK W.2.2) (c := onK k) (by rw [meas_onK]; simp only [Cond.meas, works]; omega) (Nat.le_trans (cwt_onK k) (by simp only [Cond.cwt, wts]; omega))
            exact ⟨run_cells R2 (val_lt R.wf.cells W.2.1.2.1 hv), hm⟩
      · have np : ∀ l, st ≠ .par l := fun l z => hpar ⟨l, z⟩
        have ns : ∀ a b, st ≠ .set a b := fun a b z => hset ⟨a, b, z⟩
        have e2 : stepS s t k st = { s with thr := s.thr.set t (afterStep s.cells k st) } := by
          cases st with
          | par l => exact absurd rfl (np l)
          | set a b => exact absurd rfl (ns a b)
          | _ => rfl
        rw [e2]
        obtain ⟨a1, a2⟩ := after_ok R.wf.cells W.2.1 W.2.2 np ns
        exact run_thr R hc a1 (by simp only [Cond.meas, works]; exact a2) (after_wt np ns)
  | fin t =>
    obtain ⟨ts, k, hc⟩ := h
    have W : Cond.wf co.n T co.kinds.length (.joining ts k) := R.wf.cond _ (List.mem_of_getElem? hc)
    simp only [perf, getD_get hc]
    have h3 := cwt_onK k
    exact run_thr R hc (wf_onK W.2.2) (by rw [meas_onK]; simp only [Cond.meas]; omega) (Nat.le_trans h3 (by simp only [Cond.cwt]; omega))
  | output c t =>
    obtain ⟨w, k, hc, h1, h2⟩ := h
    have W : Cond.wf co.n T co.kinds.length (.giving c w k) := R.wf.cond _ (List.mem_of_getElem? hc)
    simp only [perf, getD_get hc]
    have h3 := cwt_onK k
    obtain ⟨R2, hm⟩ := run_thr R hc (c := onK k) (wf_onK W.2.2) (by rw [meas_onK]; simp only [Cond.meas]; omega) (Nat.le_trans h3 (by simp only [Cond.cwt]; omega))
    have hsum : ∀ (l : List (List Nat)) (i : Nat), i < l.length → ((l.set i (l.getD i [] ++ [w])).map List.length).sum = (l.map List.length).sum + 1 := by
      intro l
      induction l with
      | nil => intro i hi; cases hi
      | cons a l ih =>
        intro i hi
        cases i with
        | zero =>
          simp only [List.set_cons_zero, List.getD_cons_zero, List.map_cons, List.sum_cons, List.length_append, List.length_cons, List.length_nil]
          omega
        | succ i =>
          have := ih i (by simpa using hi)
          simp only [List.set_cons_succ, List.getD_cons_succ, List.map_cons, List.sum_cons, this]
          omega
    have hs := hsum s.outs _ h2
    have hmem : ∀ o ∈ s.outs.set (c - s.taken.length) (s.outs.getD (c - s.taken.length) [] ++ [w]), ∀ x ∈ o, x < 65536 := by
      intro o ho x hx
      rcases mem_set_or ho with e | e
      · exact R.ow o e x hx
      · rw [e] at hx
        rcases List.mem_append.mp hx with e2 | e2
        · exact R.ow _ (List.mem_of_getElem? (get_of_lt [] h2)) x e2
        · rw [List.mem_singleton.mp e2]
          exact W.2.1
    have hro := R.out
    have hsl : ∀ o ∈ s.outs.set (c - s.taken.length) (s.outs.getD (c - s.taken.length) [] ++ [w]), o.length ≤ 3000 := by
      intro o ho
      have h4 := sum_ge (List.mem_map_of_mem (f := List.length) ho)
      have hpos : 1 ≤ s.meas := by omega
      omega
    refine ⟨⟨⟨R2.wf.cells, R2.wf.thr, R2.wf.cond, R2.wf.taken, ?_, R2.wf.meas, hsl⟩, ?_, hmem, R2.tk, R2.wt⟩, hm⟩
    · show (s.outs.set _ _).length = _
      rw [List.length_set]
      exact R.wf.outs
    · have hm2 : ({ s with outs := s.outs.set (c - s.taken.length) (s.outs.getD (c - s.taken.length) [] ++ [w]), thr := s.thr.set t (onK k) } : Sta).meas < s.meas := hm
      show ((s.outs.set _ _).map List.length).sum + _ ≤ 3000
      omega
  | input c t =>
    obtain ⟨⟨rows, k, r, hc, hf⟩, hct, hci, hl⟩ := h
    have hi := get_of_lt [] hci
    have hin := F.inw _ (List.mem_of_getElem? hi)
    have hw : wordIn inp s c < 65536 := hin.2 _ (List.mem_of_getElem? (get_of_lt 0 hl))
    obtain ⟨R2, hm, e1, e2, e3⟩ := run_recv R hc hf hw
    have R3 := run_taken R2 (c := c) (x := s.taken.getD c 0 + 1) (by omega)
    rw [e2] at R3
    exact ⟨R3, hm⟩
  | meet c g t =>
    obtain ⟨⟨w, k', hg⟩, rows, k, r, hc, hf⟩ := h
    have W : Cond.wf co.n T co.kinds.length (.giving c w k') := R.wf.cond _ (List.mem_of_getElem? hg)
    obtain ⟨R2, hm, e1, e2, e3⟩ := run_recv R hc hf W.2.1
    have ngt : t ≠ g := fun e => by
      rw [e, hg] at hc
      cases hc
    have hg2 : (recv s c t w).thr[g]? = some (.giving c w k') := by rw [e1, List.getElem?_set_ne ngt]; exact hg
    have h3 := cwt_onK k'
    obtain ⟨R3, hm3⟩ := run_thr R2 hg2 (c := onK k') (wf_onK W.2.2) (by rw [meas_onK]; simp only [Cond.meas]; omega) (Nat.le_trans h3 (by simp only [Cond.cwt]; omega))
    simp only [perf, getD_get hg]
    exact ⟨R3, Nat.lt_trans hm3 hm⟩
end
end Mi
namespace Mi
open PySem Dl
/-! ### how deep the data lies -/
def stmsOf : Cond → List Stm
  | .on k => k
  | .giving _ _ k => k
  | .opn rows k => (rows.flatMap fun r => r.2.2) ++ k
  | .joining _ k => k
  | _ => []
/-- a property of all statements at hand -/
def AllS (P : Stm → Prop) (thr : List Cond) : Prop := ∀ c ∈ thr, ∀ x ∈ stmsOf c, P x
structure Down (P : Stm → Prop) : Prop where
  kid : ∀ s x, P s → x ∈ kids s → P x
  rep : ∀ e n s, P (.rep e n s) → P (.rep e (n - 1) s)
theorem AllS.set {P : Stm → Prop} {thr : List Cond} {i : Nat} {c : Cond} (h : AllS P thr) (hc : ∀ x ∈ stmsOf c, P x) : AllS P (thr.set i c) := fun d hd => by
  rcases mem_set_or hd with e | e
  · exact h d e
  · rw [e]; exact hc
theorem stmsOf_onK : ∀ k : List Stm, stmsOf (onK k) = k
  | [] => rfl
  | _ :: _ => rfl
theorem AllS.forks {P : Stm → Prop} : ∀ {l : List (Nat × Stm)} {thr : List Cond}, AllS P thr → (∀ p ∈ l, P p.2) → AllS P (forks l thr)
  | [], _, h, _ => h
  | p :: l, thr, h, hp => by
    show AllS P (Mi.forks l (thr.set p.1 (.on [p.2])))
    refine AllS.forks (h.set fun x hx => ?_) fun q hq => hp q (List.mem_cons_of_mem _ hq)
    rw [List.mem_singleton.mp hx]
    exact hp p (List.mem_cons_self ..)
theorem after_all {P : Stm → Prop} (D : Down P) {cs : List Nat} {k : List Stm} {st : Stm} (hs : P st) (hk : ∀ x ∈ k, P x) (hset : ∀ a b, st ≠ .set a b) (hpar : ∀ l, st ≠ .par l) : ∀ x ∈ stmsOf (afterStep cs k st), P x := by
  have K := D.kid st
  cases st with
  | skip => simp only [afterStep, stmsOf_onK]; exact hk
  | stop => intro x hx; cases hx
  | set a b => exact absurd rfl (hset a b)
  | give c e =>
    simp only [afterStep]
    cases val cs e with
    | none => intro x hx; cases hx
    | some w => exact hk
  | take c t =>
    simp only [afterStep]
    cases plc cs t with
    | none => intro x hx; cases hx
    | some w => exact hk
  | seq l =>
    simp only [afterStep, stmsOf_onK]
    intro x hx
    rcases List.mem_append.mp hx with h | h
    · exact K x hs h
    · exact hk x h
  | par l => exact absurd rfl (hpar l)
  | alt rows =>
    simp only [afterStep]
    cases ho : openR cs rows with
    | none => intro x hx; cases hx
    | some rs =>
      obtain ⟨ch, hsub, _, e⟩ := openR_some ho
      have hr : ∀ r ∈ rs, ∀ x ∈ r.2.2, P x := by
        intro r hr x hx
        rw [e] at hr
        obtain ⟨a, ha, rfl⟩ := List.mem_map.mp hr
        rw [List.mem_singleton.mp hx]
        exact K _ hs (List.mem_map_of_mem (hsub.subset ha))
      cases rs with
      | nil => intro x hx; cases hx
      | cons r rs =>
        intro x hx
        rcases List.mem_append.mp hx with h | h
        · obtain ⟨a, ha, hx2⟩ := List.mem_flatMap.mp h
          exact hr a ha x hx2
        · exact hk x h
  | ite e a b =>
    simp only [afterStep, afterTest]
    cases val cs e with
    | none => intro x hx; cases hx
    | some v =>
      simp only [stmsOf_onK]
      intro x hx
      rcases List.mem_cons.mp hx with h | h
      · rw [h]
        split
        · exact K a hs (List.mem_cons_self ..)
        · exact K b hs (List.mem_cons_of_mem _ (List.mem_cons_self ..))
      · exact hk x h
  | rep e j s =>
    simp only [afterStep, afterTest]
    split
    · rw [stmsOf_onK]; exact hk
    · cases val cs e with
      | none => intro x hx; cases hx
      | some v =>
        simp only
        split
        · rw [stmsOf_onK]; exact hk
        · rw [stmsOf_onK]
          intro x hx
          rcases List.mem_cons.mp hx with h | h
          · rw [h]; exact K s hs (List.mem_cons_self ..)
          · rcases List.mem_cons.mp h with h | h
            · rw [h]; exact D.rep _ _ _ hs
            · exact hk x h
theorem perf_all {P : Stm → Prop} (D : Down P) {inp : List (List Nat)} {s : Sta} {r : Rdx} (h : AllS P s.thr) (hr : RdxOk inp s r) : AllS P (perf inp s r).thr := by
  have rcv : ∀ {t c w : Nat} {rows k x}, s.thr[t]? = some (.opn rows k) → rows.find? (fun r => decide (r.1 = c)) = some x → AllS P (recv s c t w).thr := by
    intro t c w rows k x hc hf
    have e : recv s c t w = { s with cells := s.cells.set x.2.1 w, thr := s.thr.set t (onK (x.2.2 ++ k)) } := by
      unfold recv
      rw [getD_get hc]
      simp only [hf]
    rw [e]
    have hx := h _ (List.mem_of_getElem? hc)
    refine h.set ?_
    rw [stmsOf_onK]
    intro y hy
    rcases List.mem_append.mp hy with e2 | e2
    · exact hx y (List.mem_append_left _ (List.mem_flatMap.mpr ⟨x, List.mem_of_find?_eq_some hf, e2⟩))
    · exact hx y (List.mem_append_right _ e2)
  cases r with
  | step t =>
    obtain ⟨st, k, hc⟩ := hr
    have hx := h _ (List.mem_of_getElem? hc)
    have hst : P st := hx st (List.mem_cons_self ..)
    have hk : ∀ x ∈ k, P x := fun x hx2 => hx x (List.mem_cons_of_mem _ hx2)
    have e : perf inp s (.step t) = stepS s t k st := by
      show stepT s t = _
      unfold stepT
      rw [getD_get hc]
    rw [e]
    have flt : AllS P (s.thr.set t .faulted) := h.set fun x hx => by cases hx
    by_cases hpar : ∃ l, st = .par l
    · obtain ⟨l, rfl⟩ := hpar
      exact AllS.forks (h.set hk) fun p hp => D.kid _ _ hst (List.mem_map_of_mem hp)
    · by_cases hset : ∃ a b, st = .set a b
      · obtain ⟨tg, ex, rfl⟩ := hset
        simp only [stepS]
        cases val s.cells ex with
        | none => exact flt
        | some w =>
          simp only
          cases plc s.cells tg with
          | none => exact flt
          | some x => exact h.set (by rw [stmsOf_onK]; exact hk)
      · have np : ∀ l, st ≠ .par l := fun l z => hpar ⟨l, z⟩
        have ns : ∀ a b, st ≠ .set a b := fun a b z => hset ⟨a, b, z⟩
        have e2 : stepS s t k st = { s with thr := s.thr.set t (afterStep s.cells k st) } := by
          cases st with
          | par l => exact absurd rfl (np l)
          | set a b => exact absurd rfl (ns a b)
          | _ => rfl
        rw [e2]
        exact h.set (after_all D hst hk ns np)
  | fin t =>
    obtain ⟨ts, k, hc⟩ := hr
    simp only [perf, getD_get hc]
    exact h.set (by rw [stmsOf_onK]; exact h _ (List.mem_of_getElem? hc))
  | output c t =>
    obtain ⟨w, k, hc, _⟩ := hr
    simp only [perf, getD_get hc]
    exact h.set (by rw [stmsOf_onK]; exact h _ (List.mem_of_getElem? hc))
  | input c t =>
    obtain ⟨⟨rows, k, x, hc, hf⟩, _⟩ := hr
    exact rcv hc hf
  | meet c g t =>
    obtain ⟨⟨w, k', hg⟩, rows, k, x, hc, hf⟩ := hr
    simp only [perf, getD_get hg]
    exact (rcv hc hf).set (by rw [stmsOf_onK]; exact h _ (List.mem_of_getElem? hg))
theorem down_dep (d : Nat) : Down fun s => s.dep < d := ⟨fun s x h hx => Nat.lt_trans (kids_dep hx) h, fun e n s h => h⟩
def dp (d : D) : Nat := (py d).depth
def dps (ds : List D) : Nat := PyData.depthAll (pys ds)
theorem dp_tup (ds : List D) : dp (.tup ds) = dps ds + 1 := rfl
theorem dp_lst (ds : List D) : dp (.lst ds) = dps ds + 1 := rfl
theorem dps_nil : dps [] = 0 := rfl
theorem dps_cons (d : D) (ds : List D) : dps (d :: ds) = max (dp d) (dps ds) := rfl
theorem dp_S (x : String) : dp (S x) = 0 := rfl
theorem dp_N (n : Nat) : dp (N n) = 0 := rfl
theorem dp_exp : ∀ e : Exp, dp e.d ≤ e.dep + 1
  | .num n => by simp only [Exp.d, dp_tup, dps_cons, dps_nil, dp_S, dp_N, Exp.dep]; omega
  | .cell n => by simp only [Exp.d, dp_tup, dps_cons, dps_nil, dp_S, dp_N, Exp.dep]; omega
  | .idx f s e => by have := dp_exp e; simp only [Exp.d, dp_tup, dps_cons, dps_nil, dp_S, dp_N, Exp.dep]; omega
  | .neg e => by have := dp_exp e; simp only [Exp.d, dp_tup, dps_cons, dps_nil, dp_S, dp_N, Exp.dep]; omega
  | .not e => by have := dp_exp e; simp only [Exp.d, dp_tup, dps_cons, dps_nil, dp_S, dp_N, Exp.dep]; omega
  | .bin o a b => by have := dp_exp a; have := dp_exp b; simp only [Exp.d, dp_tup, dps_cons, dps_nil, dp_S, dp_N, Exp.dep]; omega
theorem dp_opt {n : Nat} : ∀ g : Option Exp, owf n g → dp (optE g) ≤ 7
  | none, _ => Nat.zero_le _
  | some e, h => by have := dp_exp e; have := h.2; simp only [optE]; omega
section
variable {n T C : Nat}
mutual
theorem dp_stm : ∀ s : Stm, s.wf n T C → dp s.d ≤ 3 * s.dep + 9
  | .skip, _ => by simp only [Stm.d, dp_tup, dps_cons, dps_nil, dp_S, Stm.dep]; omega
  | .stop, _ => by simp only [Stm.d, dp_tup, dps_cons, dps_nil, dp_S, Stm.dep]; omega
  | .set t e, W => by
    have h1 := dp_exp t
    have h2 := dp_exp e
    have h3 := W.1.2.2
    have h4 := W.2.2
    simp only [Stm.d, dp_tup, dps_cons, dps_nil, dp_S, Stm.dep]; omega
  | .give c e, W => by
    have h2 := dp_exp e
    have h4 := W.2.2
    simp only [Stm.d, dp_tup, dps_cons, dps_nil, dp_S, dp_N, Stm.dep]; omega
  | .take c t, W => by
    have h1 := dp_exp t
    have h3 := W.2.2.2
    simp only [Stm.d, dp_tup, dps_cons, dps_nil, dp_S, dp_N, Stm.dep]; omega
  | .seq l, W => by
    have h := dp_stms l W
    simp only [Stm.d, dp_tup, dp_lst, dps_cons, dps_nil, dp_S, Stm.dep]; omega
  | .par l, W => by
    have h := dp_brs l W.2
    simp only [Stm.d, dp_tup, dp_lst, dps_cons, dps_nil, dp_S, Stm.dep]; omega
  | .alt l, W => by
    have h := dp_rows l W.2.2
    simp only [Stm.d, dp_tup, dp_lst, dps_cons, dps_nil, dp_S, Stm.dep]; omega
  | .ite e a b, W => by
    have h1 := dp_exp e
    have h2 := W.1.2
    have h3 := dp_stm a W.2.1
    have h4 := dp_stm b W.2.2
    simp only [Stm.d, dp_tup, dps_cons, dps_nil, dp_S, Stm.dep]; omega
  | .rep e j s, W => by
    have h1 := dp_exp e
    have h2 := W.1.2
    have h3 := dp_stm s W.2
    simp only [Stm.d, dp_tup, dps_cons, dps_nil, dp_S, dp_N, Stm.dep]; omega
theorem dp_stms : ∀ l : List Stm, swf n T C l → dps (stmsD l) ≤ 3 * deps l + 9
  | [], _ => Nat.zero_le _
  | s :: r, W => by
    have h1 := dp_stm s W.1
    have h2 := dp_stms r W.2
    simp only [stmsD, dps_cons, deps]; omega
theorem dp_brs : ∀ l : List (Nat × Stm), bwf n T C l → dps (brsD l) ≤ 3 * bdeps l + 10
  | [], _ => Nat.zero_le _
  | (t, s) :: r, W => by
    have h1 := dp_stm s W.2.1
    have h2 := dp_brs r W.2.2
    simp only [brsD, dps_cons, dp_tup, dps_nil, dp_N, bdeps]; omega
theorem dp_rows : ∀ l : List (Option Exp × Nat × Exp × Stm), rwf n T C l → dps (rowsD l) ≤ 3 * rdeps l + 10
  | [], _ => Nat.zero_le _
  | (g, c, t, s) :: r, W => by
    have h1 := dp_stm s W.2.2.2.1
    have h2 := dp_rows r W.2.2.2.2
    have h3 := dp_opt g W.1
    have h4 := dp_exp t
    have h5 := W.2.2.1.2.2
    simp only [rowsD, dps_cons, dp_tup, dps_nil, dp_N, rdeps]; omega
end
theorem dps_le {m : Nat} : ∀ {ds : List D}, (∀ d ∈ ds, dp d ≤ m) → dps ds ≤ m
  | [], _ => Nat.zero_le _
  | d :: ds, h => by
    have h1 := h d (List.mem_cons_self ..)
    have h2 := dps_le fun x hx => h x (List.mem_cons_of_mem _ hx)
    rw [dps_cons]; omega
theorem dps_map {α : Type} {m : Nat} {f : α → D} {l : List α} (h : ∀ a ∈ l, dp (f a) ≤ m) : dps (l.map f) ≤ m := dps_le fun d hd => by
  obtain ⟨a, ha, rfl⟩ := List.mem_map.mp hd
  exact h a ha
theorem dp_nats (l : List Nat) : dp (natsD l) ≤ 1 := by
  unfold natsD
  rw [dp_lst]
  have := dps_map (m := 0) (f := N) (l := l) fun a _ => Nat.le_refl _
  omega
theorem deps_lt {d : Nat} : ∀ {l : List Stm}, (∀ x ∈ l, x.dep < d) → 0 < d → deps l < d
  | [], _, h => h
  | s :: r, h, hd => by
    have h1 := h s (List.mem_cons_self ..)
    have h2 := deps_lt (fun x hx => h x (List.mem_cons_of_mem _ hx)) hd
    simp only [deps]; omega
theorem dp_cond {c : Cond} (W : c.wf n T C) (h : ∀ x ∈ stmsOf c, x.dep < 60) : dp c.d ≤ 190 := by
  have K : ∀ k : List Stm, swf n T C k → (∀ x ∈ k, x.dep < 60) → dp (.lst (stmsD k)) ≤ 187 := by
    intro k w hk
    have h1 := dp_stms k w
    have h2 := deps_lt hk (by decide)
    rw [dp_lst]; omega
  cases c with
  | on k =>
    have := K k W.2 h
    simp only [Cond.d, dp_tup, dps_cons, dps_nil, dp_S]; omega
  | giving c w k =>
    have := K k W.2.2 h
    simp only [Cond.d, dp_tup, dps_cons, dps_nil, dp_S, dp_N]; omega
  | opn rows k =>
    have h1 := K k W.2.2.2 fun x hx => h x (List.mem_append_right _ hx)
    have h2 : dps (rows.map orowD) ≤ 188 := dps_map fun r hr => by
      have := K r.2.2 (W.1 r hr).2.2 fun x hx => h x (List.mem_append_left _ (List.mem_flatMap.mpr ⟨r, hr, hx⟩))
      simp only [orowD, dp_tup, dps_cons, dps_nil, dp_N]; omega
    simp only [Cond.d, dp_tup, dps_cons, dps_nil, dp_S, dp_lst] at h1 ⊢; omega
  | joining ts k =>
    have h1 := K k W.2.2 h
    have h2 := dp_nats ts
    simp only [natsD, dp_lst] at h2
    simp only [Cond.d, dp_tup, dps_cons, dps_nil, dp_S, dp_lst] at h1 ⊢; omega
  | _ => simp only [Cond.d, dp_tup, dps_cons, dps_nil, dp_S]; omega
end
theorem dp_sta {co : Core} {inp : List (List Nat)} {T : Nat} {F : Fix co inp T} {s : Sta} (W : s.wf F) (h : AllS (fun s => s.dep < 60) s.thr) : dp s.d ≤ 192 := by
  have h1 := dp_nats s.cells
  have h2 := dp_nats s.taken
  have h3 : dps (s.thr.map Cond.d) ≤ 190 := dps_map fun c hc => dp_cond (W.cond c hc) (h c hc)
  have h4 : dps (s.outs.map natsD) ≤ 1 := dps_map fun o _ => dp_nats o
  simp only [Sta.d, dp_tup, dps_cons, dps_nil, dp_lst] at h1 h2 ⊢
  omega
end Mi
namespace Mi
open PySem Dl
/-! ### what the law draws -/
structure CoreOk (co : Core) where
  ins : Nat
  outs : Nat
  inn : Nat
  kinds : co.kinds = List.replicate ins .inp ++ (List.replicate outs .out ++ List.replicate inn .inner)
  ins2 : ins ≤ 10
  wf : co.body.wf co.n (1 + co.body.cnt) co.kinds.length
  n2 : co.n ≤ 1000
  k2 : co.kinds.length ≤ 1000
  cnt : co.body.cnt ≤ 999
  dep : co.body.dep < 60
  work : co.body.work ≤ 3000
  wt : co.body.wt ≤ 14000000
structure InpOk (ins : Nat) (inp : List (List Nat)) : Prop where
  len : inp.length = ins
  l : ∀ l ∈ inp, l.length ≤ 10 ∧ ∀ x ∈ l, x < 65536
def fixOf {co : Core} {inp : List (List Nat)} (C : CoreOk co) (I : InpOk C.ins inp) : Fix co inp (1 + co.body.cnt) :=
  ⟨C.ins, C.outs, C.inn, C.kinds, I.len, fun l hl => ⟨by have := (I.l l hl).1; omega, (I.l l hl).2⟩, by omega, by have := C.cnt; omega, C.n2, C.k2⟩
/-- the plain initial state -/
def init (co : Core) : Sta := { cells := List.replicate co.n 0, thr := .on [co.body] :: List.replicate co.body.cnt .idle, taken := List.replicate (co.kinds.countP (· == .inp)) 0, outs := List.replicate (co.kinds.countP (· == .out)) [] }
theorem cnt_kind (a b c : Nat) : (List.replicate a Kind.inp ++ (List.replicate b Kind.out ++ List.replicate c Kind.inner)).countP (· == .inp) = a ∧ (List.replicate a Kind.inp ++ (List.replicate b Kind.out ++ List.replicate c Kind.inner)).countP (· == .out) = b := by
  simp [List.countP_append, List.countP_replicate]
theorem run_init {co : Core} {inp : List (List Nat)} (C : CoreOk co) (I : InpOk C.ins inp) : Run (fixOf C I) 14100000 (init co) := by
  obtain ⟨c1, c2⟩ := cnt_kind C.ins C.outs C.inn
  rw [← C.kinds] at c1 c2
  have hi : ∀ n : Nat, ((List.replicate n Cond.idle).map Cond.meas).sum = 0 := by
    intro n
    induction n with
    | zero => rfl
    | succ n ih => rw [List.replicate_succ, List.map_cons, List.sum_cons, ih]; rfl
  have hw : ∀ n : Nat, ((List.replicate n Cond.idle).map Cond.cwt).sum = 40 * n := by
    intro n
    induction n with
    | zero => rfl
    | succ n ih => rw [List.replicate_succ, List.map_cons, List.sum_cons, ih]; show 40 + 40 * n = _; omega
  have hm : (init co).meas ≤ 3000 := by
    have := C.work
    show (((Cond.on [co.body]) :: List.replicate co.body.cnt .idle).map Cond.meas).sum ≤ 3000
    rw [List.map_cons, List.sum_cons, hi]
    simp only [Cond.meas, works]
    omega
  have cn := C.cnt
  refine ⟨⟨⟨List.length_replicate, fun i x e => ?_⟩, ?_, ?_, ?_, ?_, hm, ?_⟩, ?_, ?_, ?_, ?_⟩
  · have := List.mem_of_getElem? e
    rw [(List.mem_replicate.mp this).2]; decide
  · show ((Cond.on [co.body]) :: List.replicate co.body.cnt .idle).length = _
    rw [List.length_cons, List.length_replicate]; omega
  · intro c hc
    rcases List.mem_cons.mp hc with e | e
    · rw [e]; exact ⟨by simp, C.wf, trivial⟩
    · rw [(List.mem_replicate.mp e).2]; trivial
  · exact List.length_replicate.trans c1
  · exact List.length_replicate.trans c2
  · intro o ho
    rw [(List.mem_replicate.mp ho).2]; exact Nat.zero_le _
  · have : ((init co).outs.map List.length).sum = 0 := by
      show ((List.replicate (co.kinds.countP (· == .out)) ([] : List Nat)).map List.length).sum = 0
      rw [List.map_replicate]
      simp
    omega
  · intro o ho x hx
    rw [(List.mem_replicate.mp ho).2] at hx; cases hx
  · intro x hx
    rw [(List.mem_replicate.mp hx).2]; exact Nat.zero_le _
  · have := C.wt
    show (((Cond.on [co.body]) :: List.replicate co.body.cnt .idle).map Cond.cwt).sum ≤ _
    rw [List.map_cons, List.sum_cons, hw]
    simp only [Cond.cwt, wts]
    omega
theorem all_init {co : Core} (C : CoreOk co) : AllS (fun s => s.dep < 60) (init co).thr := by
  intro c hc x hx
  rcases List.mem_cons.mp hc with e | e
  · rw [e] at hx
    rw [List.mem_singleton.mp hx]; exact C.dep
  · rw [(List.mem_replicate.mp e).2] at hx; cases hx
/-! ### texts -/
theorem len_nats {l : List Nat} (h : ∀ x ∈ l, x < 100000) : len (natsD l) ≤ 3 + 8 * l.length := by
  have h1 := len_lst (l.map N)
  have h2 := len_ids l h
  unfold natsD
  omega
theorem lens_outs : ∀ (l : List (List Nat)), (∀ o ∈ l, ∀ x ∈ o, x < 65536) → lens (l.map natsD) ≤ 5 * l.length + 8 * (l.map List.length).sum
  | [], _ => Nat.zero_le _
  | o :: l, h => by
    have ih := lens_outs l fun o ho => h o (List.mem_cons_of_mem _ ho)
    have h1 := len_nats (l := o) fun x hx => Nat.lt_trans (h o (List.mem_cons_self ..) x hx) (by decide)
    simp only [List.map_cons, lens, List.length_cons, List.sum_cons]
    omega
section
variable {co : Core} {inp : List (List Nat)} {T : Nat} {F : Fix co inp T} {Wt : Nat} {s : Sta}
theorem lens_thr {n T C : Nat} (hn : n ≤ 1000) (hT : T ≤ 1000) (hC : C ≤ 1000) : ∀ thr : List Cond, (∀ c ∈ thr, c.wf n T C) → lens (thr.map Cond.d) ≤ tot Cond.cwt thr
  | [], _ => Nat.zero_le _
  | c :: l, h => by
    have ih := lens_thr hn hT hC l fun x hx => h x (List.mem_cons_of_mem _ hx)
    have h1 := len_cond hn hT hC c (h c (List.mem_cons_self ..))
    simp only [tot, List.map_cons, lens, List.sum_cons] at ih ⊢
    omega
theorem len_sta (R : Run F Wt s) : len s.d ≤ Wt + 60000 := by
  have h0 := len_tup [natsD s.cells, .lst (s.thr.map Cond.d), natsD s.taken, .lst (s.outs.map natsD)]
  have h1 := len_nats (l := s.cells) fun x hx => by
    obtain ⟨i, hi, e⟩ := List.getElem_of_mem hx
    have := R.wf.cells.lt i x (by rw [List.getElem?_eq_getElem hi, e])
    omega
  have h2 := lens_thr F.n2 F.T2 F.C2 s.thr R.wf.cond
  have h3 := len_nats (l := s.taken) fun x hx => by have := R.tk x hx; omega
  have h4 := lens_outs s.outs R.ow
  have h5 := len_lst (s.thr.map Cond.d)
  have h6 := len_lst (s.outs.map natsD)
  have h7 := R.wt
  have h8 := R.out
  have h9 := R.wf.cells.len
  have h10 := R.wf.taken
  have h11 := R.wf.outs
  have hk : F.ins ≤ 1000 ∧ F.outs ≤ 1000 := by
    have := congrArg List.length F.kinds
    simp only [List.length_append, List.length_replicate] at this
    have := F.C2
    omega
  have hn := F.n2
  simp only [lens] at h0
  simp only [Sta.d]
  omega
theorem len_kinds : ∀ l : List Kind, lens (l.map kindD) ≤ 11 * l.length
  | [] => Nat.zero_le _
  | k :: l => by
    have ih := len_kinds l
    have h1 : len (kindD k) ≤ 9 := by cases k <;> exact tag_le
    simp only [List.map_cons, lens, List.length_cons]
    omega
theorem len_core {co : Core} (C : CoreOk co) {inp : List (List Nat)} (I : InpOk C.ins inp) : len (.lst [co.d, inpD inp]) ≤ 14100000 := by
  have h0 := len_lst [co.d, inpD inp]
  have h1 := len_tup [S "core", N co.n, .lst (co.kinds.map kindD), co.body.d]
  have h2 : len (S "core") ≤ 9 := tag_le
  have h3 := len_N (n := co.n) (by have := C.n2; omega)
  have h4 := len_lst (co.kinds.map kindD)
  have h5 := len_kinds co.kinds
  have h6 := len_stm (by have := C.cnt; omega) C.k2 co.body C.wf
  have h7 := len_lst (inp.map natsD)
  have h8 := lens_outs inp fun o ho => (I.l o ho).2
  have h9 : (inp.map List.length).sum ≤ 10 * inp.length := by
    have hl := I.l
    clear h0 h1 h2 h3 h4 h5 h6 h7 h8
    have : ∀ l : List (List Nat), (∀ o ∈ l, o.length ≤ 10) → (l.map List.length).sum ≤ 10 * l.length := by
      intro l
      induction l with
      | nil => intro _; exact Nat.zero_le _
      | cons o l ih =>
        intro h
        have h1 := ih fun x hx => h x (List.mem_cons_of_mem _ hx)
        have h2 := h o (List.mem_cons_self ..)
        simp only [List.map_cons, List.sum_cons, List.length_cons]
        omega
    exact this inp fun o ho => (hl o ho).1
  have h10 := I.len
  have h11 := C.ins2
  have h12 := C.k2
  have h13 := C.wt
  simp only [lens] at h0 h1
  simp only [Core.d, inpD] at h0 ⊢
  omega
end
/-! ### they may be shown -/
def shw (d : D) : Bool := (py d).showable
def shws (ds : List D) : Bool := PyData.showableAll (pys ds)
theorem shw_tup (ds : List D) : shw (.tup ds) = shws ds := rfl
theorem shw_lst (ds : List D) : shw (.lst ds) = shws ds := rfl
theorem shws_nil : shws [] = true := rfl
theorem shws_cons (d : D) (ds : List D) : shws (d :: ds) = (shw d && shws ds) := rfl
theorem shw_S (x : String) : shw (S x) = true := rfl
theorem shw_N {n : Nat} (h : n < 2 ^ 32) : shw (N n) = true := by
  show decide ((n : Int).natAbs.log2 < 1920) = true
  rw [decide_eq_true_eq]
  have : (n : Int).natAbs = n := rfl
  rw [this]
  have h2 : n.log2 < 32 := by
    by_cases h0 : n = 0
    · subst h0; decide
    · exact (Nat.log2_lt h0).mpr h
  omega
theorem shws_all : ∀ {ds : List D}, (∀ d ∈ ds, shw d = true) → shws ds = true
  | [], _ => rfl
  | d :: ds, h => by rw [shws_cons, h d (List.mem_cons_self ..), shws_all fun x hx => h x (List.mem_cons_of_mem _ hx)]; rfl
theorem shws_map {α : Type} {f : α → D} {l : List α} (h : ∀ a ∈ l, shw (f a) = true) : shws (l.map f) = true := shws_all fun d hd => by
  obtain ⟨a, ha, rfl⟩ := List.mem_map.mp hd
  exact h a ha
theorem shw_nats {l : List Nat} (h : ∀ x ∈ l, x < 2 ^ 32) : shw (natsD l) = true := by
  unfold natsD
  rw [shw_lst]
  exact shws_map fun a ha => shw_N (h a ha)
theorem shw_exp {n : Nat} (hn : n ≤ 1000) : ∀ e : Exp, e.ok n → shw e.d = true
  | .num m, h => by
    have h1 : m < 65536 := h
    simp only [Exp.d, shw_tup, shws_cons, shws_nil, shw_S, shw_N (n := m) (by omega), Bool.and_true]
  | .cell m, h => by
    have h1 : m < n := h
    simp only [Exp.d, shw_tup, shws_cons, shws_nil, shw_S, shw_N (n := m) (by omega), Bool.and_true]
  | .idx f s e, h => by
    have h1 := h.1
    simp only [Exp.d, shw_tup, shws_cons, shws_nil, shw_S, shw_N (n := f) (by omega), shw_N (n := s) (by omega), shw_exp hn e h.2, Bool.and_true]
  | .neg e, h => by
    have h1 : e.ok n := h
    simp only [Exp.d, shw_tup, shws_cons, shws_nil, shw_S, shw_exp hn e h1, Bool.and_true]
  | .not e, h => by
    have h1 : e.ok n := h
    simp only [Exp.d, shw_tup, shws_cons, shws_nil, shw_S, shw_exp hn e h1, Bool.and_true]
  | .bin o a b, h => by simp only [Exp.d, shw_tup, shws_cons, shws_nil, shw_S, shw_exp hn a h.1, shw_exp hn b h.2, Bool.and_true]
theorem shw_opt {n : Nat} (hn : n ≤ 1000) : ∀ g : Option Exp, owf n g → shw (optE g) = true
  | none, _ => rfl
  | some e, h => shw_exp hn e h.1
section
variable {n T C : Nat}
mutual
theorem shw_stm (hn : n ≤ 1000) (hT : T ≤ 1000) (hC : C ≤ 1000) : ∀ s : Stm, s.wf n T C → s.wt < 2 ^ 32 → shw s.d = true
  | .skip, _, _ => rfl
  | .stop, _, _ => rfl
  | .set t e, W, _ => by simp only [Stm.d, shw_tup, shws_cons, shws_nil, shw_S, shw_exp hn t W.1.2.1, shw_exp hn e W.2.1, Bool.and_true]
  | .give c e, W, _ => by simp only [Stm.d, shw_tup, shws_cons, shws_nil, shw_S, shw_N (n := c) (by have := W.1; omega), shw_exp hn e W.2.1, Bool.and_true]
  | .take c t, W, _ => by simp only [Stm.d, shw_tup, shws_cons, shws_nil, shw_S, shw_N (n := c) (by have := W.1; omega), shw_exp hn t W.2.2.1, Bool.and_true]
  | .seq l, W, h => by
    simp only [Stm.wt] at h
    simp only [Stm.d, shw_tup, shw_lst, shws_cons, shws_nil, shw_S, shw_stms hn hT hC l W (by omega), Bool.and_true]
  | .par l, W, h => by
    simp only [Stm.wt] at h
    simp only [Stm.d, shw_tup, shw_lst, shws_cons, shws_nil, shw_S, shw_brs hn hT hC l W.2 (by omega), Bool.and_true]
  | .alt l, W, h => by
    simp only [Stm.wt] at h
    simp only [Stm.d, shw_tup, shw_lst, shws_cons, shws_nil, shw_S, shw_rows hn hT hC l W.2.2 (by omega), Bool.and_true]
  | .ite e a b, W, h => by
    simp only [Stm.wt] at h
    simp only [Stm.d, shw_tup, shws_cons, shws_nil, shw_S, shw_exp hn e W.1.1, shw_stm hn hT hC a W.2.1 (by omega), shw_stm hn hT hC b W.2.2 (by omega), Bool.and_true]
  | .rep e j s, W, h => by
    simp only [Stm.wt, Nat.succ_mul] at h
    have h4 : j * 60 ≤ j * (60 + len e.d + s.wt) := Nat.mul_le_mul_left _ (by omega)
    simp only [Stm.d, shw_tup, shws_cons, shws_nil, shw_S, shw_N (n := j) (by omega), shw_exp hn e W.1.1, shw_stm hn hT hC s W.2 (by omega), Bool.and_true]
theorem shw_stms (hn : n ≤ 1000) (hT : T ≤ 1000) (hC : C ≤ 1000) : ∀ l : List Stm, swf n T C l → wts l < 2 ^ 32 → shws (stmsD l) = true
  | [], _, _ => rfl
  | s :: r, W, h => by
    simp only [wts] at h
    rw [stmsD, shws_cons, shw_stm hn hT hC s W.1 (by omega), shw_stms hn hT hC r W.2 (by omega)]; rfl
theorem shw_brs (hn : n ≤ 1000) (hT : T ≤ 1000) (hC : C ≤ 1000) : ∀ l : List (Nat × Stm), bwf n T C l → bwts l < 2 ^ 32 → shws (brsD l) = true
  | [], _, _ => rfl
  | (t, s) :: r, W, h => by
    simp only [bwts] at h
    rw [brsD, shws_cons, shw_tup, shws_cons, shws_cons, shws_nil, shw_N (n := t) (by have := W.1; omega), shw_stm hn hT hC s W.2.1 (by omega), shw_brs hn hT hC r W.2.2 (by omega)]; rfl
theorem shw_rows (hn : n ≤ 1000) (hT : T ≤ 1000) (hC : C ≤ 1000) : ∀ l : List (Option Exp × Nat × Exp × Stm), rwf n T C l → rwts l < 2 ^ 32 → shws (rowsD l) = true
  | [], _, _ => rfl
  | (g, c, t, s) :: r, W, h => by
    simp only [rwts] at h
    rw [rowsD, shws_cons, shw_tup, shws_cons, shws_cons, shws_cons, shws_cons, shws_nil, shw_opt hn g W.1, shw_N (n := c) (by have := W.2.1; omega), shw_exp hn t W.2.2.1.2.1, shw_stm hn hT hC s W.2.2.2.1 (by omega), shw_rows hn hT hC r W.2.2.2.2 (by omega)]; rfl
end
theorem shw_cond (hn : n ≤ 1000) (hT : T ≤ 1000) (hC : C ≤ 1000) (c : Cond) (W : c.wf n T C) (h : c.cwt < 2 ^ 32) : shw c.d = true := by
  cases c with
  | on k =>
    simp only [Cond.cwt] at h
    simp only [Cond.d, shw_tup, shw_lst, shws_cons, shws_nil, shw_S, shw_stms hn hT hC k W.2 (by omega), Bool.and_true]
  | giving c w k =>
    simp only [Cond.cwt] at h
    simp only [Cond.d, shw_tup, shw_lst, shws_cons, shws_nil, shw_S, shw_N (n := c) (by have := W.1; omega), shw_N (n := w) (by have := W.2.1; omega), shw_stms hn hT hC k W.2.2 (by omega), Bool.and_true]
  | opn rows k =>
    simp only [Cond.cwt] at h
    have h2 : shws (rows.map orowD) = true := shws_map fun r hr => by
      have h3 := rows_orw hr
      obtain ⟨w1, w2, w3⟩ := W.1 r hr
      simp only [orowD, shw_tup, shw_lst, shws_cons, shws_nil, shw_N (n := r.1) (by omega), shw_N (n := r.2.1) (by omega), shw_stms hn hT hC r.2.2 w3 (by omega), Bool.and_true]
    simp only [Cond.d, shw_tup, shw_lst, shws_cons, shws_nil, shw_S, h2, shw_stms hn hT hC k W.2.2.2 (by omega), Bool.and_true]
  | joining ts k =>
    simp only [Cond.cwt] at h
    have h2 : shws (ts.map N) = true := shws_map fun t ht => shw_N (by have := W.1 t ht; omega)
    simp only [Cond.d, shw_tup, shw_lst, shws_cons, shws_nil, shw_S, h2, shw_stms hn hT hC k W.2.2 (by omega), Bool.and_true]
  | _ => rfl
end
theorem shw_sta {co : Core} {inp : List (List Nat)} {T : Nat} {F : Fix co inp T} {Wt : Nat} {s : Sta} (R : Run F Wt s) (hw : Wt < 2 ^ 32) : shw s.d = true := by
  have h1 : shw (natsD s.cells) = true := shw_nats fun x hx => by
    obtain ⟨i, hi, e⟩ := List.getElem_of_mem hx
    have := R.wf.cells.lt i x (by rw [List.getElem?_eq_getElem hi, e])
    omega
  have h2 : shw (natsD s.taken) = true := shw_nats fun x hx => by have := R.tk x hx; omega
  have h3 : shws (s.thr.map Cond.d) = true := shws_map fun c hc => by
    have h4 : c.cwt ≤ tot Cond.cwt s.thr := sum_ge (List.mem_map_of_mem (f := Cond.cwt) hc)
    have h5 := R.wt
    exact shw_cond F.n2 F.T2 F.C2 c (R.wf.cond c hc) (by omega)
  have h4 : shws (s.outs.map natsD) = true := shws_map fun o ho => shw_nats fun x hx => by have := R.ow o ho x hx; omega
  simp only [Sta.d, shw_tup, shw_lst, shws_cons, shws_nil, h1, h2, h3, h4, Bool.and_true]
theorem shw_core {co : Core} (C : CoreOk co) {inp : List (List Nat)} (I : InpOk C.ins inp) : shw (.lst [co.d, inpD inp]) = true := by
  have h1 : shws (inp.map natsD) = true := shws_map fun o ho => shw_nats fun x hx => by have := (I.l o ho).2 x hx; omega
  have h2 : shws (co.kinds.map kindD) = true := shws_map fun k _ => rfl
  have h3 := shw_stm C.n2 (by have := C.cnt; omega) C.k2 co.body C.wf (by have := C.wt; omega)
  simp only [Core.d, inpD, shw_tup, shw_lst, shws_cons, shws_nil, shw_S, shw_N (n := co.n) (by have := C.n2; omega), h1, h2, h3, Bool.and_true]
theorem dp_core {co : Core} (C : CoreOk co) {inp : List (List Nat)} : dp (.lst [co.d, inpD inp]) ≤ 190 := by
  have h1 := dp_stm co.body C.wf
  have h2 := C.dep
  have h3 : dps (inp.map natsD) ≤ 1 := dps_map fun o _ => dp_nats o
  have h4 : dps (co.kinds.map kindD) ≤ 0 := dps_map fun k _ => Nat.le_refl _
  simp only [Core.d, inpD, dp_tup, dp_lst, dps_cons, dps_nil, dp_S, dp_N]
  omega
end Mi
namespace Dl
open PySem PySem.Spec PyProof.Rows L2 Mi
section
variable {X : Cx}
theorem cnt_eqU {x : V} : ∀ {xs : List V} {us : List Value}, Vals xs us → xs.all flatV = true → us.countP (eqU x) = xs.countP fun y => eqV y x
  | _, _, .nil, _ => rfl
  | _, _, .cons r t, h => by
    simp only [List.all_cons, Bool.and_eq_true] at h
    rw [List.countP_cons, List.countP_cons, cnt_eqU t h.2, eqU_of r h.1]
theorem cnt_rls {K : PySem.W.Frag} {H : Hp} {x : V} {d : D} (rx : Rl K H x d) (hx : flatD d = true) : ∀ {xs : List V} {ds : List D}, Rls K H xs ds → ds.all flatD = true → xs.countP (fun y => eqV y x) = ds.countP fun y => eqD y d
  | _, _, .nil, _ => rfl
  | _, _, .cons r t, h => by
    simp only [List.all_cons, Bool.and_eq_true] at h
    rw [List.countP_cons, List.countP_cons, cnt_rls rx hx t h.2, eq_v r rx h.1 hx]
def rCnt : RMD := fun x ys M Q => match ys with
  | [y] => ∃ ds, IsL M x ds ∧ flatD y = true ∧ ds.all flatD = true ∧ Q (.int (ds.countP fun z => eqD z y : Nat)) M
  | _ => False
theorem mt_count_d : MtD X "list.count" rCnt := by
  intro pins s σ H
  intro x xs v us Q I rx rxs h
  obtain ⟨d, ds, M, Qd, hd, hds, hm, h, hq⟩ := h
  match ds, hds, h with
  | [y], hds, h =>
    obtain ⟨w, rfl, rw'⟩ := hds.one
    obtain ⟨es, hl, f1, f2, q⟩ := h
    obtain ⟨a, vs, rfl, rd, rs⟩ := hl.at hd hm
    cases rx
    obtain ⟨u, rfl, ru⟩ := rxs.one
    obtain ⟨z, its, n, rv, hlen, e1⟩ := lstR I rd
    have fv := flats_v rs f2
    have fw := flat_v rw' f1
    have q2 : Up X.K H Qd (.int ((its.countP (eqU w) : Nat) : Int)) H := by
      rw [cnt_eqU rv fv, cnt_rls rw' f1 rs f2]
      exact ⟨_, M, .refl, .int _, hm, q⟩
    refine call_meets F.slot_list_count ⟨_, e1, rfl⟩ F.entry_list_count (F.args_list_count_2 _ _)
      (SeqAt.list_countAt a its.toArray n none #[] u (eqU w)) ⟨e1, fun y hy => mem_eqAt ru fw rv fv y (by simpa using hy), ?_⟩
    refine ⟨.int ((its.countP (eqU w) : Nat) : Int), H, I.tok _, ⟨s.toks, ?_⟩, hq _ _ q2⟩
    rfl
  | [], _, h => exact h.elim
  | _ :: _ :: _, _, h => exact h.elim
end
end Dl
namespace Dl
open PySem PySem.Spec PyProof.Rows L2 Mi
/-! ### sorted(rows, key=thread_number) -/
/-- a tuple with a whole number ahead -/
def RowAt (h : Heap) (v : Value) (n : Int) : Prop := ∃ b t r, v = .ref b ∧ IsTup h b (Array.mk (.int n t :: r))
theorem row_call {P : Program} {w : World} {K : PySem.W.Frag} {A : Around} {s : Shared} {f : Addr} {fd : FuncData} (F : FunD K "thread_number" "thread_number" (defArgs s_thread_number) (defBody s_thread_number) (defScope s_thread_number) [] [] f fd)
    (X : K.In s.heap) (hlim : s.heap.NoLimit) (hroom : A.depth < recursionLimit) {v : Value} {n : Int} (hv : RowAt s.heap v n) : wpAny (model P w) A (call (.ref f) [v]) (PySem.W.KeyPure (.int n) s) (fun _ _ => False) s := by
  obtain ⟨b, t, r, rfl, ht⟩ := hv
  have hb := F.bindsN (ps := ["row"]) (fun _ _ _ _ _ _ us hl => match us, hl with | [_], _ => rfl)
  obtain ⟨_, _, _, _, _, _, _, _, _, _, rfl, lk, hcd, _, _⟩ := F.ex
  refine wpAny_call (codeAny_mono (R := fun r s' => ∃ v, r = .ok (.ret v) ∧ PySem.W.KeyPure (.int n) s v s') ?_ fun r s' ⟨v, e, h⟩ => by rw [e]; exact h)
  refine Att.call_fn X hlim lk hcd hroom (hb s [.ref b] X rfl) rfl (fun s1 I => ?_) rfl rfl rfl
  obtain ⟨h1, tk, e1⟩ := I.toInCall.same
  have kp := I.toInCall.keep
  have ns := I.toInCall.ns
  subst e1
  refine wpAny_mono (Q := fun fl s' => ∃ v, fl = .ret v ∧ PySem.W.KeyPure (.int n) s v s') (E := fun _ _ => False) ?_ (fun fl s' ⟨v, e, h⟩ => ⟨v, by rw [e], h⟩) (fun _ _ z => z.elim)
  refine wpAny_execs_cons (wpAny_Return_some ?_)
  refine wpAny_mono (Q := fun v s' => v = .int n t ∧ PySem.W.KeyPure (.int n) s v s') (E := fun _ _ => False) ?_ (fun v s' h => ⟨v, rfl, h.2⟩) (fun _ _ z => z)
  refine Subscript_ (wpAny_Name (wpAny_loadName_local rfl rfl ns rfl ?_) (by decide))
  refine wpAny_Constant_int ?_
  have it : ∀ t', IsTup ({ s with heap := h1, toks := t' } : Shared).heap b (Array.mk (.int n t :: r)) := fun _ => ht.keeps kp
  refine subscriptTail_builtinR (x := .int n t) (it _).typeIs slot_tuple_getitem.lookup (getItem_tuple (j := 0) (it _) (by decide) (by decide) ?_ rfl ⟨rfl, rfl, h1, _, rfl, kp, .int n t⟩) rfl
  simp [seqIndex?]
theorem vals_perm {us us' : List Value} (p : us'.Perm us) : ∀ {xs : List V}, Vals xs us → ∃ ys, ys.Perm xs ∧ Vals ys us' := by
  induction p with
  | nil => intro xs h; cases h; exact ⟨[], .nil, .nil⟩
  | cons a _ ih =>
    intro xs h
    cases h with
    | cons r t =>
      obtain ⟨ys, q, v⟩ := ih t
      exact ⟨_ :: ys, q.cons _, .cons r v⟩
  | swap a b l =>
    intro xs h
    cases h with
    | cons r t =>
      cases t with
      | cons r2 t => exact ⟨_ :: _ :: _, .swap _ _ _, .cons r2 (.cons r t)⟩
  | trans p1 p2 ih1 ih2 =>
    intro xs h
    obtain ⟨ys, q, v⟩ := ih2 h
    obtain ⟨zs, q2, v2⟩ := ih1 v
    exact ⟨zs, q2.trans q, v2⟩
theorem rls_perm {K : PySem.W.Frag} {H : Hp} {xs ys : List V} (p : ys.Perm xs) : ∀ {ds : List D}, Rls K H xs ds → ∃ es, es.Perm ds ∧ Rls K H ys es := by
  induction p with
  | nil => intro ds h; cases h; exact ⟨[], .nil, .nil⟩
  | cons a _ ih =>
    intro ds h
    cases h with
    | cons r t =>
      obtain ⟨es, q, v⟩ := ih t
      exact ⟨_ :: es, q.cons _, .cons r v⟩
  | swap a b l =>
    intro ds h
    cases h with
    | cons r t =>
      cases t with
      | cons r2 t => exact ⟨_ :: _ :: _, .swap _ _ _, .cons r2 (.cons r t)⟩
  | trans p1 p2 ih1 ih2 =>
    intro ds h
    obtain ⟨es, q, v⟩ := ih2 h
    obtain ⟨zs, q2, v2⟩ := ih1 v
    exact ⟨zs, q2.trans q, v2⟩
theorem each_self {l : List Value} {R : Value → Value → Prop} (h : ∀ v ∈ l, R v v) : PySem.W.EachIs R l l := by
  induction l with
  | nil => exact .nil
  | cons a l ih => exact .cons (h a (List.mem_cons_self ..)) (ih fun v hv => h v (List.mem_cons_of_mem _ hv))
theorem each_eq {l m : List Value} (h : PySem.W.EachIs (fun v x => v = x) l m) : l = m := by
  induction h with
  | nil => rfl
  | cons e _ ih => rw [e, ih]
/-- sorted(rows, key=f): the rows in another order -/
def rSortR (K : PySem.W.Frag) (f : Addr) : List V → List V → Hp → VK → Prop := fun vs zs H Q => ∃ (a : Addr) (xs : List V), vs = [V.ref a] ∧ zs = [V.ref f] ∧ Rd H a (.lst xs) ∧ (∀ x ∈ xs, ∃ b n ys, x = .ref b ∧ SqT K H b (.int n :: ys)) ∧
  ∀ (r : List V) (p : Addr), r.Perm xs → H p = none → Q (.ref p) (upd H p (.lst r))
theorem cr_sortR {X : Cx} {f : Addr} {fd : FuncData} (F : FunD X.K "thread_number" "thread_number" (defArgs s_thread_number) (defBody s_thread_number) (defScope s_thread_number) [] [] f fd) (hd : X.A.depth < recursionLimit) (hu : X.A.units + 200 < cLine) :
    CallRK X (.builtin "sorted") [Str.ofString "key"] (rSortR X.K f) := by
  intro pins s σ H
  intro vs zs us ws Q I r rz h
  obtain ⟨a, xs, rfl, rfl, hl, hrow, q⟩ := h
  obtain rfl := Vals.ref1 r
  obtain rfl := Vals.ref1 rz
  obtain ⟨z, its, n, rv, hlen, e1⟩ := lstR I hl
  have rows : ∀ v ∈ its, ∃ n, RowAt s.heap v n := by
    intro v hv
    obtain ⟨i, hi, e⟩ := List.getElem_of_mem hv
    have hix : i < xs.length := by rw [hlen]; exact hi
    have hx := List.getElem?_eq_getElem hix
    obtain ⟨w, ew, rw'⟩ := rv.get hx
    rw [List.getElem?_eq_getElem hi, e] at ew
    cases ew
    obtain ⟨b, n, ys, ex, sq⟩ := hrow _ (List.getElem_mem hix)
    rw [ex] at rw'
    cases rw'
    obtain ⟨its2, r2, pt, _⟩ := I.tuple sq
    cases r2 with
    | cons r0 rr =>
      obtain ⟨t, rfl⟩ := r0
      exact ⟨n, b, t, _, rfl, pt⟩
  let k : Value → PyData := fun v => @dite _ (∃ n, RowAt s.heap v n) (Classical.propDecidable _) (fun h => .int h.choose) (fun _ => .int 0)
  have kk : ∀ v ∈ its, ∃ n, k v = .int n ∧ RowAt s.heap v n := fun v hv => by
    have h := rows v hv
    exact ⟨h.choose, dif_pos h, h.choose_spec⟩
  have ki : ∀ d ∈ its.map k, ∃ n, d = .int n := fun d hd => by
    obtain ⟨v, hv, rfl⟩ := List.mem_map.mp hd
    obtain ⟨n, e, _⟩ := kk v hv
    exact ⟨n, e⟩
  refine PySem.W.sorted_key_data (β := Value) (bs := its) (R := fun v x => v = x) (b := false) k ⟨_, e1, rfl, n, rfl⟩ (each_self fun _ _ => rfl) (fun d hd d' hd' => ?_) (.inr fun d hd => ?_) (by rw [← hlen]; exact z) (fun x hx => ?_) (PyProof.Rows.ksk_s1 _ _) (fun _ => PyProof.Rows.ksk_l1 _ _) (fun _ => PyProof.Rows.ksk_t1 _ _)
    (fun v x hv hx h tk kp => ?_) (fun out c h' tk kp hf hD hol heach => ?_)
  · obtain ⟨n, rfl⟩ := ki d hd
    obtain ⟨m, rfl⟩ := ki d' hd'
    rfl
  · obtain ⟨n, rfl⟩ := ki d hd
    exact ⟨fun z => PyData.noConfusion z, fun _ z => PyData.noConfusion z⟩
  · obtain ⟨n, e, _⟩ := kk x hx
    rw [e]
    show X.A.units + 2 + PyData.depth (.int n) < cLine
    have : PyData.depth (.int n) ≤ 1 := by unfold PyData.depth; exact Nat.zero_le _
    omega
  · subst hv
    obtain ⟨n, e, b, t, rr, rfl, ht⟩ := kk v hx
    rw [e]
    exact row_call (A := X.A.in1.in1) F (s := { s with heap := h, toks := tk }) (I.kIn.keeps kp) (I.nolimit.keeps kp) hd ⟨b, t, rr, rfl, ht.keeps kp⟩
  · have eo := each_eq heach
    have pm : out.Perm its := by rw [eo]; exact List.mergeSort_perm _ _
    obtain ⟨ys, p1, v1⟩ := vals_perm pm rv
    exact ⟨.ref _, upd H (s.heap.objs.size + 1) (.lst ys), I.laid (t' := tk) kp (Nat.le_succ _) ⟨by rw [p1.length_eq]; exact z, _, c, v1, hD⟩, rfl, q _ _ p1 (I.hok.fresh (Nat.le_succ _))⟩
def dSorted (te : TED) : TED := fun σ M Q => te σ M fun d M1 => ∃ rows : List D, IsL M1 d rows ∧ (∀ r ∈ rows, ∃ n rs, r = .tup (.int n :: rs)) ∧ ∀ es, es.Perm rows → Q (.lst es) M1
theorem de_sorted {X : Cx} {e : Expr} {te : TED} {p kp kpos pos : Pos} (B : Bl X.K X.mg) (T : Txt X.K X.mg "thread_number" s_thread_number) {k : Nat} (hr : Room k X.A) (hg : Gl X "sorted") (hg2 : Gl X "thread_number") (he : DE X e te) (hst0 : starEach [e] X.env = (false, eval e X.env) :: starEach [] X.env := by rfl) (hst : backTo pos (starEach [e] X.env) = (false, eval e X.env) :: backTo pos (starEach [] X.env) := by rfl)
    (hpl : (backTo pos (starEach [e] X.env)).any (·.1) = false := by rfl) (hall : (backToKw pos (keywordEach [⟨some "key", .Name "thread_number" kp, kpos⟩] X.env)).all (·.1.isSome) = true := by rfl)
    (hnone : (backToKw pos (keywordEach [⟨some "key", .Name "thread_number" kp, kpos⟩] X.env)).any (·.1.isNone) = false := by rfl) (hks : (backToKw pos (keywordEach [⟨some "key", .Name "thread_number" kp, kpos⟩] X.env)).filterMap (·.1) = [Str.ofString "key"] := by rfl) :
    DE X (.Call (.Name "sorted" p) [e] [⟨some "key", .Name "thread_number" kp, kpos⟩] pos) (dSorted te) := by
  obtain ⟨f, fd, h1, F⟩ := T.ex
  have pe := pe_callBK (p := p) (pos := pos) (cr_sortR F hr.depth (hu2 hr)) hg B.sorted (by decide +kernel) (pa_cons he pa_nil hst0) (pk_cons (nm := some "key") (kpos := kpos) (pe_glob hg2 h1 (v := .ref f) rfl (by decide)) pk_nil) (by decide) (by decide) hst hpl hall hnone hks
  refine ⟨fun pins s σ H Q I ⟨σd, M, Qd, hs, hm, h, hq⟩ => ?_⟩
  refine thn (pe.run pins s σ H (NL X.K H Qd) I ⟨σd, M, _, hs, hm, h, fun u H1 ⟨d, M1, k1, rl, rm, rows, hl, hrow, q⟩ => ?_⟩) fun _ _ w => nl_end w hq
  obtain ⟨a, xs, rfl, rd, rs⟩ := hl.at rl rm
  refine ⟨a, xs, rfl, rfl, rd, fun x hx => ?_, fun ys p hp hf => ?_⟩
  · obtain ⟨i, hi, e⟩ := List.getElem_of_mem hx
    obtain ⟨d', e2, r2⟩ := rs.get' (List.getElem?_eq_getElem hi)
    rw [e] at r2
    obtain ⟨n, rr, rfl⟩ := hrow d' (List.mem_of_getElem? e2)
    cases r2 with
    | tup sq rls =>
      cases rls with
      | cons r0 rr =>
        cases r0
        exact ⟨_, _, _, rfl, sq⟩
  · obtain ⟨es, p2, r2⟩ := rls_perm hp rs
    exact ⟨p, ys, es, M1, H1, rfl, hf, rfl, k1, r2, rm, q es p2⟩
end Dl
namespace Dl
open PySem PySem.Spec PyProof.Rows L2 Mi
section
variable {X : Cx}
/-! ### isinstance, repr -/
def dIsTup (te : TED) : TED := fun σ M Q => te σ M fun d M1 => ∃ ds, d = .tup ds ∧ Q (.bl true) M1
def dIsLst (te : TED) : TED := fun σ M Q => te σ M fun d M1 => ∃ ds, IsL M1 d ds ∧ Q (.bl true) M1
theorem de_isTup {e : Expr} {te : TED} {p p2 pos : Pos} (B : Bl X.K X.mg) (hg : Gl X "isinstance") (hg2 : Gl X "tuple") (he : DE X e te) (h1 : starEach [e, .Name "tuple" p2] X.env = (false, eval e X.env) :: starEach [.Name "tuple" p2] X.env := by rfl)
    (h2 : starEach [.Name "tuple" p2] X.env = (false, eval (.Name "tuple" p2) X.env) :: starEach [] X.env := by rfl) (hpl : (backTo pos (starEach [.Name "tuple" p2] X.env)).any (·.1) = false := by rfl) :
    DE X (.Call (.Name "isinstance" p) [e, .Name "tuple" p2] [] pos) (dIsTup te) := by
  have pe := pe_callB (p := p) (pos := pos) call_isi hg B.isinstance (by decide +kernel) (pa_cons he (pa_cons (pe_bltn (pos := p2) hg2 B.tuple (v := .ty "tuple") (u := .type "tuple") (by decide +kernel) rfl (by decide) (by decide)) pa_nil h2) h1) (by decide) (by decide) h1 hpl
  refine pe.imp fun σ H Q ⟨σd, M, Qd, hs, hm, h, hq⟩ => ⟨σd, M, _, hs, hm, h, fun u H1 ⟨d, M1, k1, rl, rm, ds, ed, q⟩ => ?_⟩
  subst ed
  cases rl with
  | @tup a xs _ sq rs =>
    have ty : TyX X.K H1 (.ref a) (.type "tuple") := by
      rcases sq with (s1 | ⟨o, s1⟩) | ⟨o, its, n, s1, s2, _⟩
      · exact .base (.tup s1)
      · exact .fTuple s1
      · exact .kTuple s1 s2
    exact ⟨_, _, _, _, true, rfl, .ty "tuple", ty, kit_ty rfl, hq _ _ ⟨.bl true, M1, k1, .bl _, rm, q⟩⟩
theorem de_isLst {e : Expr} {te : TED} {p p2 pos : Pos} (B : Bl X.K X.mg) (hg : Gl X "isinstance") (hg2 : Gl X "list") (he : DE X e te) (h1 : starEach [e, .Name "list" p2] X.env = (false, eval e X.env) :: starEach [.Name "list" p2] X.env := by rfl)
    (h2 : starEach [.Name "list" p2] X.env = (false, eval (.Name "list" p2) X.env) :: starEach [] X.env := by rfl) (hpl : (backTo pos (starEach [.Name "list" p2] X.env)).any (·.1) = false := by rfl) :
    DE X (.Call (.Name "isinstance" p) [e, .Name "list" p2] [] pos) (dIsLst te) := by
  have pe := pe_callB (p := p) (pos := pos) call_isi hg B.isinstance (by decide +kernel) (pa_cons he (pa_cons (pe_bltn (pos := p2) hg2 B.list (v := .ty "list") (u := .type "list") (by decide +kernel) rfl (by decide) (by decide)) pa_nil h2) h1) (by decide) (by decide) h1 hpl
  refine pe.imp fun σ H Q ⟨σd, M, Qd, hs, hm, h, hq⟩ => ⟨σd, M, _, hs, hm, h, fun u H1 ⟨d, M1, k1, rl, rm, ds, hl, q⟩ => ?_⟩
  obtain ⟨a, xs, rfl, rd, rs⟩ := hl.at rl rm
  have ty : TyX X.K H1 (.ref a) (.type "list") := by
    rcases rd with s1 | ⟨o, s1⟩
    · exact .base (.lst s1)
    · exact .base (.frz s1)
  exact ⟨_, _, _, _, true, rfl, .ty "list", ty, kit_ty rfl, hq _ _ ⟨.bl true, M1, k1, .bl _, rm, q⟩⟩
mutual
theorem noDict : ∀ d : D, (py d).hasDict = false
  | .non => rfl
  | .bl _ => rfl
  | .int _ => rfl
  | .str _ => rfl
  | .tup ds => noDicts ds
  | .lst ds => noDicts ds
  | .ref _ => rfl
theorem noDicts : ∀ ds : List D, PyData.hasDictAll (pys ds) = false
  | [] => rfl
  | d :: ds => by
    show ((py d).hasDict || PyData.hasDictAll (pys ds)) = false
    rw [noDict d, noDicts ds]; rfl
end
/-- what is shown: pure data, a tuple or a list -/
def rRepr : RCD := fun ds M Q => match ds with
  | [d] => (∃ es, d = .tup es ∨ d = .lst es) ∧ pureD d = true ∧ (py d).showable = true ∧ (py d).depth ≤ 199 ∧ (py d).shown.length ≤ sizeLine ∧ Q (.str (py d).shown) M
  | _ => False
theorem call_repr_d (hg : X.A.guards = some []) (hu : X.A.units + 201 < cLine) : CallD X (.builtin "repr") rRepr := by
  intro pins s σ H
  intro xs us Q I r h
  obtain ⟨ds, M, Qd, rl, hm, h, hq⟩ := h
  match ds, rl, h with
  | [d], rl, h =>
    obtain ⟨v, rfl, rx⟩ := rl.one
    obtain ⟨hes, hp, hs, hd, hz, q⟩ := h
    obtain ⟨u, rfl, ru⟩ := vals1 r
    obtain ⟨as, r1⟩ := Dp.reads I (py d) v u ((dat_py d hp).dp hm (py d) d v rx) ru
    have hr : ∃ a, v = .ref a := by
      obtain ⟨es, e | e⟩ := hes
      · subst e; cases rx; exact ⟨_, rfl⟩
      · subst e; cases rx; exact ⟨_, rfl⟩
    obtain ⟨a, rfl⟩ := hr
    cases ru
    exact repr_of_reads' r1 hs (fun z => by rw [noDict d] at z; cases z) hg (by omega) (fun _ _ e => e) (fun h' w tk k => ⟨.str _, H, I.kept k, ⟨w, rfl⟩, hq _ _ ⟨.str _, M, .refl, .str _, hm, q⟩⟩) hz
  | [], _, h => exact h.elim
  | _ :: _ :: _, _, h => exact h.elim
end
mutual
theorem eqv_self : ∀ d : D, PyData.eqv (py d) (py d) = true
  | .non => rfl
  | .bl b => by simp [py, PyData.eqv]
  | .int i => by simp [py, PyData.eqv]
  | .str x => by simp [py, PyData.eqv]
  | .tup ds => by simp only [py, PyData.eqv]; exact eqvs_self ds
  | .lst ds => by simp only [py, PyData.eqv]; exact eqvs_self ds
  | .ref _ => rfl
theorem eqvs_self : ∀ ds : List D, PyData.eqvAll (pys ds) (pys ds) = true
  | [] => rfl
  | d :: ds => by simp only [pys, PyData.eqvAll, eqv_self d, eqvs_self ds, Bool.and_self]
end
end Dl
namespace Dl
open PySem PySem.Spec PyProof.Rows L2 Mi
/-- the script: data, or a list of the written part -/
def IsScr (K : PySem.W.Frag) (x : D) (ns : List Int) : Prop := x = .lst (ns.map D.int) ∨ ∃ a, x = .ref a ∧ ∀ H : Hp, SqL K H a (ns.map V.int)
theorem ints_rls {K : PySem.W.Frag} {H : Hp} : ∀ ns : List Int, Rls K H (ns.map V.int) (ns.map D.int)
  | [] => .nil
  | n :: r => .cons (.int n) (ints_rls r)
section
variable {X : Cx}
def dIS (K : PySem.W.Frag) (te : TED) : TID := fun σ M R => te σ M fun x M1 => ∃ ns, IsScr K x ns ∧ R (ns.map D.int) (fun _ => True) M1
theorem di_scr {tg l : Expr} {te : TED} (hl : DE X l te) : DI X tg l (dIS X.K te) :=
  (pi_list hl).imp fun σ H R ⟨σd, M, Rd, hs, hm, h, hR⟩ => ⟨σd, M, _, hs, hm, h, fun u H' ⟨d, M', k, rl, rm, ns, hi, q⟩ => by
    rcases hi with rfl | ⟨a, rfl, sq⟩
    · cases rl with
      | @lst a o xs ds e rs => exact ⟨a, rfl, ⟨xs, .inl (.inr ⟨o, e⟩)⟩, hR _ _ ⟨_, _, M', k, rm, walkD_lst e rs, q⟩⟩
    · cases rl
      have rs : ∀ {H2 : Hp}, Rls X.K H2 (ns.map V.int) (ns.map D.int) := fun {H2} => ints_rls ns
      refine ⟨a, rfl, ⟨_, sq _⟩, hR _ _ ⟨_, _, M', k, rm, ⟨fun i H2 M2 hi k2 _ _ => ⟨_, (ns.map V.int)[i]'(by rw [(rs (H2 := H2)).length]; exact hi), sq _, by simp⟩, fun H2 M2 k2 _ _ => ⟨_, sq _, by rw [(rs (H2 := H2)).length]; exact Nat.le_refl _⟩, fun i H1 M2 x H2 hi k2 rm2 _ y => ?_⟩, q⟩⟩
      obtain ⟨d, h1, h2⟩ := (rs (H2 := H2)).get' (y.2 _ (sq _))
      rw [y.1] at h2 ⊢
      exact ⟨d, h1, .refl, rm2, h2⟩⟩
end
end Dl
namespace Dl
open PySem PySem.Spec PyProof.Rows L2 Mi
/-- a comprehension by an invariant: its items may change the heap -/
theorem lc_inv {g : TGD} {tt : TTD} {te : TED} {G : Mh → Prop} {p : Addr} {σ : Sd} {F : List D → Mh → Prop} {ds : List D} (Pv : Nat → List D → Mh → Prop) (hG : ∀ i acc M, Pv i acc M → G M)
    (hs : ∀ i d acc M (Ky : KD) (Kn : Mh → Prop), ds[i]? = some d → Pv i acc M → (∀ y M4, M4 p = some (.lst acc) → acc.length < sizeLine → Pv (i + 1) (acc ++ [y]) (mupd M4 p (.lst (acc ++ [y]))) → Ky y M4) → (∀ M4, Pv (i + 1) acc M4 → Kn M4) →
      g d σ M fun σ2 M2 => tt σ2 M2 fun b M3 => if b = true then te σ2 M3 Ky else Kn M3)
    (hF : ∀ acc M, Pv ds.length acc M → M p = some (.lst acc) ∧ F acc M) {M : Mh} (h0 : Pv 0 [] M) : lcD g tt te G p σ F ds M := by
  have go : ∀ (n i : Nat) (acc : List D) (M : Mh), n + i = ds.length → Pv i acc M → lcD g tt te G p σ F (ds.drop i) M := by
    intro n
    induction n with
    | zero =>
      intro i acc M hi h
      have e : i = ds.length := by omega
      subst e
      rw [List.drop_length]
      obtain ⟨a, b⟩ := hF acc M h
      exact ⟨hG _ _ _ h, acc, a, b⟩
    | succ n ih =>
      intro i acc M hi h
      have hlt : i < ds.length := by omega
      rw [List.drop_eq_getElem_cons hlt]
      refine ⟨hG _ _ _ h, hs i _ acc M _ _ (List.getElem?_eq_getElem hlt) h (fun y M4 e hz h4 => ⟨acc, e, hz, ih (i + 1) _ _ (by omega) h4⟩) fun M4 h4 => ih (i + 1) acc M4 (by omega) h4⟩
  have := go ds.length 0 [] M (by omega) h0
  rwa [List.drop_zero] at this
end Dl
namespace Dl
open PySem PySem.Spec PyProof.Rows L2 Mi
/-- over a list, frozen or not -/
def dIU (te : TED) : TID := fun σ M R => te σ M fun x M1 => ∃ ds, IsL M1 x ds ∧ R ds (fun M' => IsL M' x ds) M1
theorem di_any {X : Cx} {tg l : Expr} {te : TED} (hl : DE X l te) : DI X tg l (dIU te) :=
  (pi_list hl).imp fun σ H R ⟨σd, M, Rd, hs, hm, h, hR⟩ => ⟨σd, M, _, hs, hm, h, fun u H' ⟨d, M', k, rl, rm, q⟩ => by
    obtain ⟨ds, il, q⟩ := q
    cases il with
    | lst =>
      have eG : (fun M2 => IsL M2 (.lst ds) ds) = fun _ => True := funext fun _ => propext ⟨fun _ => trivial, fun _ => .lst⟩
      rw [eG] at q
      cases rl with
      | @lst a o xs ds e rs => exact ⟨a, rfl, ⟨xs, .inl (.inr ⟨o, e⟩)⟩, hR _ _ ⟨ds, _, M', k, rm, walkD_lst e rs, q⟩⟩
    | @ref a _ g =>
      cases rl with
      | ref =>
        have eG : (fun M2 => IsL M2 (.ref a) ds) = fun M2 => M2 a = some (.lst ds) := funext fun _ => propext ⟨fun h => by cases h; assumption, .ref⟩
        rw [eG] at q
        obtain ⟨xs, e, rs⟩ := rm.lst g
        exact ⟨a, rfl, ⟨xs, .of e⟩, hR _ _ ⟨ds, _, M', k, rm, walkD_ref, q⟩⟩⟩
theorem pps_end {X : Cx} {pos : Pos} : PPs X pos [] [] (([] : List (Str × TED)).map fun p => (tC (.str p.1), lft X.K p.2)) := pps_nil
end Dl
namespace Dl
open PySem PySem.Spec PyProof.Rows L2 Mi
local macro_rules | `(tactic| walk_at "dl") => `(tactic| simp only [dRet, dOp, dSl, dV, dNoP, dPart, dLst, dLstM, dCons, dNil, dC, startD, rAdd, rAddM, rIx, rEq, rNe, rII, rII0, rIB0, rMul, rIsN, rNotN, isNon, dNeg, dTest, dAnd, dOr, dNot, dAndV, dOrV, dNotV, dIf, dTup, dFrz, dCB, rLen, rInt1, rAbs1, rMin2, rAll1, dBM, rApp, rExt, rPop0,
  dGet, dPut, dNext, dSeq, dDrop, dIfS, dName, dgNil, dgCons, dgTup, dAsg, dSub, rSet, dPar, dIL, dIT, dIR, dIE, dIZ, dFor, dYes, dCall, dLc, dLcM, dLcF, dPair, dGetT, dInT, dPutT, dNewT, wipeD,
  natsD, isL_lst, isL_ref, seqIn_tup, seqIn_lst, rIn, flatD, eqD, List.all_cons, List.all_nil, List.any_cons, List.any_nil, sizeLine_eq, Nat.reduceLeDiff, Nat.reduceLT, Bool.or_false, Bool.and_true, Bool.true_and, Bool.false_and, Bool.false_or, Bool.or_true, Bool.true_or, Bool.and_false, tupAt, optE, endsOf,
  List.map_cons, List.map_nil, List.length_cons, List.length_nil, List.cons_append, List.nil_append, List.append_nil, List.getElem?_cons_zero, List.getElem?_cons_succ, List.getElem?_nil, List.set_cons_zero, List.set_cons_succ, List.replicate_succ, List.replicate_zero, List.length_append, List.replicate,
  of_sE, String.reduceEq, decide_true, decide_false, Bool.false_eq_true, Bool.not_true, Bool.not_false, reduceIte, exists_eq_left, exists_eq_left', true_and, and_true, if_true, if_false, ite_true, ite_false, Nat.reduceAdd, Nat.reduceSub, Nat.reduceBEq, BEq.rfl, beq_self_eq_true, D.ref.injEq, D.int.injEq, D.str.injEq, D.lst.injEq, D.tup.injEq, List.cons.injEq, exists_and_left, exists_const, and_self])
local macro_rules | `(tactic| walk_at "s0") => `(tactic| (dsimp only [startD, List.length_cons, List.length_nil, List.map_cons, List.map_nil, List.cons_append, List.nil_append, Nat.reduceAdd, Nat.reduceSub, List.replicate_succ, List.replicate_zero]))
local macro_rules | `(tactic| walk_at "st") => `(tactic| ((conv => whnf); (try dsimp only [List.set_cons_zero, List.set_cons_succ]); repeat ((refine ⟨Nat.le_of_ble_eq_true rfl, ?_⟩); (conv => whnf); (try dsimp only [List.set_cons_zero, List.set_cons_succ]))))

section
variable {P : Program} {K : PySem.W.Frag} {mg : Str → Option Value} {w : World} {base : Heap}
theorem cut_lo (ds : List D) (k : Nat) : cutD ds none (some (k : Int)) = ds.take k := by
  unfold cutD
  rw [HT.sIx_none, HT.sIx_nat, List.drop_zero, Nat.sub_zero, List.take_eq_take_iff]
  omega
theorem cut_hi (ds : List D) (k : Nat) : cutD ds (some (k : Int)) none = ds.drop k := by
  unfold cutD
  rw [HT.sIx_none, HT.sIx_nat]
  by_cases h : k ≤ ds.length
  · rw [Nat.min_eq_left h, List.take_of_length_le (by rw [List.length_drop]; omega)]
  · rw [Nat.min_eq_right (by omega), List.drop_eq_nil_of_le (Nat.le_refl _), List.drop_eq_nil_of_le (by omega)]; simp
theorem take_set {ds : List D} {k : Nat} {x : D} (h : k < ds.length) : ds.take k ++ [x] ++ ds.drop (k + 1) = ds.set k x := by
  rw [List.set_eq_take_append_cons_drop, if_pos h, List.append_assoc]; rfl
theorem nat1 (k : Nat) : ((k : Int) + 1) = ((k + 1 : Nat) : Int) := rfl
/-- a list with another item -/
def spWith : SpD := sp3 fun r i x M Q => ∃ ds k, r = .lst ds ∧ i = N k ∧ k < ds.length ∧ ds.length ≤ 1000000 ∧ Q (.lst (ds.set k x)) M
theorem with_read {Q : KD} {M : Mh} {ds : List D} {k : Nat} {x : D} (hk : k < ds.length) (hz : ds.length ≤ 1000000) (h : Q (.lst (ds.set k x)) M) : (cutD ds none (some (k : Int))).length ≤ 16777215 ∧
    (cutD ds none (some (k : Int))).length + 1 + (cutD ds (some ((k : Int) + 1)) none).length ≤ 16777216 ∧ rtOf Q (.lst (cutD ds none (some (k : Int)) ++ [x] ++ cutD ds (some ((k : Int) + 1)) none)) M := by
  rw [nat1, cut_lo, cut_hi, take_set hk]
  refine ⟨?_, ?_, rt_same h⟩
  · rw [List.length_take]; omega
  · rw [List.length_take, List.length_drop]; omega
abbrev n_with_item : List Str := ["rows", "index", "item"]
theorem sc_with_item : FnScope n_with_item ["rows", "index", "item"] (defScope s_with_item) := ⟨rfl, rfl, rfl, by decide +kernel, rfl, by decide +kernel, by decide +kernel⟩
/-- with_item; slots 0 rows, 1 index, 2 item; cells []; calls [] -/
theorem ok_with_item (T : Txt K mg "with_item" s_with_item) : Have P w K mg base "with_item" ["rows", "index", "item"] 1 spWith := by
  refine have_of T sc_with_item (fun _ _ _ _ _ _ us hl => match us, hl with | [_, _, _], _ => rfl) len3 fun cdv f A outer s H E hr => ⟨_, (dss_one (ds_ret (de_op op_add_d (de_op op_add_d (de_slice (dv 0) do_none (do_some (dv 1))) (de_lst (da_cons (dv 2) da_nil))) (de_slice (dv 0) (do_some (de_op op_add_d (dv 1) de_int)) do_none)))), ?_⟩
  rintro _ M Q ⟨_, _, x, rfl, ds, k, rfl, rfl, hk, hz, h⟩
  walk_at "dl"
  exact with_read hk hz h
abbrev n_with_cell : List Str := ["cells", "cell", "word"]
theorem sc_with_cell : FnScope n_with_cell ["cells", "cell", "word"] (defScope s_with_cell) := ⟨rfl, rfl, rfl, by decide +kernel, rfl, by decide +kernel, by decide +kernel⟩
/-- with_cell; slots 0 cells, 1 cell, 2 word; cells []; calls [] -/
theorem ok_with_cell (T : Txt K mg "with_cell" s_with_cell) : Have P w K mg base "with_cell" ["cells", "cell", "word"] 1 spWith := by
  refine have_of T sc_with_cell (fun _ _ _ _ _ _ us hl => match us, hl with | [_, _, _], _ => rfl) len3 fun cdv f A outer s H E hr => ⟨_, (dss_one (ds_ret (de_op op_add_d (de_op op_add_d (de_slice (dv 0) do_none (do_some (dv 1))) (de_lst (da_cons (dv 2) da_nil))) (de_slice (dv 0) (do_some (de_op op_add_d (dv 1) de_int)) do_none)))), ?_⟩
  rintro _ M Q ⟨_, _, x, rfl, ds, k, rfl, rfl, hk, hz, h⟩
  walk_at "dl"
  exact with_read hk hz h
theorem iteP {c A B : Prop} [Decidable c] (h1 : c → A) (h2 : ¬ c → B) : if decide c = true then A else B := by
  by_cases h : c
  · rw [decide_eq_true h, if_pos rfl]; exact h1 h
  · rw [decide_eq_false h, if_neg Bool.false_ne_true]; exact h2 h
theorem iteN {c A B : Prop} [Decidable c] (h1 : ¬ c → A) (h2 : c → B) : if (!decide c) = true then A else B := by
  by_cases h : c
  · rw [decide_eq_true h, Bool.not_true, if_neg Bool.false_ne_true]; exact h2 h
  · rw [decide_eq_false h, Bool.not_false, if_pos rfl]; exact h1 h
theorem mask16 (x : Int) : Builtin.bitAnd x (65536 - 1) = x % 65536 := by
  exact PySem.W.kbt_mask x 16
theorem cmul16 {i j : Int} (h1 : 0 ≤ i) (h2 : i < 65536) : CMul i j := .inl ⟨by omega, by omega⟩
def spCalc : SpD := sp3 fun o x y M Q => ∃ (b : Bop) (i j : Nat), o = S b.nm ∧ x = N i ∧ y = N j ∧ i < 65536 ∧ j < 65536 ∧ Q (optN (clc b i j)) M
abbrev n_calculate : List Str := ["operator", "a", "b"]
theorem sc_calculate : FnScope n_calculate ["operator", "a", "b"] (defScope s_calculate) := ⟨rfl, rfl, rfl, by decide +kernel, rfl, by decide +kernel, by decide +kernel⟩
/-- calculate; slots 0 operator, 1 a, 2 b; cells []; calls [] -/
theorem ok_calculate (B : Bl K mg) (T : Txt K mg "calculate" s_calculate) : Have P w K mg base "calculate" ["operator", "a", "b"] 1 spCalc := by
  refine have_of T sc_calculate (fun _ _ _ _ _ _ us hl => match us, hl with | [_, _, _], _ => rfl) len3 fun cdv f A outer s H E hr => ⟨_, (dss_cons (ds_if (dt_cmp op_in_d (dv 0) (de_tup (da_cons de_str (da_cons de_str da_nil))) rfl) (dss_cons (ds_if (dt_cmp (op_eq_d (hu2 hr)) (dv 2) de_int (nomark _)) (dss_one (ds_ret de_non)) dss_nil)
    (dss_one (ds_ret (de_ifExp (dt_cmp (op_eq_d (hu2 hr)) (dv 0) de_str (nomark _)) (de_op op_fdiv_d (dv 1) (dv 2)) (de_op op_sub_d (dv 1) (de_op op_mul_d (de_op op_fdiv_d (dv 1) (dv 2)) (dv 2))))))) dss_nil)
    (dss_cons (ds_if (dt_cmp (op_eq_d (hu2 hr)) (dv 0) de_str (nomark _)) (dss_one (ds_ret (de_op op_and_d (de_op op_add_d (dv 1) (dv 2)) (de_op op_sub_d (de_words B rfl) de_int)))) dss_nil)
    (dss_cons (ds_if (dt_cmp (op_eq_d (hu2 hr)) (dv 0) de_str (nomark _)) (dss_one (ds_ret (de_op op_and_d (de_op op_sub_d (dv 1) (dv 2)) (de_op op_sub_d (de_words B rfl) de_int)))) dss_nil)
    (dss_cons (ds_if (dt_cmp (op_eq_d (hu2 hr)) (dv 0) de_str (nomark _)) (dss_one (ds_ret (de_op op_and_d (de_op op_mul_d (dv 1) (dv 2)) (de_op op_sub_d (de_words B rfl) de_int)))) dss_nil)
    (dss_cons (ds_if (dt_cmp (op_eq_d (hu2 hr)) (dv 0) de_str (nomark _)) (dss_one (ds_ret (de_ifExp (dt_w (dw_and (dt_cmp (op_ne_d (hu2 hr)) (dv 1) de_int (nomark _)) (dw_and1 (dt_cmp (op_ne_d (hu2 hr)) (dv 2) de_int (nomark _))))) de_int de_int))) dss_nil)
    (dss_cons (ds_if (dt_cmp (op_eq_d (hu2 hr)) (dv 0) de_str (nomark _)) (dss_one (ds_ret (de_ifExp (dt_w (dw_or (dt_cmp (op_ne_d (hu2 hr)) (dv 1) de_int (nomark _)) (dw_or1 (dt_cmp (op_ne_d (hu2 hr)) (dv 2) de_int (nomark _))))) de_int de_int))) dss_nil)
    (dss_cons (ds_if (dt_cmp (op_eq_d (hu2 hr)) (dv 0) de_str (nomark _)) (dss_one (ds_ret (de_ifExp (dt_cmp (op_eq_d (hu2 hr)) (dv 1) (dv 2) (nomark _)) de_int de_int))) dss_nil)
    (dss_cons (ds_if (dt_cmp (op_eq_d (hu2 hr)) (dv 0) de_str (nomark _)) (dss_one (ds_ret (de_ifExp (dt_cmp (op_ne_d (hu2 hr)) (dv 1) (dv 2) (nomark _)) de_int de_int))) dss_nil)
    (dss_cons (ds_if (dt_cmp (op_eq_d (hu2 hr)) (dv 0) de_str (nomark _)) (dss_one (ds_ret (de_ifExp (dt_cmp op_lt_d (dv 1) (dv 2) (nomark _)) de_int de_int))) dss_nil)
    (dss_one (ds_ret (de_ifExp (dt_cmp op_le_d (dv 1) (dv 2) (nomark _)) de_int de_int)))))))))))), ?_⟩
  rintro _ M Q ⟨_, _, _, rfl, b, i, j, rfl, rfl, rfl, hi, hj, h⟩
  have go : ∀ {d : D} {n : Nat}, Q (.int (n : Nat)) M → d = .int (n : Nat) → rtOf Q d M := fun q e => by rw [e]; exact rt_same q
  have gi : ∀ {x : Int} {n : Nat}, x = (n : Int) → (D.int x = D.int (n : Nat)) := fun e => by rw [e]
  cases b <;> simp only [Bop.nm, clc] at h ⊢ <;> walk_at "dl"
  case add => exact go h (gi (by rw [mask16]; omega))
  case sub => exact go h (gi (by rw [mask16]; omega))
  case mul =>
    refine ⟨cmul16 (by omega) (by omega), go h (gi ?_)⟩
    rw [mask16, Int.natCast_emod, Int.natCast_mul]; rfl
  case div =>
    refine iteP (fun c => ?_) (fun c => ?_)
    · rw [if_pos (by omega)] at h
      exact rt_same h
    · rw [if_neg (by omega)] at h
      refine ⟨⟨c, by omega⟩, go h (gi ?_)⟩
      rw [Int.fdiv_eq_ediv_of_nonneg _ (by omega), Int.natCast_ediv]
  case mod =>
    refine iteP (fun c => ?_) (fun c => ?_)
    · rw [if_pos (by omega)] at h
      exact rt_same h
    · rw [if_neg (by omega)] at h
      have e : ((i : Int).fdiv (j : Int)) = ((i / j : Nat) : Int) := by rw [Int.fdiv_eq_ediv_of_nonneg _ (by omega), Int.natCast_ediv]
      have hle := Nat.div_le_self i j
      refine ⟨⟨c, by omega⟩, by rw [e]; exact cmul16 (Int.natCast_nonneg _) (Int.ofNat_lt.mpr (Nat.lt_of_le_of_lt hle hi)), go h (gi ?_)⟩
      rw [e]
      have e2 : i % j + i / j * j = i := by rw [Nat.mul_comm]; exact Nat.mod_add_div i j
      have e3 : ((i / j : Nat) : Int) * (j : Int) = ((i / j * j : Nat) : Int) := by rw [Int.natCast_mul]
      rw [e3]
      omega
  all_goals
    first
      | (refine iteN (fun c => iteN (fun c2 => ?_) (fun c2 => ?_)) (fun c => ?_))
      | (refine iteN (fun c => ?_) (fun c => iteN (fun c2 => ?_) (fun c2 => ?_)))
      | (refine iteN (fun c => ?_) (fun c => ?_))
      | (refine iteP (fun c => ?_) (fun c => ?_))
  all_goals
    first
      | (rw [if_pos (by omega)] at h; exact rt_same h)
      | (rw [if_neg (by omega)] at h; exact rt_same h)
/-- what the two of words.py answer: value below depth d, place up to it -/
def spVal (d : Nat) : SpD := sp2 fun e c M Q => ∃ (x : Exp) (cs : List Nat) (n : Nat), e = x.d ∧ c = natsD cs ∧ x.ok n ∧ Cells n cs ∧ x.dep < d ∧ Q (optN (val cs x)) M
def spPlc (d : Nat) : SpD := sp2 fun e c M Q => ∃ (x : Exp) (cs : List Nat) (n : Nat), e = x.d ∧ c = natsD cs ∧ x.tgt = true ∧ x.ok n ∧ Cells n cs ∧ x.dep < d ∧ Q (optN (plc cs x)) M
theorem natsD_get {cs : List Nat} {k x : Nat} (h : cs[k]? = some x) : atI (cs.map N) (k : Int) = some (N x) := atI_nat (by rw [List.getElem?_map, h]; rfl)
abbrev n_place : List Str := ["target", "cells", "_", "first", "size", "e", "index"]
theorem sc_place : FnScope n_place ["target", "cells"] (defScope s_place) := ⟨rfl, rfl, rfl, by decide +kernel, rfl, by decide +kernel, by decide +kernel⟩
/-- place; slots 0 target, 1 cells, 2 _, 3 first, 4 size, 5 e, 6 index; cells []; calls ['value'] -/
theorem ok_place (B : Bl K mg) (T : Txt K mg "place" s_place) {k d : Nat} (c_value : Have P w K mg base "value" ["e", "cells"] k (spVal d)) : Have P w K mg base "place" ["target", "cells"] (k + 1) (spPlc (d + 1)) := by
  refine have_of T sc_place (fun _ _ _ _ _ _ us hl => match us, hl with | [_, _], _ => rfl) len2 fun cdv f A outer s H E hr => ⟨_, (dss_cons (ds_if (dt_cmp (op_eq_d (hu2 hr)) (de_ix (dv 0) de_int) de_str (nomark _)) (dss_one (ds_ret (de_ix (dv 0) de_int))) dss_nil)
    (dss_cons (ds_asg (vs := [2, 3, 4, 5]) (dv 0) (dg_tup (n := 4) rfl (dgs_cons (dg_name (i := 2) (by decide) sc_place.nd rfl (Or.inl rfl)) (dgs_cons (dg_name (i := 3) (by decide) sc_place.nd rfl (Or.inl rfl)) (dgs_cons (dg_name (i := 4) (by decide) sc_place.nd rfl (Or.inl rfl)) (dgs_cons (dg_name (i := 5) (by decide) sc_place.nd rfl (Or.inl rfl)) dgs_nil))))))
    (dss_cons (ds_set (i := 6) sc_place.nd rfl (Or.inl rfl) (de_callH c_value (hr.mono (by omega)) rfl (da_cons (dv 5) (da_cons (dv 1) da_nil))))
    (dss_one (ds_ret (de_ifExp (dt_w (dw_or (dt_cmp op_isN_d (dv 6) de_non (nomark _)) (dw_or1 (dt_cmp op_ge_d (dv 6) (dv 4) (nomark _))))) de_non (de_op op_add_d (dv 3) (dv 6)))))))), ?_⟩
  rintro _ M Q ⟨_, _, rfl, x, cs, n, rfl, rfl, ht, hok, C, hd, h⟩
  cases x with
  | cell k =>
    simp only [Exp.d, plc, optN] at h ⊢
    walk_at "dl"
    exact rt_same h
  | idx f s e =>
    simp only [Exp.d, plc] at h ⊢
    walk_at "dl"
    refine ⟨_, _, rfl, e, cs, n, rfl, rfl, hok.2, C, Nat.lt_of_succ_lt_succ hd, ?_⟩
    cases hv : val cs e with
    | none =>
      rw [hv] at h
      simp only [optN, if_true] at h ⊢
      exact rt_same h
    | some i =>
      rw [hv] at h
      simp only [optN, Bool.false_eq_true, if_false] at h ⊢
      refine iteP (fun c => ?_) (fun c => ?_)
      · rw [if_neg (by omega)] at h
        exact rt_same h
      · rw [if_pos (by omega)] at h
        exact rt_same h
  | _ => simp [Exp.tgt] at ht
abbrev n_value : List Str := ["e", "cells", "cell", "a", "b"]
theorem sc_value : FnScope n_value ["e", "cells"] (defScope s_value) := ⟨rfl, rfl, rfl, by decide +kernel, rfl, by decide +kernel, by decide +kernel⟩
/-- value; slots 0 e, 1 cells, 2 cell, 3 a, 4 b; cells []; calls ['calculate', 'value', 'place'] -/
theorem ok_value (B : Bl K mg) (T : Txt K mg "value" s_value) {k d : Nat} (c_calculate : Have P w K mg base "calculate" ["operator", "a", "b"] 1 spCalc) (c_place : Have P w K mg base "place" ["target", "cells"] k (spPlc (d + 1)))
    (c_value : Have P w K mg base "value" ["e", "cells"] k (spVal d)) (hk : 1 ≤ k) : Have P w K mg base "value" ["e", "cells"] (k + 1) (spVal (d + 1)) := by
  refine have_of T sc_value (fun _ _ _ _ _ _ us hl => match us, hl with | [_, _], _ => rfl) len2 fun cdv f A outer s H E hr => ⟨_, (dss_cons (ds_if (dt_cmp (op_eq_d (hu2 hr)) (de_ix (dv 0) de_int) de_str (nomark _)) (dss_one (ds_ret (de_ix (dv 0) de_int))) dss_nil)
    (dss_cons (ds_if (dt_cmp op_in_d (de_ix (dv 0) de_int) (de_tup (da_cons de_str (da_cons de_str da_nil))) rfl) (dss_cons (ds_set (i := 2) sc_value.nd rfl (Or.inl rfl) (de_callH c_place (hr.mono (by omega)) rfl (da_cons (dv 0) (da_cons (dv 1) da_nil))))
    (dss_one (ds_ret (de_ifExp (dt_cmp op_isN_d (dv 2) de_non (nomark _)) de_non (de_ix (dv 1) (dv 2)))))) dss_nil)
    (dss_cons (ds_set (i := 3) sc_value.nd rfl (Or.inl rfl) (de_callH c_value (hr.mono (by omega)) rfl (da_cons (de_ix (dv 0) de_int) (da_cons (dv 1) da_nil))))
    (dss_cons (ds_if (dt_cmp (op_eq_d (hu2 hr)) (de_ix (dv 0) de_int) de_str (nomark _)) (dss_one (ds_ret (de_ifExp (dt_cmp op_isN_d (dv 3) de_non (nomark _)) de_non (de_op op_and_d (de_op op_sub_d de_int (dv 3)) (de_op op_sub_d (de_words B rfl) de_int))))) dss_nil)
    (dss_cons (ds_if (dt_cmp (op_eq_d (hu2 hr)) (de_ix (dv 0) de_int) de_str (nomark _)) (dss_one (ds_ret (de_ifExp (dt_cmp op_isN_d (dv 3) de_non (nomark _)) de_non (de_ifExp (dt_cmp (op_eq_d (hu2 hr)) (dv 3) de_int (nomark _)) de_int de_int)))) dss_nil)
    (dss_cons (ds_set (i := 4) sc_value.nd rfl (Or.inl rfl) (de_callH c_value (hr.mono (by omega)) rfl (da_cons (de_ix (dv 0) de_int) (da_cons (dv 1) da_nil))))
    (dss_one (ds_ret (de_ifExp (dt_w (dw_or (dt_cmp op_isN_d (dv 3) de_non (nomark _)) (dw_or1 (dt_cmp op_isN_d (dv 4) de_non (nomark _))))) de_non (de_callH c_calculate (hr.mono (by omega)) rfl (da_cons (de_ix (dv 0) de_int) (da_cons (dv 3) (da_cons (dv 4) da_nil))))))))))))), ?_⟩
  rintro _ M Q ⟨_, _, rfl, x, cs, n, rfl, rfl, hok, C, hd, h⟩
  have tgts : x.tgt = true → rtOf Q (optN (val cs x)) M := fun ht => rt_same h
  cases x with
  | num m =>
    simp only [Exp.d, val, optN] at h ⊢
    walk_at "dl"
    exact rt_same h
  | cell k =>
    simp only [Exp.d] at h ⊢
    walk_at "dl"
    refine ⟨_, _, rfl, .cell k, cs, n, rfl, rfl, rfl, hok, C, hd, ?_⟩
    have hl : k < cs.length := by rw [C.len]; exact hok
    simp only [val, List.getElem?_eq_getElem hl, optN] at h
    simp only [plc, optN, Bool.false_eq_true, if_false]
    exact ⟨_, natsD_get (List.getElem?_eq_getElem hl), rt_same h⟩
  | idx f s e =>
    simp only [Exp.d] at h ⊢
    walk_at "dl"
    refine ⟨_, _, rfl, .idx f s e, cs, n, rfl, rfl, rfl, hok, C, hd, ?_⟩
    rw [val_plc C.len rfl hok] at h
    cases hp : plc cs (.idx f s e) with
    | none =>
      rw [hp] at h
      simp only [optN, if_true] at h ⊢
      exact rt_same h
    | some k =>
      have hl : k < cs.length := by rw [C.len]; exact plc_lt hok hp
      rw [hp] at h
      simp only [List.getElem?_eq_getElem hl, optN, Bool.false_eq_true, if_false] at h ⊢
      exact ⟨_, natsD_get (List.getElem?_eq_getElem hl), rt_same h⟩
  | neg a =>
    simp only [Exp.d, val] at h ⊢
    walk_at "dl"
    refine ⟨_, _, rfl, a, cs, n, rfl, rfl, hok, C, Nat.lt_of_succ_lt_succ hd, ?_⟩
    cases hv : val cs a with
    | none =>
      rw [hv] at h
      simp only [optN, if_true] at h ⊢
      exact rt_same h
    | some i =>
      have hi := val_lt (e := a) C hok hv
      rw [hv] at h
      simp only [optN, Bool.false_eq_true, if_false] at h ⊢
      rw [mask16]
      have e : ((0 : Int) - (i : Int)) % 65536 = (((65536 - i) % 65536 : Nat) : Int) := by omega
      rw [e]
      exact rt_same h
  | not a =>
    simp only [Exp.d, val] at h ⊢
    walk_at "dl"
    refine ⟨_, _, rfl, a, cs, n, rfl, rfl, hok, C, Nat.lt_of_succ_lt_succ hd, ?_⟩
    cases hv : val cs a with
    | none =>
      rw [hv] at h
      simp only [optN, if_true] at h ⊢
      exact rt_same h
    | some i =>
      rw [hv] at h
      simp only [optN, Bool.false_eq_true, if_false] at h ⊢
      refine iteP (fun c => ?_) (fun c => ?_)
      · rw [if_pos (by omega)] at h; exact rt_same h
      · rw [if_neg (by omega)] at h; exact rt_same h
  | bin o a b =>
    simp only [Exp.d, val] at h ⊢
    have f1 : decide (o.nm = "num") = false := by cases o <;> rfl
    have f2 : decide (o.nm = "cell") = false := by cases o <;> rfl
    have f3 : decide (o.nm = "at") = false := by cases o <;> rfl
    have f4 : decide (o.nm = "neg") = false := by cases o <;> rfl
    have f5 : decide (o.nm = "not") = false := by cases o <;> rfl
    have g2 : decide ("cell" = o.nm) = false := by cases o <;> rfl
    have g3 : decide ("at" = o.nm) = false := by cases o <;> rfl
    have hd2 : max a.dep b.dep < d := Nat.lt_of_succ_lt_succ hd
    walk_at "dl"
    simp only [f1, f2, f3, f4, f5, g2, g3, Bool.false_eq_true, if_false]
    refine ⟨_, _, rfl, a, cs, n, rfl, rfl, hok.1, C, by omega, ?_⟩
    simp only [f1, f2, f3, f4, f5, g2, g3, Bool.false_eq_true, if_false]
    refine ⟨_, _, rfl, b, cs, n, rfl, rfl, hok.2, C, by omega, ?_⟩
    cases hv : val cs a with
    | none =>
      rw [hv] at h
      simp only [optN, if_true] at h ⊢
      exact rt_same h
    | some i =>
      rw [hv] at h
      cases hw : val cs b with
      | none =>
        rw [hw] at h
        simp only [optN, Bool.false_eq_true, if_false, if_true] at h ⊢
        exact rt_same h
      | some j =>
        rw [hw] at h
        simp only [optN, Bool.false_eq_true, if_false] at h ⊢
        exact ⟨_, _, _, rfl, o, i, j, rfl, rfl, rfl, val_lt C hok.1 hv, val_lt C hok.2 hw, rt_same h⟩
/-- both, at every depth -/
theorem words_ok (B : Bl K mg) (T1 : Txt K mg "calculate" s_calculate) (T2 : Txt K mg "place" s_place) (T3 : Txt K mg "value" s_value) :
    ∀ d, Have P w K mg base "value" ["e", "cells"] (2 * d + 1) (spVal d) ∧ Have P w K mg base "place" ["target", "cells"] (2 * d + 2) (spPlc (d + 1))
  | 0 => by
    have v0 : Have P w K mg base "value" ["e", "cells"] 1 (spVal 0) := (have_none T3 (fun _ _ _ _ _ _ us hl => match us, hl with | [_, _], _ => rfl) fun ds M Q ⟨_, _, _, x, _, _, _, _, _, _, h, _⟩ => absurd h (Nat.not_lt_zero _)).mono (Nat.zero_le _)
    exact ⟨v0, ok_place B T2 v0⟩
  | d + 1 => by
    obtain ⟨v, p⟩ := words_ok B T1 T2 T3 d
    have v1 : Have P w K mg base "value" ["e", "cells"] (2 * d + 3) (spVal (d + 1)) := ok_value B T3 (ok_calculate B T1) p (v.mono (by omega)) (by omega)
    exact ⟨v1, ok_place B T2 v1⟩
end
end Dl
namespace Dl
open PySem PySem.Spec PyProof.Rows L2 Mi
local macro_rules | `(tactic| walk_at "dl") => `(tactic| simp only [dRet, dOp, dSl, dV, dNoP, dPart, dLst, dLstM, dCons, dNil, dC, startD, rAdd, rAddM, rIx, rEq, rNe, rII, rII0, rIB0, rMul, rIsN, rNotN, isNon, dNeg, dTest, dAnd, dOr, dNot, dAndV, dOrV, dNotV, dIf, dTup, dFrz, dCB, rLen, rInt1, rAbs1, rMin2, rAll1, dBM, rApp, rExt, rPop0,
  dGet, dPut, dNext, dSeq, dDrop, dIfS, dName, dgNil, dgCons, dgTup, dAsg, dSub, rSet, dPar, dIL, dIT, dIR, dIE, dIZ, dFor, dYes, dCall, dLc, dLcM, dLcF, dPair, dGetT, dInT, dPutT, dNewT, wipeD,
  natsD, isL_lst, isL_ref, seqIn_tup, seqIn_lst, rIn, flatD, eqD, List.all_cons, List.all_nil, List.any_cons, List.any_nil, sizeLine_eq, Nat.reduceLeDiff, Nat.reduceLT, Bool.or_false, Bool.and_true, Bool.true_and, Bool.false_and, Bool.false_or, Bool.or_true, Bool.true_or, Bool.and_false, tupAt, optE, endsOf,
  List.map_cons, List.map_nil, List.length_cons, List.length_nil, List.cons_append, List.nil_append, List.append_nil, List.getElem?_cons_zero, List.getElem?_cons_succ, List.getElem?_nil, List.set_cons_zero, List.set_cons_succ, List.replicate_succ, List.replicate_zero, List.length_append, List.replicate,
  of_sE, String.reduceEq, decide_true, decide_false, Bool.false_eq_true, Bool.not_true, Bool.not_false, reduceIte, exists_eq_left, exists_eq_left', true_and, and_true, if_true, if_false, ite_true, ite_false, Nat.reduceAdd, Nat.reduceSub, Nat.reduceBEq, BEq.rfl, beq_self_eq_true, D.ref.injEq, D.int.injEq, D.str.injEq, D.lst.injEq, D.tup.injEq, List.cons.injEq, exists_and_left, exists_const, and_self])
local macro_rules | `(tactic| walk_at "s0") => `(tactic| (dsimp only [startD, List.length_cons, List.length_nil, List.map_cons, List.map_nil, List.cons_append, List.nil_append, Nat.reduceAdd, Nat.reduceSub, List.replicate_succ, List.replicate_zero]))
local macro_rules | `(tactic| walk_at "st") => `(tactic| ((conv => whnf); (try dsimp only [List.set_cons_zero, List.set_cons_succ]); repeat ((refine ⟨Nat.le_of_ble_eq_true rfl, ?_⟩); (conv => whnf); (try dsimp only [List.set_cons_zero, List.set_cons_succ]))))

section
variable {P : Program} {K : PySem.W.Frag} {mg : Str → Option Value} {w : World} {base : Heap}
def spAt : SpD := sp1 fun s M Q => ∃ k : List Stm, s = .lst (stmsD k) ∧ Q (onK k).d M
abbrev n_at : List Str := ["stack"]
theorem sc_at : FnScope n_at ["stack"] (defScope s_at) := ⟨rfl, rfl, rfl, by decide +kernel, rfl, by decide +kernel, by decide +kernel⟩
/-- at; slots 0 stack; cells []; calls [] -/
theorem ok_at (B : Bl K mg) (T : Txt K mg "at" s_at) : Have P w K mg base "at" ["stack"] 1 spAt := by
  refine have_of T sc_at (fun _ _ _ _ _ _ us hl => match us, hl with | [_], _ => rfl) len1 fun cdv f A outer s H E hr => ⟨_, (dss_one (ds_ret (de_ifExp (dt_cmp op_gt_d (de_callB call_len_d rfl B.len PySem.boot_len (da_cons (dv 0) da_nil)) de_int (nomark _)) (de_tup (da_cons de_str (da_cons (dv 0) da_nil))) (de_tup (da_cons de_str da_nil))))), ?_⟩
  rintro _ M Q ⟨_, rfl, k, rfl, h⟩
  cases k with
  | nil =>
    simp only [stmsD, onK, Cond.d] at h ⊢
    walk_at "dl"
    exact rt_same h
  | cons a k =>
    simp only [stmsD, onK, Cond.d] at h ⊢
    walk_at "dl"
    rw [if_pos (by rw [decide_eq_true_eq]; omega)]
    exact rt_same h
def spGiver : SpD := sp2 fun st c M Q => ∃ (s : Sta) (k : Nat), st = s.d ∧ c = N k ∧ Q (optN (giver s.thr k)) M
abbrev n_giver_on : List Str := ["state", "channel", "thread", "condition"]
theorem sc_giver_on : FnScope n_giver_on ["state", "channel"] (defScope s_giver_on) := ⟨rfl, rfl, rfl, by decide +kernel, rfl, by decide +kernel, by decide +kernel⟩
/-- giver_on; slots 0 state, 1 channel, 2 thread, 3 condition; cells []; calls [] -/
theorem ok_giver_on (B : Bl K mg) (T : Txt K mg "giver_on" s_giver_on) : Have P w K mg base "giver_on" ["state", "channel"] 1 spGiver := by
  refine have_of T sc_giver_on (fun _ _ _ _ _ _ us hl => match us, hl with | [_, _], _ => rfl) len2 fun cdv f A outer s H E hr => ⟨_, (dss_cons (ds_for (vs := [2, 3]) PassesOwn.never rfl (di_enum rfl B.enumerate (da_cons (de_ix (dv 0) de_int) da_nil)) (dg_tup (n := 2) rfl (dgs_cons (dg_name (i := 2) (by decide) sc_giver_on.nd rfl (Or.inl rfl)) (dgs_cons (dg_name (i := 3) (by decide) sc_giver_on.nd rfl (Or.inl rfl)) dgs_nil))) (dss_one (ds_if (dt_w (dw_and (dt_cmp (op_eq_d (hu2 hr)) (de_ix (dv 3) de_int) de_str (nomark _)) (dw_and1 (dt_cmp (op_eq_d (hu2 hr)) (de_ix (dv 3) de_int) (dv 1) (nomark _))))) (dss_one (ds_ret (dv 2))) dss_nil)))
    (dss_one (ds_ret de_non))), ?_⟩
  rintro _ M Q ⟨_, _, rfl, st, c, rfl, rfl, h⟩
  simp only [Sta.d]
  walk_at "dl"
  refine loop_by (fun i σ M' => ∃ x y, σ = [some st.d, some (N c), x, y] ∧ M' = M ∧ ∀ j, j < i → ∀ cd, st.thr[j]? = some cd → isGiv c cd = false) (fun _ _ _ _ _ => trivial) ?_ ?_ ⟨_, _, rfl, rfl, fun j hj => absurd hj (Nat.not_lt_zero _)⟩
  · rintro i d σ M' nx hd ⟨x, y, rfl, rfl, hno⟩ hnx
    have hi : i < st.thr.length := by
      have := (List.getElem?_eq_some_iff.mp hd).1
      rw [enumD_len, List.length_map] at this
      exact this
    have hc := List.getElem?_eq_getElem hi
    generalize st.thr[i] = cd at hc
    have e : d = .tup [.int ((0 + i : Nat) : Int), cd.d] := by
      have := enumD_at (i := 0) (show (st.thr.map Cond.d)[i]? = some cd.d by rw [List.getElem?_map, hc]; rfl)
      rw [hd] at this
      exact Option.some.inj this
    subst e
    rw [Nat.zero_add]
    have step : isGiv c cd = false → ∀ j, j < i + 1 → ∀ c2, st.thr[j]? = some c2 → isGiv c c2 = false := fun hf j hj c2 e2 => by
      by_cases hji : j = i
      · subst hji
        rw [hc] at e2
        cases e2
        exact hf
      · exact hno j (by omega) c2 e2
    cases cd with
    | giving c' w' k =>
      simp only [Cond.d]
      walk_at "dl"
      refine iteP (fun hcc => ?_) (fun hcc => ?_)
      · have e3 : giver st.thr c = some i := by
          unfold giver
          rw [List.findIdx?_eq_some_iff_findIdx_eq, List.findIdx_eq hi]
          have hg : st.thr[i] = Cond.giving c' w' k := Option.some.inj ((List.getElem?_eq_getElem hi).symm.trans hc)
          refine ⟨hi, ?_, fun j hj => ?_⟩
          · rw [hg]
            simp only [isGiv, decide_eq_true_eq]
            exact Int.ofNat_inj.mp hcc
          · exact hno j hj _ (List.getElem?_eq_getElem (Nat.lt_trans hj hi))
        rw [e3] at h
        exact rt_same h
      · refine hnx _ _ ⟨_, _, rfl, rfl, step ?_⟩
        simp only [isGiv, decide_eq_false_iff_not]
        exact fun z => hcc (by rw [z])
    | _ =>
      simp only [Cond.d]
      walk_at "dl"
      exact hnx _ _ ⟨_, _, rfl, rfl, step rfl⟩
  · rintro σ M' ⟨x, y, rfl, rfl, hno⟩
    walk_at "dl"
    have e3 : giver st.thr c = none := by
      unfold giver
      rw [List.findIdx?_eq_none_iff]
      intro cd hcd
      obtain ⟨j, hj, e⟩ := List.getElem_of_mem hcd
      exact hno j (by rw [enumD_len, List.length_map]; exact hj) cd (by rw [List.getElem?_eq_getElem hj, e])
    rw [e3] at h
    exact rt_same h
def spRowR : SpD := sp5 fun a b c d e M Q => ∃ (co : Core) (inp : List (List Nat)) (T : Nat) (F : Fix co inp T) (st : Sta) (t ch : Nat), a = co.d ∧ b = inpD inp ∧ c = st.d ∧ d = N t ∧ e = N ch ∧ st.wf F ∧ ch < co.kinds.length ∧ Q (.lst ((rowRdx co inp st t ch).map Rdx.d)) M
abbrev n_row_redexes : List Str := ["core", "inputs", "state", "thread", "channel", "kind", "giver"]
theorem sc_row_redexes : FnScope n_row_redexes ["core", "inputs", "state", "thread", "channel"] (defScope s_row_redexes) := ⟨rfl, rfl, rfl, by decide +kernel, rfl, by decide +kernel, by decide +kernel⟩
/-- row_redexes; slots 0 core, 1 inputs, 2 state, 3 thread, 4 channel, 5 kind, 6 giver; cells []; calls ['giver_on'] -/
theorem ok_row_redexes (B : Bl K mg) (T : Txt K mg "row_redexes" s_row_redexes) (c_giver_on : Have P w K mg base "giver_on" ["state", "channel"] 1 spGiver) : Have P w K mg base "row_redexes" ["core", "inputs", "state", "thread", "channel"] 2 spRowR := by
  refine have_of T sc_row_redexes (fun _ _ _ _ _ _ us hl => match us, hl with | [_, _, _, _, _], _ => rfl) len5 fun cdv f A outer s H E hr => ⟨_, (dss_cons (ds_set (i := 5) sc_row_redexes.nd rfl (Or.inl rfl) (de_ix (de_ix (dv 0) de_int) (dv 4)))
    (dss_cons (ds_if (dt_cmp (op_eq_d (hu2 hr)) (dv 5) de_str (nomark _)) (dss_cons (ds_set (i := 6) sc_row_redexes.nd rfl (Or.inl rfl) (de_callH c_giver_on (hr.mono (by omega)) rfl (da_cons (dv 2) (da_cons (dv 4) da_nil))))
    (dss_one (ds_ret (de_ifExp (dt_cmp op_isN_d (dv 6) de_non (nomark _)) (de_lst da_nil) (de_lst (da_cons (de_tup (da_cons de_str (da_cons (dv 4) (da_cons (dv 6) (da_cons (dv 3) da_nil))))) da_nil)))))) dss_nil)
    (dss_cons (ds_if (dt_w (dw_and (dt_cmp (op_eq_d (hu2 hr)) (dv 5) de_str (nomark _)) (dw_and1 (dt_cmp op_lt_d (de_ix (de_ix (dv 2) de_int) (dv 4)) (de_callB call_len_d rfl B.len PySem.boot_len (da_cons (de_ix (dv 1) (dv 4)) da_nil)) (nomark _))))) (dss_one (ds_ret (de_lst (da_cons (de_tup (da_cons de_str (da_cons (dv 4) (da_cons (dv 3) da_nil)))) da_nil)))) dss_nil)
    (dss_one (ds_ret (de_lst da_nil)))))), ?_⟩
  rintro _ M Q ⟨_, _, _, _, _, rfl, co, inp, T, F, st, t, ch, rfl, rfl, rfl, rfl, rfl, W, hch, h⟩
  have hk := List.getElem?_eq_getElem hch
  generalize co.kinds[ch] = kd at hk
  simp only [Core.d, Sta.d, inpD]
  walk_at "dl"
  refine ⟨_, map_get hk, ?_⟩
  unfold rowRdx at h
  rw [hk] at h
  cases kd with
  | inner =>
    simp only [kindD, Kind.nm]
    walk_at "dl"
    refine ⟨_, _, rfl, st, ch, rfl, rfl, ?_⟩
    cases hg : giver st.thr ch with
    | none =>
      simp only [hg, List.map_nil] at h
      simp only [optN, if_true]
      exact rt_same h
    | some g =>
      simp only [hg, List.map_cons, List.map_nil, Rdx.d] at h
      simp only [optN, Bool.false_eq_true, if_false]
      exact rt_same h
  | inp =>
    have hin := F.kind_inp hk
    have ht := get_of_lt 0 (show ch < st.taken.length by rw [W.taken]; exact hin)
    have hi := get_of_lt [] (show ch < inp.length by rw [F.inl]; exact hin)
    simp only [kindD, Kind.nm]
    walk_at "dl"
    refine ⟨_, mapN_get ht, _, map_get hi, ?_⟩
    walk_at "dl"
    rw [List.length_map]
    refine iteP (fun c => ?_) (fun c => ?_)
    · simp only [if_pos (show st.taken.getD ch 0 < (inp.getD ch []).length by omega), List.map_cons, List.map_nil, Rdx.d] at h
      exact rt_same h
    · simp only [if_neg (show ¬ st.taken.getD ch 0 < (inp.getD ch []).length by omega), List.map_nil] at h
      exact rt_same h
  | out =>
    simp only [kindD, Kind.nm]
    walk_at "dl"
    exact rt_same h
end
end Dl
namespace Dl
open PySem PySem.Spec PyProof.Rows L2 Mi
local macro_rules | `(tactic| walk_at "dl") => `(tactic| simp only [dRet, dOp, dSl, dV, dNoP, dPart, dLst, dLstM, dCons, dNil, dC, startD, rAdd, rAddM, rIx, rEq, rNe, rII, rII0, rIB0, rMul, rIsN, rNotN, isNon, dNeg, dTest, dAnd, dOr, dNot, dAndV, dOrV, dNotV, dIf, dTup, dFrz, dCB, rLen, rInt1, rAbs1, rMin2, rAll1, dBM, rApp, rExt, rPop0,
  dGet, dPut, dNext, dSeq, dDrop, dIfS, dName, dgNil, dgCons, dgTup, dAsg, dSub, rSet, dPar, dIL, dIT, dIR, dIE, dIZ, dFor, dYes, dCall, dLc, dLcM, dLcF, dPair, dGetT, dInT, dPutT, dNewT, wipeD,
  natsD, isL_lst, isL_ref, seqIn_tup, seqIn_lst, rIn, flatD, eqD, List.all_cons, List.all_nil, List.any_cons, List.any_nil, sizeLine_eq, Nat.reduceLeDiff, Nat.reduceLT, Bool.or_false, Bool.and_true, Bool.true_and, Bool.false_and, Bool.false_or, Bool.or_true, Bool.true_or, Bool.and_false, tupAt, optE, endsOf,
  List.map_cons, List.map_nil, List.length_cons, List.length_nil, List.cons_append, List.nil_append, List.append_nil, List.getElem?_cons_zero, List.getElem?_cons_succ, List.getElem?_nil, List.set_cons_zero, List.set_cons_succ, List.replicate_succ, List.replicate_zero, List.length_append, List.replicate,
  of_sE, String.reduceEq, decide_true, decide_false, Bool.false_eq_true, Bool.not_true, Bool.not_false, reduceIte, exists_eq_left, exists_eq_left', true_and, and_true, if_true, if_false, ite_true, ite_false, Nat.reduceAdd, Nat.reduceSub, Nat.reduceBEq, BEq.rfl, beq_self_eq_true, D.ref.injEq, D.int.injEq, D.str.injEq, D.lst.injEq, D.tup.injEq, List.cons.injEq, exists_and_left, exists_const, and_self])
local macro_rules | `(tactic| walk_at "s0") => `(tactic| (dsimp only [startD, List.length_cons, List.length_nil, List.map_cons, List.map_nil, List.cons_append, List.nil_append, Nat.reduceAdd, Nat.reduceSub, List.replicate_succ, List.replicate_zero]))
local macro_rules | `(tactic| walk_at "st") => `(tactic| ((conv => whnf); (try dsimp only [List.set_cons_zero, List.set_cons_succ]); repeat ((refine ⟨Nat.le_of_ble_eq_true rfl, ?_⟩); (conv => whnf); (try dsimp only [List.set_cons_zero, List.set_cons_succ]))))

section
variable {P : Program} {K : PySem.W.Frag} {mg : Str → Option Value} {w : World} {base : Heap}
/-! ### the mirror's data is data -/
theorem strOk_of (x : String) : PyData.strOk (Str.ofString x) = true := by
  unfold PyData.strOk Str.ofString
  rw [cpsOfBytes_string, Array.all_eq_true_iff_forall_mem]
  intro n hn
  have hn2 : n ∈ x.toList.map Char.toNat := by simpa using hn
  obtain ⟨c, _, rfl⟩ := List.mem_map.mp hn2
  have h := c.valid
  simp only [UInt32.isValidChar, Nat.isValidChar] at h
  have e : c.toNat = c.val.toNat := rfl
  rw [decide_eq_true_eq, e]
  omega
theorem pure_tag (x : String) : pureD (S x) = true := strOk_of x
theorem pure_tag1 (x : String) : pureD (.tup [S x]) = true := by simp only [pureD, pureDs, strOk_of, Bool.and_true]
mutual
theorem pure_exp : ∀ e : Exp, pureD e.d = true
  | .num n => by simp only [Exp.d, pureD, pureDs, Bool.and_true, strOk_of]
  | .cell k => by simp only [Exp.d, pureD, pureDs, Bool.and_true, strOk_of]
  | .idx f s e => by simp only [Exp.d, pureD, pureDs, pure_exp e, Bool.and_true, strOk_of]
  | .neg a => by simp only [Exp.d, pureD, pureDs, pure_exp a, Bool.and_true, strOk_of]
  | .not a => by simp only [Exp.d, pureD, pureDs, pure_exp a, Bool.and_true, strOk_of]
  | .bin o a b => by
    simp only [Exp.d, pureD, pureDs, pure_exp a, pure_exp b, Bool.and_true]
    exact strOk_of _
end
theorem pure_opt : ∀ g : Option Exp, pureD (optE g) = true
  | none => rfl
  | some e => pure_exp e
mutual
theorem pure_stm : ∀ s : Stm, pureD s.d = true
  | .skip => pure_tag1 _
  | .stop => pure_tag1 _
  | .set t e => by simp only [Stm.d, pureD, pureDs, pure_exp, Bool.and_true, strOk_of]
  | .give c e => by simp only [Stm.d, pureD, pureDs, pure_exp, Bool.and_true, strOk_of]
  | .take c t => by simp only [Stm.d, pureD, pureDs, pure_exp, Bool.and_true, strOk_of]
  | .seq l => by simp only [Stm.d, pureD, pureDs, pure_stms l, Bool.and_true, strOk_of]
  | .par l => by simp only [Stm.d, pureD, pureDs, pure_brs l, Bool.and_true, strOk_of]
  | .alt l => by simp only [Stm.d, pureD, pureDs, pure_rows l, Bool.and_true, strOk_of]
  | .ite e a b => by simp only [Stm.d, pureD, pureDs, pure_exp, pure_stm a, pure_stm b, Bool.and_true, strOk_of]
  | .rep e n s => by simp only [Stm.d, pureD, pureDs, pure_exp, pure_stm s, Bool.and_true, strOk_of]
theorem pure_stms : ∀ l : List Stm, pureDs (stmsD l) = true
  | [] => rfl
  | s :: r => by simp only [stmsD, pureDs, pure_stm s, pure_stms r, Bool.and_true]
theorem pure_brs : ∀ l : List (Nat × Stm), pureDs (brsD l) = true
  | [] => rfl
  | (t, s) :: r => by simp only [brsD, pureD, pureDs, pure_stm s, pure_brs r, Bool.and_true]
theorem pure_rows : ∀ l : List ARow, pureDs (rowsD l) = true
  | [] => rfl
  | (g, c, t, s) :: r => by simp only [rowsD, pureD, pureDs, pure_opt, pure_exp, pure_stm s, pure_rows r, Bool.and_true]
end
theorem pureDs_map {α : Type} {f : α → D} {l : List α} (h : ∀ a ∈ l, pureD (f a) = true) : pureDs (l.map f) = true := by
  rw [pureDs_all]
  intro d hd
  obtain ⟨a, ha, rfl⟩ := List.mem_map.mp hd
  exact h a ha
theorem pure_nats (l : List Nat) : pureD (natsD l) = true := by
  unfold natsD
  simp only [pureD]
  exact pureDs_map fun a _ => rfl
theorem pure_orow (r : Nat × Nat × List Stm) : pureD (orowD r) = true := by
  simp only [orowD, pureD, pureDs, pure_stms, Bool.and_true]
theorem pure_cond (c : Cond) : pureD c.d = true := by
  have h1 : ∀ ts : List Nat, pureDs (ts.map N) = true := fun ts => pureDs_map fun _ _ => rfl
  have h2 : ∀ rs : List (Nat × Nat × List Stm), pureDs (rs.map orowD) = true := fun rs => pureDs_map fun r _ => pure_orow r
  cases c <;> simp only [Cond.d, pureD, pureDs, pure_stms, Bool.and_true, Bool.true_and, strOk_of, h1, h2]
theorem pure_sta (s : Sta) : pureD s.d = true := by
  simp only [Sta.d, pureD, pureDs, pure_nats, Bool.and_true, Bool.true_and]
  rw [pureDs_map fun c _ => pure_cond c, pureDs_map fun o _ => pure_nats o, Bool.and_self]
theorem pure_kinds (l : List Mi.Kind) : pureDs (l.map kindD) = true := pureDs_map fun k _ => strOk_of _
theorem pure_core (c : Core) : pureD c.d = true := by
  simp only [Core.d, pureD, pureDs, pure_kinds, pure_stm, Bool.and_true, strOk_of]
theorem pure_inp (i : List (List Nat)) : pureD (inpD i) = true := by
  simp only [inpD, pureD]
  exact pureDs_map fun o _ => pure_nats o
theorem pure_rdx (r : Rdx) : pureD r.d = true := by cases r <;> simp only [Rdx.d, pureD, pureDs, Bool.and_true, strOk_of]
/-- is it done? -/
theorem eqv_done (c : Cond) : PyData.eqv (py c.d) (py (.tup [S "done"])) = isDone c := by
  have e : ∀ a b : String, (Str.ofString a == Str.ofString b) = decide (a = b) := fun a b => by rw [Bool.beq_eq_decide_eq, of_sE]
  cases c <;> simp only [Cond.d, py, pys, PyData.eqv, PyData.eqvAll, isDone, Bool.and_true, Bool.and_false, Bool.false_and, e, String.reduceEq, decide_true, decide_false]
theorem eq_done {c : Cond} {M : Mh} {Q : KD} (h : Q (.bl (isDone c)) M) : datEq false c.d (.tup [S "done"]) M Q := by
  refine ⟨_, _, dat_py _ (pure_cond c), dat_py _ (pure_tag1 _), canLay_py _ (pure_cond c), canLay_py _ (pure_tag1 _), .inr (by decide), ?_⟩
  rw [if_neg Bool.false_ne_true, eqv_done]
  exact h
theorem ne_done {c : Cond} {M : Mh} {Q : KD} (h : Q (.bl (!isDone c)) M) : datEq true c.d (.tup [S "done"]) M Q := by
  refine ⟨_, _, dat_py _ (pure_cond c), dat_py _ (pure_tag1 _), canLay_py _ (pure_cond c), canLay_py _ (pure_tag1 _), .inr (by decide), ?_⟩
  rw [if_pos rfl, eqv_done]
  exact h
theorem rEq_done {c : Cond} {M : Mh} {Q : KD} (h : Q (.bl (isDone c)) M) : rEq c.d (.tup [S "done"]) M Q := by
  cases c <;> exact eq_done h
theorem rNe_done {c : Cond} {M : Mh} {Q : KD} (h : Q (.bl (!isDone c)) M) : rNe c.d (.tup [S "done"]) M Q := by
  cases c <;> exact ne_done h
def spThrR : SpD := sp4 fun a b c d M Q => ∃ (co : Core) (inp : List (List Nat)) (T : Nat) (F : Fix co inp T) (st : Sta) (t : Nat), a = co.d ∧ b = inpD inp ∧ c = st.d ∧ d = N t ∧ st.wf F ∧ t < st.thr.length ∧ Q (.lst ((thrRdx co inp st t).map Rdx.d)) M
theorem rowRdx_len (co : Core) (inp : List (List Nat)) (st : Sta) (t c : Nat) : (rowRdx co inp st t c).length ≤ 1 := by
  unfold rowRdx
  split
  · split <;> simp
  · split <;> simp
  · simp
abbrev n_thread_redexes : List Str := ["core", "inputs", "state", "thread", "condition", "found", "channel", "_", "other"]
theorem sc_thread_redexes : FnScope n_thread_redexes ["core", "inputs", "state", "thread"] (defScope s_thread_redexes) := ⟨rfl, rfl, rfl, by decide +kernel, rfl, by decide +kernel, by decide +kernel⟩
/-- thread_redexes; slots 0 core, 1 inputs, 2 state, 3 thread, 4 condition, 5 found, 6 channel, 7 _, 8 other; cells ['state']; calls ['row_redexes'] -/
theorem ok_thread_redexes (B : Bl K mg) (Tx : Txt K mg "thread_redexes" s_thread_redexes) (c_row_redexes : Have P w K mg base "row_redexes" ["core", "inputs", "state", "thread", "channel"] 2 spRowR) : Have P w K mg base "thread_redexes" ["core", "inputs", "state", "thread"] 3 spThrR := by
  refine have_of Tx sc_thread_redexes (fun _ _ _ _ _ _ us hl => match us, hl with | [_, _, _, _], _ => rfl) len4 fun cdv f A outer s H E hr => ⟨_, (dss_cons (ds_set (i := 4) sc_thread_redexes.nd rfl (Or.inl rfl) (de_ix (de_ix (dv 2) de_int) (dv 3)))
    (dss_cons (ds_if (dt_cmp (op_eq_d (hu2 hr)) (de_ix (dv 4) de_int) de_str (nomark _)) (dss_one (ds_ret (de_lst (da_cons (de_tup (da_cons de_str (da_cons (dv 3) da_nil))) da_nil)))) dss_nil)
    (dss_cons (ds_if (dt_cmp (op_eq_d (hu2 hr)) (de_ix (dv 4) de_int) de_str (nomark _)) (dss_cons (ds_set (i := 5) sc_thread_redexes.nd rfl (Or.inl rfl) (de_lstM da_nil))
    (dss_cons (ds_for (vs := [6, 7]) PassesOwn.never rfl (di_list (de_ix (dv 4) de_int)) (dg_tup (n := 3) rfl (dgs_cons (dg_name (i := 6) (by decide) sc_thread_redexes.nd rfl (Or.inl rfl)) (dgs_cons (dg_name (i := 7) (by decide) sc_thread_redexes.nd rfl (Or.inl rfl)) (dgs_cons (dg_name (i := 7) (by decide) sc_thread_redexes.nd rfl (Or.inl rfl)) dgs_nil)))) (dss_one (ds_expr (de_bm PySem.F.slot_list_extend PySem.F.type_list_extend mt_extend_d (dv 5) (da_cons (de_callH c_row_redexes (hr.mono (by omega)) rfl (da_cons (dv 0) (da_cons (dv 1) (da_cons (dv 2) (da_cons (dv 3) (da_cons (dv 6) da_nil)))))) da_nil)))))
    (dss_one (ds_ret (de_frz (dv 5)))))) dss_nil)
    (dss_cons (ds_if (dt_w (dw_and (dt_cmp (op_eq_d (hu2 hr)) (de_ix (dv 4) de_int) de_str (nomark _)) (dw_and1 (dt_cmp (op_eq_d (hu2 hr)) (de_ix (de_ix (dv 0) de_int) (de_ix (dv 4) de_int)) de_str (nomark _))))) (dss_one (ds_ret (de_lst (da_cons (de_tup (da_cons de_str (da_cons (de_ix (dv 4) de_int) (da_cons (dv 3) da_nil)))) da_nil)))) dss_nil)
    (dss_cons (ds_if (dt_w (dw_and (dt_cmp (op_eq_d (hu2 hr)) (de_ix (dv 4) de_int) de_str (nomark _)) (dw_and1 (dt_val (de_callB (call_all_d rfl) rfl B.all (by decide +kernel) (da_cons (de_lc (own := [("other", 8)]) rfl sc_thread_redexes.nd (di_list (de_ix (dv 4) de_int)) (blkOk_by (N := n_thread_redexes) (sc := defScope s_thread_redexes) (by decide +kernel)) (fun _ _ _ _ _ => (dg_name (i := 8) (by decide) sc_thread_redexes.nd rfl (Or.inl rfl))) (fun _ _ _ _ _ => dts_nil) (fun _ _ _ _ _ => (de_cmp (op_eq_d (hu2 hr)) (de_ix (de_ix (dv 2) de_int) (dv 8)) (de_tup (da_cons de_str da_nil)) (nomark _)))) da_nil)))))) (dss_one (ds_ret (de_lst (da_cons (de_tup (da_cons de_str (da_cons (dv 3) da_nil))) da_nil)))) dss_nil)
    (dss_one (ds_ret (de_lst da_nil)))))))), ?_⟩
  rintro _ M Q ⟨_, _, _, _, rfl, co, inp, T, F, st, t, rfl, rfl, rfl, rfl, W, ht, h⟩
  have hc := List.getElem?_eq_getElem ht
  generalize st.thr[t] = cd at hc
  have hg : st.thr.getD t .idle = cd := getD_get hc
  have Wc := W.cond cd (List.mem_of_getElem? hc)
  unfold thrRdx at h
  rw [hg] at h
  walk_at "st"
  refine ⟨_, map_get hc, ?_⟩
  cases cd with
  | on k =>
    walk_at "st"
    exact rt_same h
  | opn rows k =>
    walk_at "st"
    intro p hp
    walk_at "st"
    have hz : rows.length ≤ 1000 := Wc.2.2.1
    have fl0 : ∀ rs : List (Nat × Nat × List Stm), (rs.flatMap fun r => rowRdx co inp st t r.1).length ≤ rs.length := by
      intro rs
      induction rs with
      | nil => simp
      | cons a rs ih =>
        have := rowRdx_len co inp st t a.1
        rw [List.flatMap_cons, List.length_append, List.length_cons]
        omega
    have fl : ∀ i, ((rows.take i).flatMap fun r => rowRdx co inp st t r.1).length ≤ i := fun i => Nat.le_trans (fl0 _) (by rw [List.length_take]; omega)
    refine loop_by (fun i σ M' => ∃ x6 x7 x8, σ = [some co.d, some (inpD inp), some st.d, some (N t), some (Cond.opn rows k).d, some (.ref p), x6, x7, x8] ∧ M' = mupd M p (.lst (((rows.take i).flatMap fun r => rowRdx co inp st t r.1).map Rdx.d))) (fun _ _ _ _ _ => trivial) ?_ ?_ ⟨_, _, _, rfl, rfl⟩
    · rintro i d σ M' nx hd ⟨x6, x7, x8, rfl, rfl⟩ hnx
      have hi : i < rows.length := by
        have := (List.getElem?_eq_some_iff.mp hd).1
        rw [List.length_map] at this
        exact this
      have hr := List.getElem?_eq_getElem hi
      generalize rows[i] = r at hr
      have e : d = orowD r := by rw [List.getElem?_map, hr] at hd; exact (Option.some.inj hd).symm
      subst e
      walk_at "st"
      refine ⟨⟨_, .ref mupd_same⟩, _, _, _, _, _, rfl, co, inp, T, F, st, t, r.1, rfl, rfl, rfl, rfl, rfl, W, (Wc.1 r (List.mem_of_getElem? hr)).1, ?_⟩
      refine ⟨_, _, _, rfl, mupd_same, .lst, ?_, ?_⟩
      · have h1 := fl i
        have h2 := rowRdx_len co inp st t r.1
        rw [sizeLine_eq]
        simp only [List.length_map]
        omega
      · refine hnx _ _ ⟨_, _, _, rfl, ?_⟩
        rw [mupd_mupd, List.take_succ, hr, List.flatMap_append, List.map_append]
        simp
    · rintro σ M' ⟨x6, x7, x8, rfl, rfl⟩
      walk_at "st"
      refine ⟨_, mupd_same, ?_⟩
      rw [del_upd hp, List.length_map, List.take_length]
      exact rt_same h
  | giving c' w' k =>
    walk_at "st"
    have hcl : c' < co.kinds.length := Wc.1
    have hk := List.getElem?_eq_getElem hcl
    generalize co.kinds[c'] = kd at hk
    refine ⟨_, map_get hk, ?_⟩
    simp only [hk] at h
    cases kd with
    | out =>
      walk_at "st"
      exact rt_same h
    | _ =>
      walk_at "st"
      exact rt_same h
  | joining ts k =>
    walk_at "st"
    intro p hp
    refine lc_map ts N (fun _ => true) (fun o => .bl (isDone (st.thr.getD o .idle))) (by rw [sizeLine_eq]; have := Wc.2.1; omega) (by exact fun _ => trivial) (fun o ho acc Ky Kn hh => ?_) ?_
    · have hol : o < st.thr.length := by rw [W.thr]; exact Wc.1 o ho
      walk_at "st"
      refine ⟨_, map_get (get_of_lt .idle hol), ?_⟩
      walk_at "st"
      exact rEq_done hh
    · rw [filter_all]
      simp only [del_upd hp]
      refine ⟨ts.map fun o => isDone (st.thr.getD o .idle), by rw [List.map_map]; exact .lst, ?_⟩
      have ea : (ts.map fun o => isDone (st.thr.getD o .idle)).all id = ts.all fun o => isDone (st.thr.getD o .idle) := by rw [List.all_map]; rfl
      rw [ea]
      refine t2 (fun e => ?_) (fun e => ?_)
      · simp only [if_pos e] at h
        walk_at "st"
        exact rt_same h
      · simp only [e, Bool.false_eq_true, if_false] at h
        walk_at "st"
        exact rt_same h
  | _ =>
    walk_at "st"
    exact rt_same h
def spRedexes : SpD := sp3 fun a b c M Q => ∃ (co : Core) (inp : List (List Nat)) (T : Nat) (F : Fix co inp T) (st : Sta), a = co.d ∧ b = inpD inp ∧ c = st.d ∧ st.wf F ∧ ∀ p, M p = none → Q (.ref p) (mupd M p (.lst ((rdxs co inp st).map Rdx.d)))
theorem thrRdx_len (co : Core) (inp : List (List Nat)) {T : Nat} (F : Fix co inp T) (st : Sta) (W : st.wf F) (t : Nat) : (thrRdx co inp st t).length ≤ 1000 := by
  unfold thrRdx
  by_cases ht : t < st.thr.length
  · have hc := get_of_lt .idle ht
    have Wc := W.cond _ (List.mem_of_getElem? hc)
    cases e : st.thr.getD t .idle with
    | opn rows k =>
      rw [e] at Wc
      have hz : rows.length ≤ 1000 := Wc.2.2.1
      have fl0 : ∀ rs : List (Nat × Nat × List Stm), (rs.flatMap fun r => rowRdx co inp st t r.1).length ≤ rs.length := by
        intro rs
        induction rs with
        | nil => simp
        | cons a rs ih =>
          have := rowRdx_len co inp st t a.1
          rw [List.flatMap_cons, List.length_append, List.length_cons]
          omega
      exact Nat.le_trans (fl0 rows) hz
    | giving c w k => simp only; split <;> simp
    | joining ts k => simp only; split <;> simp
    | _ => simp
  · rw [List.getD_eq_getElem?_getD, List.getElem?_eq_none (by omega)]
    simp
abbrev n_redexes : List Str := ["core", "inputs", "state", "found", "thread"]
theorem sc_redexes : FnScope n_redexes ["core", "inputs", "state"] (defScope s_redexes) := ⟨rfl, rfl, rfl, by decide +kernel, rfl, by decide +kernel, by decide +kernel⟩
/-- redexes; slots 0 core, 1 inputs, 2 state, 3 found, 4 thread; cells []; calls ['thread_redexes'] -/
theorem ok_redexes (B : Bl K mg) (Tx : Txt K mg "redexes" s_redexes) (c_thread_redexes : Have P w K mg base "thread_redexes" ["core", "inputs", "state", "thread"] 3 spThrR) : Have P w K mg base "redexes" ["core", "inputs", "state"] 4 spRedexes := by
  refine have_of Tx sc_redexes (fun _ _ _ _ _ _ us hl => match us, hl with | [_, _, _], _ => rfl) len3 fun cdv f A outer s H E hr => ⟨_, (dss_cons (ds_set (i := 3) sc_redexes.nd rfl (Or.inl rfl) (de_lstM da_nil))
    (dss_cons (ds_for (vs := [4]) PassesOwn.never rfl (di_range rfl B.range (da_cons (de_callB call_len_d rfl B.len PySem.boot_len (da_cons (de_ix (dv 2) de_int) da_nil)) da_nil)) (dg_name (i := 4) (by decide) sc_redexes.nd rfl (Or.inl rfl)) (dss_one (ds_expr (de_bm PySem.F.slot_list_extend PySem.F.type_list_extend mt_extend_d (dv 3) (da_cons (de_callH c_thread_redexes (hr.mono (by omega)) rfl (da_cons (dv 0) (da_cons (dv 1) (da_cons (dv 2) (da_cons (dv 4) da_nil))))) da_nil)))))
    (dss_one (ds_ret (dv 3))))), ?_⟩
  rintro _ M Q ⟨_, _, _, rfl, co, inp, T, F, st, rfl, rfl, rfl, W, h⟩
  have hT : st.thr.length ≤ 1000 := by rw [W.thr]; exact F.T2
  have fl0 : ∀ l : List Nat, (l.flatMap fun t => thrRdx co inp st t).length ≤ l.length * 1000 := by
    intro l
    induction l with
    | nil => simp
    | cons a l ih =>
      have := thrRdx_len co inp F st W a
      rw [List.flatMap_cons, List.length_append, List.length_cons]
      omega
  walk_at "st"
  intro p hp
  walk_at "st"
  refine ⟨_, .lst, by rw [List.length_map]; omega, by omega, ?_⟩
  refine loop_by (fun i σ M' => ∃ x4, σ = [some co.d, some (inpD inp), some st.d, some (.ref p), x4] ∧ M' = mupd M p (.lst (((List.range i).flatMap fun t => thrRdx co inp st t).map Rdx.d))) (fun _ _ _ _ _ => trivial) ?_ ?_ ⟨_, rfl, rfl⟩
  · rintro i d σ M' nx hd ⟨x4, rfl, rfl⟩ hnx
    rw [List.length_map, Int.toNat_natCast] at hd
    have hi : i < st.thr.length := by
      have := (List.getElem?_eq_some_iff.mp hd).1
      rw [intsD_len] at this
      exact this
    have e : d = N i := by
      have h2 : (intsD 0 st.thr.length)[i]? = some (.int (0 + (i : Nat))) := by
        unfold intsD
        rw [List.getElem?_map, List.getElem?_range (by omega)]
        rfl
      rw [h2] at hd
      rw [← Option.some.inj hd, Int.zero_add]
    subst e
    walk_at "st"
    refine ⟨⟨_, .ref mupd_same⟩, _, _, _, _, rfl, co, inp, T, F, st, i, rfl, rfl, rfl, rfl, W, hi, ?_⟩
    refine ⟨_, _, _, rfl, mupd_same, .lst, ?_, ?_⟩
    · have h1 := fl0 (List.range i)
      have h2 := thrRdx_len co inp F st W i
      rw [List.length_range] at h1
      rw [sizeLine_eq]
      simp only [List.length_map]
      omega
    · refine hnx _ _ ⟨_, rfl, ?_⟩
      rw [mupd_mupd, List.range_succ, List.flatMap_append, List.map_append]
      simp
  · rintro σ M' ⟨x4, rfl, rfl⟩
    walk_at "st"
    rw [intsD_len, List.length_map, Int.toNat_natCast]
    exact rt_same (h p hp)
end
end Dl
namespace Dl
open PySem PySem.Spec PyProof.Rows L2 Mi
local macro_rules | `(tactic| walk_at "dl") => `(tactic| simp only [dRet, dOp, dSl, dV, dNoP, dPart, dLst, dLstM, dCons, dNil, dC, startD, rAdd, rAddM, rIx, rEq, rNe, rII, rII0, rIB0, rMul, rIsN, rNotN, isNon, dNeg, dTest, dAnd, dOr, dNot, dAndV, dOrV, dNotV, dIf, dTup, dFrz, dCB, rLen, rInt1, rAbs1, rMin2, rAll1, dBM, rApp, rExt, rPop0,
  dGet, dPut, dNext, dSeq, dDrop, dIfS, dName, dgNil, dgCons, dgTup, dAsg, dSub, rSet, dPar, dIL, dIT, dIR, dIE, dIZ, dFor, dYes, dCall, dLc, dLcM, dLcF, dPair, dGetT, dInT, dPutT, dNewT, wipeD,
  natsD, isL_lst, isL_ref, seqIn_tup, seqIn_lst, rIn, flatD, eqD, List.all_cons, List.all_nil, List.any_cons, List.any_nil, sizeLine_eq, Nat.reduceLeDiff, Nat.reduceLT, Bool.or_false, Bool.and_true, Bool.true_and, Bool.false_and, Bool.false_or, Bool.or_true, Bool.true_or, Bool.and_false, tupAt, optE, endsOf,
  List.map_cons, List.map_nil, List.length_cons, List.length_nil, List.cons_append, List.nil_append, List.append_nil, List.getElem?_cons_zero, List.getElem?_cons_succ, List.getElem?_nil, List.set_cons_zero, List.set_cons_succ, List.replicate_succ, List.replicate_zero, List.length_append, List.replicate,
  of_sE, String.reduceEq, decide_true, decide_false, Bool.false_eq_true, Bool.not_true, Bool.not_false, reduceIte, exists_eq_left, exists_eq_left', true_and, and_true, if_true, if_false, ite_true, ite_false, Nat.reduceAdd, Nat.reduceSub, Nat.reduceBEq, BEq.rfl, beq_self_eq_true, D.ref.injEq, D.int.injEq, D.str.injEq, D.lst.injEq, D.tup.injEq, List.cons.injEq, exists_and_left, exists_const, and_self])
local macro_rules | `(tactic| walk_at "s0") => `(tactic| (dsimp only [startD, List.length_cons, List.length_nil, List.map_cons, List.map_nil, List.cons_append, List.nil_append, Nat.reduceAdd, Nat.reduceSub, List.replicate_succ, List.replicate_zero]))
local macro_rules | `(tactic| walk_at "st") => `(tactic| ((conv => whnf); (try dsimp only [List.set_cons_zero, List.set_cons_succ]); repeat ((refine ⟨Nat.le_of_ble_eq_true rfl, ?_⟩); (conv => whnf); (try dsimp only [List.set_cons_zero, List.set_cons_succ]))))

section
variable {P : Program} {K : PySem.W.Frag} {mg : Str → Option Value} {w : World} {base : Heap}
def rowD (p : ARow) : D := .tup [optE p.1, N p.2.1, p.2.2.1.d, p.2.2.2.d]
theorem rowsD_map (l : List ARow) : rowsD l = l.map rowD := rowsD_eq l
theorem zw {α : Type} {f : D → D → D} {a b : α → D} : ∀ l : List α, List.zipWith f (l.map a) (l.map b) = l.map fun x => f (a x) (b x)
  | [] => rfl
  | x :: l => by simp only [List.map_cons, List.zipWith_cons_cons, zw l]
def opD : Option (List (Nat × Nat × List Stm)) → D
  | none => .non
  | some l => .lst (l.map orowD)
def spOpened : SpD := sp2 fun a b M Q => ∃ (rows : List ARow) (cs : List Nat) (n T C : Nat), a = .lst (rowsD rows) ∧ b = natsD cs ∧ Cells n cs ∧ rwf n T C rows ∧ rows.length ≤ 1000 ∧ Q (opD (openR cs rows)) M
theorem any_non {α : Type} (l : List α) (f : α → Option Nat) : (l.map fun r => optN (f r)).any (fun y => eqD y .non) = l.any fun r => (f r).isNone := by
  rw [List.any_map]
  congr 1
  funext r
  show eqD (optN (f r)) .non = (f r).isNone
  cases f r <;> rfl
theorem all_flat {α : Type} (l : List α) (f : α → Option Nat) : (l.map fun r => optN (f r)).all flatD = true := by
  rw [List.all_map, List.all_eq_true]
  intro r _
  show flatD (optN (f r)) = true
  cases f r <;> rfl
theorem optN_lt {cs : List Nat} {n : Nat} (C : Cells n cs) {g : Option Exp} (h : owf n g) {v : Nat} (e : gval cs g = some v) : v < 65536 := by
  cases g with
  | none => cases e; decide
  | some x => exact val_lt C h.1 e
abbrev n_opened : List Str := ["rows", "cells", "guards", "row", "chosen", "guard", "goals", "goal"]
theorem sc_opened : FnScope n_opened ["rows", "cells"] (defScope s_opened) := ⟨rfl, rfl, rfl, by decide +kernel, rfl, by decide +kernel, by decide +kernel⟩
/-- opened; slots 0 rows, 1 cells, 2 guards, 3 row, 4 chosen, 5 guard, 6 goals, 7 goal; cells ['cells']; calls ['place', 'value'] -/
theorem ok_opened (B : Bl K mg) (Tx : Txt K mg "opened" s_opened) (c_value : Have P w K mg base "value" ["e", "cells"] 15 (spVal 7)) (c_place : Have P w K mg base "place" ["target", "cells"] 14 (spPlc 7)) : Have P w K mg base "opened" ["rows", "cells"] 16 spOpened := by
  refine have_of Tx sc_opened (fun _ _ _ _ _ _ us hl => match us, hl with | [_, _], _ => rfl) len2 fun cdv f A outer s H E hr => ⟨_, (dss_cons (ds_setLc (own := [("row", 3)]) (i := 2) rfl sc_opened.nd rfl rfl (sw_true rfl rfl rfl (by decide +kernel)) (di_list (dv 0)) (blkOk_by (N := n_opened) (sc := defScope s_opened) (by decide +kernel)) (fun _ _ _ _ _ => (dg_name (i := 3) (by decide) sc_opened.nd rfl (Or.inl rfl))) (fun _ _ _ _ _ => dts_nil) (fun _ _ _ _ _ => (de_ifExp (dt_cmp op_isN_d (de_ix (dv 3) de_int) de_non (nomark _)) de_int (de_callH c_value (hr.mono (by omega)) rfl (da_cons (de_ix (dv 3) de_int) (da_cons (dv 1) da_nil))))))
    (dss_cons (ds_if (dt_cmp op_in_d de_non (dv 2) rfl) (dss_one (ds_ret de_non)) dss_nil)
    (dss_cons (ds_setLc (own := [("row", 3), ("guard", 5)]) (i := 4) rfl sc_opened.nd rfl rfl (sw_true rfl rfl rfl (by decide +kernel)) (di_zip rfl B.zip (da_cons (dv 0) (da_cons (dv 2) da_nil))) (blkOk_by (N := n_opened) (sc := defScope s_opened) (by decide +kernel)) (fun _ _ _ _ _ => (dg_tup (n := 2) rfl (dgs_cons (dg_name (i := 3) (by decide) sc_opened.nd rfl (Or.inl rfl)) (dgs_cons (dg_name (i := 5) (by decide) sc_opened.nd rfl (Or.inl rfl)) dgs_nil)))) (fun _ _ _ _ _ => (dts_one (dt_cmp (op_ne_d (hu2 hr)) (dv 5) de_int (nomark _)))) (fun _ _ _ _ _ => (dv 3)))
    (dss_cons (ds_setLc (own := [("row", 3)]) (i := 6) rfl sc_opened.nd rfl rfl (sw_true rfl rfl rfl (by decide +kernel)) (di_list (dv 4)) (blkOk_by (N := n_opened) (sc := defScope s_opened) (by decide +kernel)) (fun _ _ _ _ _ => (dg_name (i := 3) (by decide) sc_opened.nd rfl (Or.inl rfl))) (fun _ _ _ _ _ => dts_nil) (fun _ _ _ _ _ => (de_callH c_place (hr.mono (by omega)) rfl (da_cons (de_ix (dv 3) de_int) (da_cons (dv 1) da_nil)))))
    (dss_cons (ds_if (dt_cmp op_in_d de_non (dv 6) rfl) (dss_one (ds_ret de_non)) dss_nil)
    (dss_one (ds_ret (de_lc (own := [("row", 3), ("goal", 7)]) rfl sc_opened.nd (di_zip rfl B.zip (da_cons (dv 4) (da_cons (dv 6) da_nil))) (blkOk_by (N := n_opened) (sc := defScope s_opened) (by decide +kernel)) (fun _ _ _ _ _ => (dg_tup (n := 2) rfl (dgs_cons (dg_name (i := 3) (by decide) sc_opened.nd rfl (Or.inl rfl)) (dgs_cons (dg_name (i := 7) (by decide) sc_opened.nd rfl (Or.inl rfl)) dgs_nil)))) (fun _ _ _ _ _ => dts_nil) (fun _ _ _ _ _ => (de_tup (da_cons (de_ix (dv 3) de_int) (da_cons (dv 7) (da_cons (de_lst (da_cons (de_ix (dv 3) de_int) da_nil)) da_nil))))))))))))), ?_⟩
  rintro _ M Q ⟨_, _, rfl, rows, cs, n, T, C, rfl, rfl, Cc, Wr, hz, h⟩
  rw [rowsD_map]
  have Wr' := rwf_iff.mp Wr
  have hz2 : rows.length < sizeLine := by rw [sizeLine_eq]; omega
  walk_at "st"
  intro p hp
  refine lc_map rows rowD (fun _ => true) (fun r => optN (gval cs r.1)) hz2 (by exact fun _ => trivial) (fun r hr' acc Ky Kn hh => ?_) ?_
  · have Wg := (Wr' r hr').1
    obtain ⟨g, c, t, st⟩ := r
    cases g with
    | none =>
      walk_at "st"
      exact hh
    | some e =>
      have ne : ∃ ds, e.d = .tup ds := by cases e <;> exact ⟨_, rfl⟩
      obtain ⟨ds, eds⟩ := ne
      have hE : isNon e.d = false := by rw [eds]; rfl
      show if isNon e.d = true then _ else _
      refine tF hE ?_
      exact ⟨_, _, rfl, e, cs, n, rfl, rfl, Wg.1, Cc, Wg.2, hh⟩
  rw [filter_all]
  simp only [del_upd hp]
  walk_at "st"
  refine ⟨_, .inl .lst, rfl, all_flat _ _, ?_⟩
  unfold openR at h
  show if (List.map (fun r => optN (gval cs r.1)) rows).any (fun y => eqD y .non) = true then _ else _
  rw [any_non]
  refine t2 (fun e => ?_) (fun e => ?_)
  · rw [if_pos e] at h
    walk_at "st"
    exact rt_same h
  rw [if_neg (by rw [e]; exact Bool.false_ne_true)] at h
  walk_at "st"
  intro p2 hp2
  rw [zw]
  refine lc_map rows (fun r => pairD (rowD r) (optN (gval cs r.1))) (fun r => decide (gval cs r.1 ≠ some 0)) rowD hz2 (by exact fun _ => trivial) (fun r hr' acc Ky Kn hh => ?_) ?_
  · cases hg : gval cs r.1 with
    | none =>
      rw [if_pos (by rw [hg]; rfl)] at hh
      walk_at "st"
      exact hh
    | some v =>
      walk_at "st"
      refine iteN (fun c => ?_) (fun c => ?_)
      · rw [if_pos (by rw [hg, decide_eq_true_eq]; intro z; cases z; exact c rfl)] at hh
        exact hh
      · rw [if_neg (by rw [hg, decide_eq_true_eq]; intro z; exact z (congrArg some (Int.ofNat_inj.mp c)))] at hh
        exact hh
  simp only [del_upd hp2]
  generalize hch : rows.filter (fun r => decide (gval cs r.1 ≠ some 0)) = ch at h
  have hcl : ch.length ≤ 1000 := by rw [← hch]; exact Nat.le_trans (List.length_filter_le _ _) hz
  have hcw : ∀ r ∈ ch, r.2.2.1.twf n := fun r hr' => (Wr' r (by rw [← hch] at hr'; exact (List.mem_filter.mp hr').1)).2.2.1
  have hcz : ch.length < sizeLine := by rw [sizeLine_eq]; omega
  walk_at "st"
  intro p3 hp3
  refine lc_map ch rowD (fun _ => true) (fun r => optN (plc cs r.2.2.1)) hcz (by exact fun _ => trivial) (fun r hr' acc Ky Kn hh => ?_) ?_
  · have Wt := hcw r hr'
    exact ⟨_, _, rfl, r.2.2.1, cs, n, rfl, rfl, Wt.1, Wt.2.1, Cc, Wt.2.2, hh⟩
  rw [filter_all]
  simp only [del_upd hp3]
  walk_at "st"
  refine ⟨_, .inl .lst, rfl, all_flat _ _, ?_⟩
  show if (List.map (fun r => optN (plc cs r.2.2.1)) ch).any (fun y => eqD y .non) = true then _ else _
  rw [any_non]
  refine t2 (fun e2 => ?_) (fun e2 => ?_)
  · rw [if_pos e2] at h
    walk_at "st"
    exact rt_same h
  rw [if_neg (by rw [e2]; exact Bool.false_ne_true)] at h
  walk_at "st"
  intro p4 hp4
  rw [zw]
  refine lc_map ch (fun r => pairD (rowD r) (optN (plc cs r.2.2.1))) (fun _ => true) (fun r => orowD (r.2.1, (plc cs r.2.2.1).getD 0, [r.2.2.2])) hcz (by exact fun _ => trivial) (fun r hr' acc Ky Kn hh => ?_) ?_
  · cases hg : plc cs r.2.2.1 with
    | none =>
      exfalso
      have := List.any_eq_false.mp e2 r hr'
      rw [hg] at this
      exact this rfl
    | some v =>
      rw [hg] at hh
      walk_at "st"
      exact hh
  rw [filter_all]
  simp only [del_upd hp4]
  refine rt_same ?_
  simp only [opD, List.map_map] at h
  exact h
end
end Dl
namespace Dl
open PySem PySem.Spec PyProof.Rows L2 Mi
local macro_rules | `(tactic| walk_at "dl") => `(tactic| simp only [dRet, dOp, dSl, dV, dNoP, dPart, dLst, dLstM, dCons, dNil, dC, startD, rAdd, rAddM, rIx, rEq, rNe, rII, rII0, rIB0, rMul, rIsN, rNotN, isNon, dNeg, dTest, dAnd, dOr, dNot, dAndV, dOrV, dNotV, dIf, dTup, dFrz, dCB, rLen, rInt1, rAbs1, rMin2, rAll1, dBM, rApp, rExt, rPop0,
  dGet, dPut, dNext, dSeq, dDrop, dIfS, dName, dgNil, dgCons, dgTup, dAsg, dSub, rSet, dPar, dIL, dIT, dIR, dIE, dIZ, dFor, dYes, dCall, dLc, dLcM, dLcF, dPair, dGetT, dInT, dPutT, dNewT, wipeD,
  natsD, isL_lst, isL_ref, seqIn_tup, seqIn_lst, rIn, flatD, eqD, List.all_cons, List.all_nil, List.any_cons, List.any_nil, sizeLine_eq, Nat.reduceLeDiff, Nat.reduceLT, Bool.or_false, Bool.and_true, Bool.true_and, Bool.false_and, Bool.false_or, Bool.or_true, Bool.true_or, Bool.and_false, tupAt, optE, endsOf,
  List.map_cons, List.map_nil, List.length_cons, List.length_nil, List.cons_append, List.nil_append, List.append_nil, List.getElem?_cons_zero, List.getElem?_cons_succ, List.getElem?_nil, List.set_cons_zero, List.set_cons_succ, List.replicate_succ, List.replicate_zero, List.length_append, List.replicate,
  of_sE, String.reduceEq, decide_true, decide_false, Bool.false_eq_true, Bool.not_true, Bool.not_false, reduceIte, exists_eq_left, exists_eq_left', true_and, and_true, if_true, if_false, ite_true, ite_false, Nat.reduceAdd, Nat.reduceSub, Nat.reduceBEq, BEq.rfl, beq_self_eq_true, D.ref.injEq, D.int.injEq, D.str.injEq, D.lst.injEq, D.tup.injEq, List.cons.injEq, exists_and_left, exists_const, and_self])
local macro_rules | `(tactic| walk_at "s0") => `(tactic| (dsimp only [startD, List.length_cons, List.length_nil, List.map_cons, List.map_nil, List.cons_append, List.nil_append, Nat.reduceAdd, Nat.reduceSub, List.replicate_succ, List.replicate_zero]))
local macro_rules | `(tactic| walk_at "st") => `(tactic| ((conv => whnf); (try dsimp only [List.set_cons_zero, List.set_cons_succ]); repeat ((refine ⟨Nat.le_of_ble_eq_true rfl, ?_⟩); (conv => whnf); (try dsimp only [List.set_cons_zero, List.set_cons_succ]))))

section
variable {P : Program} {K : PySem.W.Frag} {mg : Str → Option Value} {w : World} {base : Heap}
def spAfterAlt : SpD := sp2 fun a b M Q => ∃ (o : Option (List (Nat × Nat × List Stm))) (k : List Stm), a = opD o ∧ b = .lst (stmsD k) ∧ Q (afterAlt o k).d M
abbrev n_after_alt : List Str := ["rows", "stack"]
theorem sc_after_alt : FnScope n_after_alt ["rows", "stack"] (defScope s_after_alt) := ⟨rfl, rfl, rfl, by decide +kernel, rfl, by decide +kernel, by decide +kernel⟩
/-- after_alt; slots 0 rows, 1 stack; cells []; calls [] -/
theorem ok_after_alt (B : Bl K mg) (Tx : Txt K mg "after_alt" s_after_alt) : Have P w K mg base "after_alt" ["rows", "stack"] 1 spAfterAlt := by
  refine have_of Tx sc_after_alt (fun _ _ _ _ _ _ us hl => match us, hl with | [_, _], _ => rfl) len2 fun cdv f A outer s H E hr => ⟨_, (dss_cons (ds_if (dt_cmp op_isN_d (dv 0) de_non (nomark _)) (dss_one (ds_ret (de_faulted B rfl))) dss_nil)
    (dss_one (ds_ret (de_ifExp (dt_cmp op_gt_d (de_callB call_len_d rfl B.len PySem.boot_len (da_cons (dv 0) da_nil)) de_int (nomark _)) (de_tup (da_cons de_str (da_cons (dv 0) (da_cons (dv 1) da_nil)))) (de_stopped B rfl))))), ?_⟩
  rintro _ M Q ⟨_, _, rfl, o, k, rfl, rfl, h⟩
  cases o with
  | none =>
    walk_at "st"
    exact rt_same h
  | some l =>
    cases l with
    | nil =>
      walk_at "st"
      refine ⟨_, .lst, ?_⟩
      walk_at "st"
      exact rt_same h
    | cons r l =>
      walk_at "st"
      refine ⟨_, .lst, ?_⟩
      refine iteP (fun _ => ?_) (fun c => absurd (by simp only [List.map_cons, List.length_cons]; omega) c)
      walk_at "st"
      exact rt_same h
def isTest : Stm → Bool
  | .ite _ _ _ => true
  | .rep _ _ _ => true
  | _ => false
def spAfterTest : SpD := sp3 fun a b c M Q => ∃ (s : Stm) (k : List Stm) (cs : List Nat) (n T C : Nat), a = s.d ∧ b = .lst (stmsD k) ∧ c = natsD cs ∧ isTest s = true ∧ s.wf n T C ∧ Cells n cs ∧ k.length ≤ 3000 ∧ Q (afterTest cs k s).d M
theorem stmsD_len (k : List Stm) : (stmsD k).length = k.length := by rw [stmsD_eq, List.length_map]
abbrev n_after_test : List Str := ["s", "stack", "cells", "found"]
theorem sc_after_test : FnScope n_after_test ["s", "stack", "cells"] (defScope s_after_test) := ⟨rfl, rfl, rfl, by decide +kernel, rfl, by decide +kernel, by decide +kernel⟩
/-- after_test; slots 0 s, 1 stack, 2 cells, 3 found; cells []; calls ['at', 'value'] -/
theorem ok_after_test (B : Bl K mg) (Tx : Txt K mg "after_test" s_after_test) (c_at : Have P w K mg base "at" ["stack"] 1 spAt) (c_value : Have P w K mg base "value" ["e", "cells"] 15 (spVal 7)) : Have P w K mg base "after_test" ["s", "stack", "cells"] 16 spAfterTest := by
  refine have_of Tx sc_after_test (fun _ _ _ _ _ _ us hl => match us, hl with | [_, _, _], _ => rfl) len3 fun cdv f A outer s H E hr => ⟨_, (dss_cons (ds_if (dt_w (dw_and (dt_cmp (op_eq_d (hu2 hr)) (de_ix (dv 0) de_int) de_str (nomark _)) (dw_and1 (dt_cmp (op_eq_d (hu2 hr)) (de_ix (dv 0) de_int) de_int (nomark _))))) (dss_one (ds_ret (de_callH c_at (hr.mono (by omega)) rfl (da_cons (dv 1) da_nil)))) dss_nil)
    (dss_cons (ds_set (i := 3) sc_after_test.nd rfl (Or.inl rfl) (de_callH c_value (hr.mono (by omega)) rfl (da_cons (de_ix (dv 0) de_int) (da_cons (dv 2) da_nil))))
    (dss_cons (ds_if (dt_cmp op_isN_d (dv 3) de_non (nomark _)) (dss_one (ds_ret (de_faulted B rfl))) dss_nil)
    (dss_cons (ds_if (dt_cmp (op_eq_d (hu2 hr)) (de_ix (dv 0) de_int) de_str (nomark _)) (dss_one (ds_ret (de_callH c_at (hr.mono (by omega)) rfl (da_cons (de_op op_add_d (de_lst (da_cons (de_ifExp (dt_cmp (op_ne_d (hu2 hr)) (dv 3) de_int (nomark _)) (de_ix (dv 0) de_int) (de_ix (dv 0) de_int)) da_nil)) (dv 1)) da_nil)))) dss_nil)
    (dss_cons (ds_if (dt_cmp (op_eq_d (hu2 hr)) (dv 3) de_int (nomark _)) (dss_one (ds_ret (de_callH c_at (hr.mono (by omega)) rfl (da_cons (dv 1) da_nil)))) dss_nil)
    (dss_one (ds_ret (de_callH c_at (hr.mono (by omega)) rfl (da_cons (de_op op_add_d (de_lst (da_cons (de_ix (dv 0) de_int) (da_cons (de_tup (da_cons de_str (da_cons (de_ix (dv 0) de_int) (da_cons (de_op op_sub_d (de_ix (dv 0) de_int) de_int) (da_cons (de_ix (dv 0) de_int) da_nil))))) da_nil))) (dv 1)) da_nil))))))))), ?_⟩
  rintro _ M Q ⟨_, _, _, rfl, st, k, cs, n, T, C, rfl, rfl, rfl, ht, Ws, Cc, hk, h⟩
  have hl := stmsD_len k
  cases st with
  | ite e a b =>
    walk_at "st"
    refine ⟨_, _, rfl, e, cs, n, rfl, rfl, Ws.1.1, Cc, Ws.1.2, ?_⟩
    simp only [afterTest] at h
    cases hv : val cs e with
    | none =>
      rw [hv] at h
      walk_at "st"
      exact rt_same h
    | some v =>
      rw [hv] at h
      walk_at "st"
      refine iteN (fun c => ?_) (fun c => ?_)
      · simp only [if_pos (show v ≠ 0 from fun z => c (by rw [z]; rfl))] at h
        walk_at "st"
        refine ⟨_, _, .lst, .lst, by rw [sizeLine_eq]; simp only [List.length_cons, List.length_nil]; omega, _, rfl, a :: k, rfl, rt_same h⟩
      · simp only [if_neg (show ¬ v ≠ 0 from fun z => z (Int.ofNat_inj.mp c))] at h
        walk_at "st"
        refine ⟨_, _, .lst, .lst, by rw [sizeLine_eq]; simp only [List.length_cons, List.length_nil]; omega, _, rfl, b :: k, rfl, rt_same h⟩
  | rep e m b =>
    simp only [afterTest] at h
    walk_at "st"
    refine iteP (fun c => ?_) (fun c => ?_)
    · rw [if_pos (Int.ofNat_inj.mp c)] at h
      exact ⟨_, rfl, k, rfl, rt_same h⟩
    rw [if_neg (fun z => c (by rw [z]; rfl))] at h
    walk_at "st"
    refine ⟨_, _, rfl, e, cs, n, rfl, rfl, Ws.1.1, Cc, Ws.1.2, ?_⟩
    cases hv : val cs e with
    | none =>
      rw [hv] at h
      walk_at "st"
      exact rt_same h
    | some v =>
      simp only [hv] at h
      walk_at "st"
      refine iteP (fun c2 => ?_) (fun c2 => ?_)
      · rw [if_pos (Int.ofNat_inj.mp c2)] at h
        exact ⟨_, rfl, k, rfl, rt_same h⟩
      · rw [if_neg (fun z => c2 (by rw [z]; rfl))] at h
        walk_at "st"
        refine ⟨_, _, .lst, .lst, by rw [sizeLine_eq]; simp only [List.length_cons, List.length_nil]; omega, _, rfl, b :: .rep e (m - 1) b :: k, ?_, rt_same h⟩
        have e1 : ((m : Int) - 1) = ((m - 1 : Nat) : Int) := by
          have : m ≠ 0 := fun z => c (by rw [z]; rfl)
          omega
        show D.lst ([b.d, D.tup [S "repeat", e.d, .int ((m : Int) - 1), b.d]] ++ stmsD k) = _
        rw [e1]
        rfl
  | _ => cases ht
def isPlain : Stm → Bool
  | .set _ _ => false
  | .par _ => false
  | _ => true
def spAfterStep : SpD := sp3 fun a b c M Q => ∃ (s : Stm) (k : List Stm) (cs : List Nat) (n T C : Nat), a = s.d ∧ b = .lst (stmsD k) ∧ c = natsD cs ∧ isPlain s = true ∧ s.wf n T C ∧ Cells n cs ∧ works (s :: k) ≤ 3000 ∧ Q (afterStep cs k s).d M
abbrev n_after_step : List Str := ["s", "stack", "cells", "kind", "word", "cell"]
theorem sc_after_step : FnScope n_after_step ["s", "stack", "cells"] (defScope s_after_step) := ⟨rfl, rfl, rfl, by decide +kernel, rfl, by decide +kernel, by decide +kernel⟩
/-- after_step; slots 0 s, 1 stack, 2 cells, 3 kind, 4 word, 5 cell; cells []; calls ['after_test', 'at', 'after_alt', 'opened', 'place', 'value'] -/
theorem ok_after_step (B : Bl K mg) (Tx : Txt K mg "after_step" s_after_step) (c_at : Have P w K mg base "at" ["stack"] 1 spAt) (c_value : Have P w K mg base "value" ["e", "cells"] 15 (spVal 7)) (c_place : Have P w K mg base "place" ["target", "cells"] 14 (spPlc 7))
    (c_opened : Have P w K mg base "opened" ["rows", "cells"] 16 spOpened) (c_after_alt : Have P w K mg base "after_alt" ["rows", "stack"] 1 spAfterAlt) (c_after_test : Have P w K mg base "after_test" ["s", "stack", "cells"] 16 spAfterTest) :
    Have P w K mg base "after_step" ["s", "stack", "cells"] 17 spAfterStep := by
  refine have_of Tx sc_after_step (fun _ _ _ _ _ _ us hl => match us, hl with | [_, _, _], _ => rfl) len3 fun cdv f A outer s H E hr => ⟨_, (dss_cons (ds_set (i := 3) sc_after_step.nd rfl (Or.inl rfl) (de_ix (dv 0) de_int))
    (dss_cons (ds_if (dt_cmp (op_eq_d (hu2 hr)) (dv 3) de_str (nomark _)) (dss_one (ds_ret (de_callH c_at (hr.mono (by omega)) rfl (da_cons (dv 1) da_nil)))) dss_nil)
    (dss_cons (ds_if (dt_cmp (op_eq_d (hu2 hr)) (dv 3) de_str (nomark _)) (dss_one (ds_ret (de_stopped B rfl))) dss_nil)
    (dss_cons (ds_if (dt_cmp (op_eq_d (hu2 hr)) (dv 3) de_str (nomark _)) (dss_cons (ds_set (i := 4) sc_after_step.nd rfl (Or.inl rfl) (de_callH c_value (hr.mono (by omega)) rfl (da_cons (de_ix (dv 0) de_int) (da_cons (dv 2) da_nil))))
    (dss_one (ds_ret (de_ifExp (dt_cmp op_isN_d (dv 4) de_non (nomark _)) (de_faulted B rfl) (de_tup (da_cons de_str (da_cons (de_ix (dv 0) de_int) (da_cons (dv 4) (da_cons (dv 1) da_nil))))))))) dss_nil)
    (dss_cons (ds_if (dt_cmp (op_eq_d (hu2 hr)) (dv 3) de_str (nomark _)) (dss_cons (ds_set (i := 5) sc_after_step.nd rfl (Or.inl rfl) (de_callH c_place (hr.mono (by omega)) rfl (da_cons (de_ix (dv 0) de_int) (da_cons (dv 2) da_nil))))
    (dss_one (ds_ret (de_ifExp (dt_cmp op_isN_d (dv 5) de_non (nomark _)) (de_faulted B rfl) (de_tup (da_cons de_str (da_cons (de_lst (da_cons (de_tup (da_cons (de_ix (dv 0) de_int) (da_cons (dv 5) (da_cons (de_lst da_nil) da_nil)))) da_nil)) (da_cons (dv 1) da_nil)))))))) dss_nil)
    (dss_cons (ds_if (dt_cmp (op_eq_d (hu2 hr)) (dv 3) de_str (nomark _)) (dss_one (ds_ret (de_callH c_after_alt (hr.mono (by omega)) rfl (da_cons (de_callH c_opened (hr.mono (by omega)) rfl (da_cons (de_ix (dv 0) de_int) (da_cons (dv 2) da_nil))) (da_cons (dv 1) da_nil))))) dss_nil)
    (dss_cons (ds_if (dt_cmp (op_eq_d (hu2 hr)) (dv 3) de_str (nomark _)) (dss_one (ds_ret (de_callH c_at (hr.mono (by omega)) rfl (da_cons (de_op op_add_d (de_ix (dv 0) de_int) (dv 1)) da_nil)))) dss_nil)
    (dss_one (ds_ret (de_callH c_after_test (hr.mono (by omega)) rfl (da_cons (dv 0) (da_cons (dv 1) (da_cons (dv 2) da_nil))))))))))))), ?_⟩
  rintro _ M Q ⟨_, _, _, rfl, st, k, cs, n, T, C, rfl, rfl, rfl, ht, Ws, Cc, hk, h⟩
  have hl := stmsD_len k
  have hk2 : k.length ≤ 3000 := by
    have := len_works k
    simp only [works] at hk
    omega
  cases st with
  | skip =>
    walk_at "st"
    exact ⟨_, rfl, k, rfl, rt_same h⟩
  | stop =>
    walk_at "st"
    exact rt_same h
  | give c e =>
    walk_at "st"
    refine ⟨_, _, rfl, e, cs, n, rfl, rfl, Ws.2.1, Cc, Ws.2.2, ?_⟩
    simp only [afterStep] at h
    cases hv : val cs e with
    | none =>
      rw [hv] at h
      walk_at "st"
      exact rt_same h
    | some v =>
      rw [hv] at h
      walk_at "st"
      exact rt_same h
  | take c t =>
    walk_at "st"
    refine ⟨_, _, rfl, t, cs, n, rfl, rfl, Ws.2.1, Ws.2.2.1, Cc, Ws.2.2.2, ?_⟩
    simp only [afterStep] at h
    cases hv : plc cs t with
    | none =>
      rw [hv] at h
      walk_at "st"
      exact rt_same h
    | some v =>
      rw [hv] at h
      walk_at "st"
      exact rt_same h
  | alt rows =>
    walk_at "st"
    exact ⟨_, _, rfl, rows, cs, n, T, C, rfl, rfl, Cc, Ws.2.2, Ws.1, _, _, rfl, openR cs rows, k, rfl, rfl, rt_same h⟩
  | seq l =>
    walk_at "st"
    have hll := len_works l
    refine ⟨_, _, .lst, .lst, ?_, _, rfl, l ++ k, ?_, rt_same h⟩
    · simp only [works, Stm.work] at hk
      rw [sizeLine_eq, stmsD_len, hl]
      omega
    · rw [stmsD_eq, stmsD_eq, stmsD_eq, List.map_append]
  | ite e a b =>
    walk_at "st"
    exact ⟨_, _, _, rfl, _, k, cs, n, T, C, rfl, rfl, rfl, rfl, Ws, Cc, hk2, rt_same h⟩
  | rep e m b =>
    walk_at "st"
    exact ⟨_, _, _, rfl, _, k, cs, n, T, C, rfl, rfl, rfl, rfl, Ws, Cc, hk2, rt_same h⟩
  | set _ _ => cases ht
  | par _ => cases ht
end
end Dl
namespace Dl
open PySem PySem.Spec PyProof.Rows L2 Mi
local macro_rules | `(tactic| walk_at "dl") => `(tactic| simp only [dRet, dOp, dSl, dV, dNoP, dPart, dLst, dLstM, dCons, dNil, dC, startD, rAdd, rAddM, rIx, rEq, rNe, rII, rII0, rIB0, rMul, rIsN, rNotN, isNon, dNeg, dTest, dAnd, dOr, dNot, dAndV, dOrV, dNotV, dIf, dTup, dFrz, dCB, rLen, rInt1, rAbs1, rMin2, rAll1, dBM, rApp, rExt, rPop0,
  dGet, dPut, dNext, dSeq, dDrop, dIfS, dName, dgNil, dgCons, dgTup, dAsg, dSub, rSet, dPar, dIL, dIT, dIR, dIE, dIZ, dFor, dYes, dCall, dLc, dLcM, dLcF, dPair, dGetT, dInT, dPutT, dNewT, wipeD,
  natsD, isL_lst, isL_ref, seqIn_tup, seqIn_lst, rIn, flatD, eqD, List.all_cons, List.all_nil, List.any_cons, List.any_nil, sizeLine_eq, Nat.reduceLeDiff, Nat.reduceLT, Bool.or_false, Bool.and_true, Bool.true_and, Bool.false_and, Bool.false_or, Bool.or_true, Bool.true_or, Bool.and_false, tupAt, optE, endsOf,
  List.map_cons, List.map_nil, List.length_cons, List.length_nil, List.cons_append, List.nil_append, List.append_nil, List.getElem?_cons_zero, List.getElem?_cons_succ, List.getElem?_nil, List.set_cons_zero, List.set_cons_succ, List.replicate_succ, List.replicate_zero, List.length_append, List.replicate,
  of_sE, String.reduceEq, decide_true, decide_false, Bool.false_eq_true, Bool.not_true, Bool.not_false, reduceIte, exists_eq_left, exists_eq_left', true_and, and_true, if_true, if_false, ite_true, ite_false, Nat.reduceAdd, Nat.reduceSub, Nat.reduceBEq, BEq.rfl, beq_self_eq_true, D.ref.injEq, D.int.injEq, D.str.injEq, D.lst.injEq, D.tup.injEq, List.cons.injEq, exists_and_left, exists_const, and_self])
local macro_rules | `(tactic| walk_at "s0") => `(tactic| (dsimp only [startD, List.length_cons, List.length_nil, List.map_cons, List.map_nil, List.cons_append, List.nil_append, Nat.reduceAdd, Nat.reduceSub, List.replicate_succ, List.replicate_zero]))
local macro_rules | `(tactic| walk_at "st") => `(tactic| ((conv => whnf); (try dsimp only [List.set_cons_zero, List.set_cons_succ]); repeat ((refine ⟨Nat.le_of_ble_eq_true rfl, ?_⟩); (conv => whnf); (try dsimp only [List.set_cons_zero, List.set_cons_succ]))))

section
variable {P : Program} {K : PySem.W.Frag} {mg : Str → Option Value} {w : World} {base : Heap}
def thrD (l : List Cond) : D := .lst (l.map Cond.d)
theorem set_map {α : Type} {f : α → D} {l : List α} {i : Nat} {a : α} : (l.map f).set i (f a) = (l.set i a).map f := by rw [List.map_set]
def spStep : SpD := sp2 fun a b M Q => ∃ (co : Core) (inp : List (List Nat)) (T : Nat) (F : Fix co inp T) (s : Sta) (t : Nat) (st : Stm) (k : List Stm), a = s.d ∧ b = N t ∧ s.wf F ∧ s.thr[t]? = some (.on (st :: k)) ∧ Q (stepT s t).d M
theorem forks_len (l : List (Nat × Stm)) (thr : List Cond) : (forks l thr).length = thr.length := by
  unfold forks
  induction l generalizing thr with
  | nil => rfl
  | cons p l ih => rw [List.foldl_cons, ih, List.length_set]
theorem forks_snoc (l : List (Nat × Stm)) (p : Nat × Stm) (thr : List Cond) : forks (l ++ [p]) thr = (forks l thr).set p.1 (.on [p.2]) := by
  unfold forks
  rw [List.foldl_append]; rfl
def brD (p : Nat × Stm) : D := .tup [N p.1, p.2.d]
theorem brsD_map (l : List (Nat × Stm)) : brsD l = l.map brD := brsD_eq l
theorem stmsD_drop1 (a : Stm) (k : List Stm) : cutD (stmsD (a :: k)) (some ((1 : Nat) : Int)) none = stmsD k := by
  rw [cut_hi]; rfl
theorem at0 {α : Type} (x : α) (l : List α) : atI (x :: l) (0 : Int) = some x := atI_nat (j := 0) rfl
theorem fin_thr {Q : KD} {M : Mh} {s : Sta} {t : Nat} {c : Cond} (h : Q (Sta.d { s with thr := s.thr.set t c }) M) : rtOf Q (.tup [natsD s.cells, .lst ((s.thr.map Cond.d).set t c.d), natsD s.taken, .lst (s.outs.map natsD)]) M := by
  rw [set_map]; exact rt_same h
theorem fin_ct {Q : KD} {M : Mh} {s : Sta} {t x v : Nat} {c : Cond} (h : Q (Sta.d { s with cells := s.cells.set x v, thr := s.thr.set t c }) M) : rtOf Q (.tup [.lst ((s.cells.map N).set x (N v)), .lst ((s.thr.map Cond.d).set t c.d), natsD s.taken, .lst (s.outs.map natsD)]) M := by
  rw [set_map, set_map]; exact rt_same h
theorem plain_tag {st : Stm} (h : isPlain st = true) : ∃ (x : Str) (r : List D), st.d = .tup (.str x :: r) ∧ decide (x = Str.ofString "set") = false ∧ decide (x = Str.ofString "par") = false := by
  cases st <;> first
    | exact ⟨_, _, rfl, by rw [of_sE]; rfl, by rw [of_sE]; rfl⟩
    | cases h
abbrev n_step : List Str := ["state", "thread", "cells", "threads", "taken", "outputs", "stack", "s", "rest", "word", "cell", "other", "_", "statement"]
theorem sc_step : FnScope n_step ["state", "thread"] (defScope s_step) := ⟨rfl, rfl, rfl, by decide +kernel, rfl, by decide +kernel, by decide +kernel⟩
/-- step; slots 0 state, 1 thread, 2 cells, 3 threads, 4 taken, 5 outputs, 6 stack, 7 s, 8 rest, 9 word, 10 cell, 11 other, 12 _, 13 statement; cells []; calls ['with_item', 'after_step', 'at', 'with_cell', 'place', 'value'] -/
theorem ok_step (B : Bl K mg) (Tx : Txt K mg "step" s_step) (c_at : Have P w K mg base "at" ["stack"] 1 spAt) (c_value : Have P w K mg base "value" ["e", "cells"] 15 (spVal 7)) (c_place : Have P w K mg base "place" ["target", "cells"] 14 (spPlc 7))
    (c_with_item : Have P w K mg base "with_item" ["rows", "index", "item"] 1 spWith) (c_with_cell : Have P w K mg base "with_cell" ["cells", "cell", "word"] 1 spWith) (c_after_step : Have P w K mg base "after_step" ["s", "stack", "cells"] 17 spAfterStep) :
    Have P w K mg base "step" ["state", "thread"] 18 spStep := by
  refine have_of Tx sc_step (fun _ _ _ _ _ _ us hl => match us, hl with | [_, _], _ => rfl) len2 fun cdv f A outer s H E hr => ⟨_, (dss_cons (ds_asg (vs := [2, 3, 4, 5]) (dv 0) (dg_tup (n := 4) rfl (dgs_cons (dg_name (i := 2) (by decide) sc_step.nd rfl (Or.inl rfl)) (dgs_cons (dg_name (i := 3) (by decide) sc_step.nd rfl (Or.inl rfl)) (dgs_cons (dg_name (i := 4) (by decide) sc_step.nd rfl (Or.inl rfl)) (dgs_cons (dg_name (i := 5) (by decide) sc_step.nd rfl (Or.inl rfl)) dgs_nil))))))
    (dss_cons (ds_set (i := 6) sc_step.nd rfl (Or.inl rfl) (de_ix (de_ix (dv 3) (dv 1)) de_int))
    (dss_cons (ds_par (i := 7) (j := 8) rfl sc_step.nd rfl rfl (by decide) rfl rfl (da_cons (de_ix (dv 6) de_int) (da_cons (de_slice (dv 6) (do_some de_int) do_none) da_nil)) rfl)
    (dss_cons (ds_if (dt_cmp (op_eq_d (hu2 hr)) (de_ix (dv 7) de_int) de_str (nomark _)) (dss_cons (ds_set (i := 9) sc_step.nd rfl (Or.inl rfl) (de_callH c_value (hr.mono (by omega)) rfl (da_cons (de_ix (dv 7) de_int) (da_cons (dv 2) da_nil))))
    (dss_cons (ds_set (i := 10) sc_step.nd rfl (Or.inl rfl) (de_callH c_place (hr.mono (by omega)) rfl (da_cons (de_ix (dv 7) de_int) (da_cons (dv 2) da_nil))))
    (dss_cons (ds_if (dt_w (dw_or (dt_cmp op_isN_d (dv 9) de_non (nomark _)) (dw_or1 (dt_cmp op_isN_d (dv 10) de_non (nomark _))))) (dss_one (ds_ret (de_tup (da_cons (dv 2) (da_cons (de_callH c_with_item (hr.mono (by omega)) rfl (da_cons (dv 3) (da_cons (dv 1) (da_cons (de_faulted B rfl) da_nil)))) (da_cons (dv 4) (da_cons (dv 5) da_nil))))))) dss_nil)
    (dss_one (ds_ret (de_tup (da_cons (de_callH c_with_cell (hr.mono (by omega)) rfl (da_cons (dv 2) (da_cons (dv 10) (da_cons (dv 9) da_nil)))) (da_cons (de_callH c_with_item (hr.mono (by omega)) rfl (da_cons (dv 3) (da_cons (dv 1) (da_cons (de_callH c_at (hr.mono (by omega)) rfl (da_cons (dv 8) da_nil)) da_nil)))) (da_cons (dv 4) (da_cons (dv 5) da_nil)))))))))) dss_nil)
    (dss_cons (ds_if (dt_cmp (op_eq_d (hu2 hr)) (de_ix (dv 7) de_int) de_str (nomark _)) (dss_cons (ds_set (i := 3) sc_step.nd rfl (Or.inl rfl) (de_callH c_with_item (hr.mono (by omega)) rfl (da_cons (dv 3) (da_cons (dv 1) (da_cons (de_tup (da_cons de_str (da_cons (de_lc (own := [("other", 11), ("_", 12)]) rfl sc_step.nd (di_list (de_ix (dv 7) de_int)) (blkOk_by (N := n_step) (sc := defScope s_step) (by decide +kernel)) (fun _ _ _ _ _ => (dg_tup (n := 2) rfl (dgs_cons (dg_name (i := 11) (by decide) sc_step.nd rfl (Or.inl rfl)) (dgs_cons (dg_name (i := 12) (by decide) sc_step.nd rfl (Or.inl rfl)) dgs_nil)))) (fun _ _ _ _ _ => dts_nil) (fun _ _ _ _ _ => (dv 11))) (da_cons (dv 8) da_nil)))) da_nil)))))
    (dss_cons (ds_for (vs := [11, 13]) PassesOwn.never rfl (di_list (de_ix (dv 7) de_int)) (dg_tup (n := 2) rfl (dgs_cons (dg_name (i := 11) (by decide) sc_step.nd rfl (Or.inl rfl)) (dgs_cons (dg_name (i := 13) (by decide) sc_step.nd rfl (Or.inl rfl)) dgs_nil))) (dss_one (ds_set (i := 3) sc_step.nd rfl (Or.inl rfl) (de_callH c_with_item (hr.mono (by omega)) rfl (da_cons (dv 3) (da_cons (dv 11) (da_cons (de_callH c_at (hr.mono (by omega)) rfl (da_cons (de_lst (da_cons (dv 13) da_nil)) da_nil)) da_nil)))))))
    (dss_one (ds_ret (de_tup (da_cons (dv 2) (da_cons (dv 3) (da_cons (dv 4) (da_cons (dv 5) da_nil))))))))) dss_nil)
    (dss_one (ds_ret (de_tup (da_cons (dv 2) (da_cons (de_callH c_with_item (hr.mono (by omega)) rfl (da_cons (dv 3) (da_cons (dv 1) (da_cons (de_callH c_after_step (hr.mono (by omega)) rfl (da_cons (dv 7) (da_cons (dv 8) (da_cons (dv 2) da_nil)))) da_nil)))) (da_cons (dv 4) (da_cons (dv 5) da_nil)))))))))))), ?_⟩
  rintro _ M Q ⟨_, _, rfl, co, inp, T, F, s, t, st, k, rfl, rfl, W, hc, h⟩
  have hTl : s.thr.length ≤ 1000 := by rw [W.thr]; exact F.T2
  have ht : t < s.thr.length := (List.getElem?_eq_some_iff.mp hc).1
  have Wc : Cond.wf co.n T co.kinds.length (.on (st :: k)) := W.cond _ (List.mem_of_getElem? hc)
  have Ws : st.wf co.n T co.kinds.length := Wc.2.1
  have hm := Nat.le_trans (Sta.meas_at hc) W.meas
  have hcl : s.cells.length ≤ 1000 := by rw [W.cells.len]; exact F.n2
  have eT : stepT s t = stepS s t k st := by unfold stepT; rw [getD_get hc]
  rw [eT] at h
  walk_at "s0"
  walk_at "st"
  refine ⟨_, map_get hc, ?_⟩
  walk_at "st"
  refine ⟨_, at0 st.d (stmsD k), ?_⟩
  walk_at "st"
  refine ⟨_, .lst, ?_⟩
  have e1 : cutD (stmsD (st :: k)) (some (1 : Int)) none = stmsD k := stmsD_drop1 st k
  rw [e1]
  have hd1 : t < (s.thr.map Cond.d).length := by rw [List.length_map]; exact ht
  have hd2 : (s.thr.map Cond.d).length ≤ 1000000 := by rw [List.length_map]; omega
  by_cases hpl : isPlain st = true
  · obtain ⟨x, r, ed, n1, n2⟩ := plain_tag hpl
    have e3 : stepS s t k st = { s with thr := s.thr.set t (afterStep s.cells k st) } := by cases st <;> first | rfl | cases hpl
    rw [e3] at h
    rw [ed]
    walk_at "st"
    refine tF n1 ?_
    walk_at "st"
    refine tF n2 ?_
    walk_at "st"
    refine ⟨_, _, _, rfl, st, k, s.cells, co.n, T, co.kinds.length, ed.symm, rfl, rfl, hpl, Ws, W.cells, hm, _, _, _, rfl, _, t, rfl, rfl, hd1, hd2, ?_⟩
    walk_at "st"
    exact fin_thr h
  cases st with
  | set tg e =>
    simp only [stepS] at h
    walk_at "st"
    refine ⟨_, _, rfl, e, s.cells, co.n, rfl, rfl, Ws.2.1, W.cells, Ws.2.2, ?_⟩
    walk_at "st"
    refine ⟨_, _, rfl, tg, s.cells, co.n, rfl, rfl, Ws.1.1, Ws.1.2.1, W.cells, Ws.1.2.2, ?_⟩
    cases hv : val s.cells e with
    | none =>
      simp only [hv] at h
      walk_at "st"
      refine ⟨_, _, _, rfl, _, t, rfl, rfl, hd1, hd2, ?_⟩
      walk_at "st"
      exact fin_thr (c := .faulted) h
    | some v =>
      simp only [hv] at h
      cases hp : plc s.cells tg with
      | none =>
        simp only [hp] at h
        walk_at "st"
        refine ⟨_, _, _, rfl, _, t, rfl, rfl, hd1, hd2, ?_⟩
        walk_at "st"
        exact fin_thr (c := .faulted) h
      | some x =>
        simp only [hp] at h
        have hx : x < s.cells.length := by rw [W.cells.len]; exact plc_lt Ws.1.2.1 hp
        walk_at "st"
        refine ⟨_, _, _, rfl, s.cells.map N, x, rfl, rfl, by rw [List.length_map]; exact hx, by rw [List.length_map]; omega, ?_⟩
        walk_at "st"
        refine ⟨_, rfl, k, rfl, _, _, _, rfl, _, t, rfl, rfl, hd1, hd2, ?_⟩
        walk_at "st"
        exact fin_ct h
  | par l =>
    simp only [stepS] at h
    have hl : l.length ≤ 1000 := Ws.1
    have hw := bwf_iff.mp Ws.2
    have ed : (Stm.par l).d = .tup [S "par", .lst (l.map brD)] := by rw [← brsD_map]; rfl
    rw [ed]
    walk_at "st"
    intro p hp
    refine lc_map l brD (fun _ => true) (fun p => N p.1) (by rw [sizeLine_eq]; omega) (by exact fun _ => trivial) (fun r hr' acc Ky Kn hh => ?_) ?_
    · walk_at "st"
      exact hh
    rw [filter_all]
    simp only [del_upd hp]
    walk_at "st"
    refine ⟨_, _, _, rfl, _, t, rfl, rfl, hd1, hd2, ?_⟩
    walk_at "st"
    have e0 : (s.thr.map Cond.d).set t (.tup [S "joining", .lst (l.map fun p => N p.1), .lst (stmsD k)]) = (s.thr.set t (.joining (l.map (·.1)) k)).map Cond.d := by
      rw [← set_map]
      simp only [Cond.d, List.map_map]
      rfl
    refine loop_by (fun i σ M' => ∃ x11 x13, σ = [some s.d, some (N t), some (natsD s.cells), some (.lst ((forks (l.take i) (s.thr.set t (.joining (l.map (·.1)) k))).map Cond.d)), some (natsD s.taken), some (.lst (s.outs.map natsD)), some (.lst (stmsD (Stm.par l :: k))), some (.tup [S "par", .lst (l.map brD)]), some (.lst (stmsD k)), none, none, x11, none, x13] ∧ M' = M)
      (fun _ _ _ _ _ => trivial) ?_ ?_ ⟨_, _, by rw [e0]; rfl, rfl⟩
    · rintro i d σ M' nx hd ⟨x11, x13, rfl, rfl⟩ hnx
      have hi : i < l.length := by
        have := (List.getElem?_eq_some_iff.mp hd).1
        rw [List.length_map] at this
        exact this
      have hr := List.getElem?_eq_getElem hi
      generalize l[i] = r at hr
      have e : d = brD r := by rw [List.getElem?_map, hr] at hd; exact (Option.some.inj hd).symm
      subst e
      have hrt : r.1 < s.thr.length := by rw [W.thr]; exact (hw r (List.mem_of_getElem? hr)).1
      walk_at "st"
      refine ⟨_, rfl, [r.2], rfl, _, _, _, rfl, _, r.1, rfl, rfl, by rw [List.length_map, forks_len, List.length_set]; exact hrt, by rw [List.length_map, forks_len, List.length_set]; omega, ?_⟩
      refine hnx _ _ ⟨some (N r.1), some r.2.d, ?_, rfl⟩
      rw [List.take_succ, hr]
      show _ = [_, _, _, some (D.lst ((forks (l.take i ++ [r]) _).map Cond.d)), _, _, _, _, _, _, _, _, _, _]
      rw [forks_snoc, ← set_map]
      rfl
    · rintro σ M' ⟨x11, x13, rfl, rfl⟩
      rw [List.length_map, List.take_length]
      walk_at "st"
      exact rt_same h
  | _ => exact absurd rfl hpl
end
end Dl
namespace Dl
open PySem PySem.Spec PyProof.Rows L2 Mi
local macro_rules | `(tactic| walk_at "dl") => `(tactic| simp only [dRet, dOp, dSl, dV, dNoP, dPart, dLst, dLstM, dCons, dNil, dC, startD, rAdd, rAddM, rIx, rEq, rNe, rII, rII0, rIB0, rMul, rIsN, rNotN, isNon, dNeg, dTest, dAnd, dOr, dNot, dAndV, dOrV, dNotV, dIf, dTup, dFrz, dCB, rLen, rInt1, rAbs1, rMin2, rAll1, dBM, rApp, rExt, rPop0,
  dGet, dPut, dNext, dSeq, dDrop, dIfS, dName, dgNil, dgCons, dgTup, dAsg, dSub, rSet, dPar, dIL, dIT, dIR, dIE, dIZ, dFor, dYes, dCall, dLc, dLcM, dLcF, dPair, dGetT, dInT, dPutT, dNewT, wipeD,
  natsD, isL_lst, isL_ref, seqIn_tup, seqIn_lst, rIn, flatD, eqD, List.all_cons, List.all_nil, List.any_cons, List.any_nil, sizeLine_eq, Nat.reduceLeDiff, Nat.reduceLT, Bool.or_false, Bool.and_true, Bool.true_and, Bool.false_and, Bool.false_or, Bool.or_true, Bool.true_or, Bool.and_false, tupAt, optE, endsOf,
  List.map_cons, List.map_nil, List.length_cons, List.length_nil, List.cons_append, List.nil_append, List.append_nil, List.getElem?_cons_zero, List.getElem?_cons_succ, List.getElem?_nil, List.set_cons_zero, List.set_cons_succ, List.replicate_succ, List.replicate_zero, List.length_append, List.replicate,
  of_sE, String.reduceEq, decide_true, decide_false, Bool.false_eq_true, Bool.not_true, Bool.not_false, reduceIte, exists_eq_left, exists_eq_left', true_and, and_true, if_true, if_false, ite_true, ite_false, Nat.reduceAdd, Nat.reduceSub, Nat.reduceBEq, BEq.rfl, beq_self_eq_true, D.ref.injEq, D.int.injEq, D.str.injEq, D.lst.injEq, D.tup.injEq, List.cons.injEq, exists_and_left, exists_const, and_self])
local macro_rules | `(tactic| walk_at "s0") => `(tactic| (dsimp only [startD, List.length_cons, List.length_nil, List.map_cons, List.map_nil, List.cons_append, List.nil_append, Nat.reduceAdd, Nat.reduceSub, List.replicate_succ, List.replicate_zero]))
local macro_rules | `(tactic| walk_at "st") => `(tactic| ((conv => whnf); (try dsimp only [List.set_cons_zero, List.set_cons_succ]); repeat ((refine ⟨Nat.le_of_ble_eq_true rfl, ?_⟩); (conv => whnf); (try dsimp only [List.set_cons_zero, List.set_cons_succ]))))

section
variable {P : Program} {K : PySem.W.Frag} {mg : Str → Option Value} {w : World} {base : Heap}
theorem ok_orow {r : Nat × Nat × List Stm} : orowD r = .tup [N r.1, N r.2.1, .lst (stmsD r.2.2)] := rfl
/-- the thread t waits on the rows -/
structure Waits (s : Sta) (c t : Nat) (rows : List (Nat × Nat × List Stm)) (k : List Stm) (r : Nat × Nat × List Stm) : Prop where
  at_ : s.thr[t]? = some (.opn rows k)
  fd : rows.find? (fun r => decide (r.1 = c)) = some r
theorem Waits.recv {s : Sta} {c t w : Nat} {rows k r} (h : Waits s c t rows k r) : Mi.recv s c t w = { s with cells := s.cells.set r.2.1 w, thr := s.thr.set t (onK (r.2.2 ++ k)) } := by
  unfold Mi.recv
  rw [getD_get h.at_]
  simp only [h.fd]
def spReceived : SpD := sp4 fun a b c d M Q => ∃ (co : Core) (inp : List (List Nat)) (T : Nat) (F : Fix co inp T) (s : Sta) (ch t v : Nat) (rows : List (Nat × Nat × List Stm)) (k : List Stm) (r : Nat × Nat × List Stm), a = s.d ∧ b = N ch ∧ c = N t ∧ d = N v ∧ s.wf F ∧ Waits s ch t rows k r ∧
  Q (.tup [natsD (Mi.recv s ch t v).cells, .lst ((Mi.recv s ch t v).thr.map Cond.d)]) M
theorem find_filter {α : Type} {p : α → Bool} : ∀ {l : List α} {a : α}, l.find? p = some a → ∃ r, l.filter p = a :: r
  | [], _, h => by cases h
  | x :: l, a, h => by
    rw [List.find?_cons] at h
    rw [List.filter_cons]
    cases hx : p x with
    | true => rw [hx] at h; cases h; rw [if_pos rfl]; exact ⟨_, rfl⟩
    | false => rw [hx] at h; rw [if_neg Bool.false_ne_true]; exact find_filter h
abbrev n_received : List Str := ["state", "channel", "thread", "word", "_", "rows", "stack", "cell", "ahead", "row"]
theorem sc_received : FnScope n_received ["state", "channel", "thread", "word"] (defScope s_received) := ⟨rfl, rfl, rfl, by decide +kernel, rfl, by decide +kernel, by decide +kernel⟩
/-- received; slots 0 state, 1 channel, 2 thread, 3 word, 4 _, 5 rows, 6 stack, 7 cell, 8 ahead, 9 row; cells ['channel']; calls ['with_item', 'at', 'with_cell'] -/
theorem ok_received (B : Bl K mg) (Tx : Txt K mg "received" s_received) (c_at : Have P w K mg base "at" ["stack"] 1 spAt)
    (c_with_item : Have P w K mg base "with_item" ["rows", "index", "item"] 1 spWith) (c_with_cell : Have P w K mg base "with_cell" ["cells", "cell", "word"] 1 spWith) :
    Have P w K mg base "received" ["state", "channel", "thread", "word"] 2 spReceived := by
  refine have_of Tx sc_received (fun _ _ _ _ _ _ us hl => match us, hl with | [_, _, _, _], _ => rfl) len4 fun cdv f A outer s H E hr => ⟨_, (dss_cons (ds_asg (vs := [4, 5, 6]) (de_ix (de_ix (dv 0) de_int) (dv 2)) (dg_tup (n := 3) rfl (dgs_cons (dg_name (i := 4) (by decide) sc_received.nd rfl (Or.inl rfl)) (dgs_cons (dg_name (i := 5) (by decide) sc_received.nd rfl (Or.inl rfl)) (dgs_cons (dg_name (i := 6) (by decide) sc_received.nd rfl (Or.inl rfl)) dgs_nil)))))
    (dss_cons (ds_asg (vs := [4, 7, 8]) (de_ix (de_lc (own := [("row", 9)]) rfl sc_received.nd (di_list (dv 5)) (blkOk_by (N := n_received) (sc := defScope s_received) (by decide +kernel)) (fun _ _ _ _ _ => (dg_name (i := 9) (by decide) sc_received.nd rfl (Or.inl rfl))) (fun _ _ _ _ _ => (dts_one (dt_cmp (op_eq_d (hu2 hr)) (de_ix (dv 9) de_int) (dv 1) (nomark _)))) (fun _ _ _ _ _ => (dv 9))) de_int) (dg_tup (n := 3) rfl (dgs_cons (dg_name (i := 4) (by decide) sc_received.nd rfl (Or.inl rfl)) (dgs_cons (dg_name (i := 7) (by decide) sc_received.nd rfl (Or.inl rfl)) (dgs_cons (dg_name (i := 8) (by decide) sc_received.nd rfl (Or.inl rfl)) dgs_nil)))))
    (dss_one (ds_ret (de_tup (da_cons (de_callH c_with_cell (hr.mono (by omega)) rfl (da_cons (de_ix (dv 0) de_int) (da_cons (dv 7) (da_cons (dv 3) da_nil)))) (da_cons (de_callH c_with_item (hr.mono (by omega)) rfl (da_cons (de_ix (dv 0) de_int) (da_cons (dv 2) (da_cons (de_callH c_at (hr.mono (by omega)) rfl (da_cons (de_op op_add_d (dv 8) (dv 6)) da_nil)) da_nil)))) da_nil))))))), ?_⟩
  rintro _ M Q ⟨_, _, _, _, rfl, co, inp, T, F, s, ch, t, v, rows, k, r, rfl, rfl, rfl, rfl, W, Wt, h⟩
  rw [Wt.recv] at h
  have hc := Wt.at_
  have hTl : s.thr.length ≤ 1000 := by rw [W.thr]; exact F.T2
  have ht : t < s.thr.length := (List.getElem?_eq_some_iff.mp hc).1
  have Wc : Cond.wf co.n T co.kinds.length (.opn rows k) := W.cond _ (List.mem_of_getElem? hc)
  have hm := Nat.le_trans (Sta.meas_at hc) W.meas
  have hcl : s.cells.length ≤ 1000 := by rw [W.cells.len]; exact F.n2
  have hrm : r ∈ rows := List.mem_of_find?_eq_some Wt.fd
  have hz : rows.length ≤ 1000 := Wc.2.2.1
  obtain ⟨r0, hf⟩ := find_filter Wt.fd
  walk_at "s0"
  walk_at "st"
  refine ⟨_, map_get hc, ?_⟩
  walk_at "st"
  intro p hp
  refine lc_map rows orowD (fun r => decide (r.1 = ch)) orowD (by rw [sizeLine_eq]; omega) (by exact fun _ => trivial) (fun x hx acc Ky Kn hh => ?_) ?_
  · walk_at "st"
    refine iteP (fun c => ?_) (fun c => ?_)
    · rw [if_pos (by rw [decide_eq_true_eq]; exact Int.ofNat_inj.mp c)] at hh
      exact hh
    · rw [if_neg (by rw [decide_eq_true_eq]; exact fun z => c (by rw [z]))] at hh
      exact hh
  rw [hf]
  simp only [del_upd hp]
  walk_at "st"
  refine ⟨_, at0 (orowD r) _, ?_⟩
  walk_at "st"
  refine ⟨_, _, _, rfl, s.cells.map N, r.2.1, rfl, rfl, by rw [List.length_map, W.cells.len]; exact (Wc.1 r hrm).2.1, by rw [List.length_map]; omega, ?_⟩
  walk_at "st"
  have hl1 := len_works r.2.2
  have hl2 := len_works k
  have hrw : works r.2.2 ≤ rowsWork rows := by
    clear hf hz h Wt Wc hc hm
    induction rows with
    | nil => cases hrm
    | cons a rows ih =>
      show _ ≤ max (works a.2.2) (rowsWork rows)
      rcases List.mem_cons.mp hrm with e | e
      · subst e; exact Nat.le_max_left _ _
      · exact Nat.le_trans (ih e) (Nat.le_max_right _ _)
  simp only [Cond.meas] at hm
  refine ⟨_, _, .lst, .lst, by rw [sizeLine_eq, stmsD_len, stmsD_len]; omega, _, rfl, r.2.2 ++ k, by rw [stmsD_eq, stmsD_eq, stmsD_eq, List.map_append], _, _, _, rfl, _, t, rfl, rfl, by rw [List.length_map]; exact ht, by rw [List.length_map]; omega, ?_⟩
  walk_at "st"
  rw [set_map, set_map]
  exact rt_same h
def spEvent : SpD := sp4 fun a b c d M Q => ∃ (co : Core) (inp : List (List Nat)) (T : Nat) (F : Fix co inp T) (s : Sta) (r : Rdx), a = co.d ∧ b = inpD inp ∧ c = s.d ∧ d = r.d ∧ s.wf F ∧ RdxOk inp s r ∧ Q (evntD (evnt inp s r)) M
abbrev n_event : List Str := ["core", "inputs", "state", "redex"]
theorem sc_event : FnScope n_event ["core", "inputs", "state", "redex"] (defScope s_event) := ⟨rfl, rfl, rfl, by decide +kernel, rfl, by decide +kernel, by decide +kernel⟩
/-- event; slots 0 core, 1 inputs, 2 state, 3 redex; cells []; calls [] -/
theorem ok_event (B : Bl K mg) (Tx : Txt K mg "event" s_event) : Have P w K mg base "event" ["core", "inputs", "state", "redex"] 1 spEvent := by
  refine have_of Tx sc_event (fun _ _ _ _ _ _ us hl => match us, hl with | [_, _, _, _], _ => rfl) len4 fun cdv f A outer s H E hr => ⟨_, (dss_cons (ds_if (dt_cmp (op_eq_d (hu2 hr)) (de_ix (dv 3) de_int) de_str (nomark _)) (dss_one (ds_ret (de_tup (da_cons (de_ix (dv 3) de_int) (da_cons (de_ix (de_ix (dv 1) (de_ix (dv 3) de_int)) (de_ix (de_ix (dv 2) de_int) (de_ix (dv 3) de_int))) da_nil))))) dss_nil)
    (dss_cons (ds_if (dt_cmp op_in_d (de_ix (dv 3) de_int) (de_tup (da_cons de_str (da_cons de_str da_nil))) rfl) (dss_one (ds_ret (de_tup (da_cons (de_ix (dv 3) de_int) (da_cons (de_ix (de_ix (de_ix (dv 2) de_int) (de_ix (dv 3) de_int)) de_int) da_nil))))) dss_nil)
    (dss_one (ds_ret de_non)))), ?_⟩
  rintro _ M Q ⟨_, _, _, _, rfl, co, inp, T, F, s, r, rfl, rfl, rfl, rfl, W, R, h⟩
  walk_at "s0"
  cases r with
  | step t =>
    walk_at "st"
    refine ⟨_, .inr rfl, rfl, rfl, ?_⟩
    walk_at "st"
    exact rt_same h
  | fin t =>
    walk_at "st"
    refine ⟨_, .inr rfl, rfl, rfl, ?_⟩
    walk_at "st"
    exact rt_same h
  | input c t =>
    obtain ⟨_, hc, hi, hl⟩ := R
    walk_at "st"
    refine ⟨_, map_get (get_of_lt [] hi), ?_⟩
    walk_at "st"
    refine ⟨_, mapN_get (get_of_lt 0 hc), ?_⟩
    walk_at "st"
    refine ⟨_, mapN_get (get_of_lt 0 hl), ?_⟩
    walk_at "st"
    exact rt_same h
  | meet c g t =>
    obtain ⟨⟨w', k, hg⟩, _⟩ := R
    simp only [evnt, getD_get hg] at h
    walk_at "st"
    refine ⟨_, .inr rfl, rfl, rfl, ?_⟩
    walk_at "st"
    refine ⟨_, map_get hg, ?_⟩
    walk_at "st"
    exact rt_same h
  | output c t =>
    obtain ⟨w', k, hg, _⟩ := R
    simp only [evnt, getD_get hg] at h
    walk_at "st"
    refine ⟨_, .inr rfl, rfl, rfl, ?_⟩
    walk_at "st"
    refine ⟨_, map_get hg, ?_⟩
    walk_at "st"
    exact rt_same h
end
end Dl
namespace Dl
open PySem PySem.Spec PyProof.Rows L2 Mi
local macro_rules | `(tactic| walk_at "dl") => `(tactic| simp only [dRet, dOp, dSl, dV, dNoP, dPart, dLst, dLstM, dCons, dNil, dC, startD, rAdd, rAddM, rIx, rEq, rNe, rII, rII0, rIB0, rMul, rIsN, rNotN, isNon, dNeg, dTest, dAnd, dOr, dNot, dAndV, dOrV, dNotV, dIf, dTup, dFrz, dCB, rLen, rInt1, rAbs1, rMin2, rAll1, dBM, rApp, rExt, rPop0,
  dGet, dPut, dNext, dSeq, dDrop, dIfS, dName, dgNil, dgCons, dgTup, dAsg, dSub, rSet, dPar, dIL, dIT, dIR, dIE, dIZ, dFor, dYes, dCall, dLc, dLcM, dLcF, dPair, dGetT, dInT, dPutT, dNewT, wipeD,
  natsD, isL_lst, isL_ref, seqIn_tup, seqIn_lst, rIn, flatD, eqD, List.all_cons, List.all_nil, List.any_cons, List.any_nil, sizeLine_eq, Nat.reduceLeDiff, Nat.reduceLT, Bool.or_false, Bool.and_true, Bool.true_and, Bool.false_and, Bool.false_or, Bool.or_true, Bool.true_or, Bool.and_false, tupAt, optE, endsOf,
  List.map_cons, List.map_nil, List.length_cons, List.length_nil, List.cons_append, List.nil_append, List.append_nil, List.getElem?_cons_zero, List.getElem?_cons_succ, List.getElem?_nil, List.set_cons_zero, List.set_cons_succ, List.replicate_succ, List.replicate_zero, List.length_append, List.replicate,
  of_sE, String.reduceEq, decide_true, decide_false, Bool.false_eq_true, Bool.not_true, Bool.not_false, reduceIte, exists_eq_left, exists_eq_left', true_and, and_true, if_true, if_false, ite_true, ite_false, Nat.reduceAdd, Nat.reduceSub, Nat.reduceBEq, BEq.rfl, beq_self_eq_true, D.ref.injEq, D.int.injEq, D.str.injEq, D.lst.injEq, D.tup.injEq, List.cons.injEq, exists_and_left, exists_const, and_self])
local macro_rules | `(tactic| walk_at "s0") => `(tactic| (dsimp only [startD, List.length_cons, List.length_nil, List.map_cons, List.map_nil, List.cons_append, List.nil_append, Nat.reduceAdd, Nat.reduceSub, List.replicate_succ, List.replicate_zero]))
local macro_rules | `(tactic| walk_at "st") => `(tactic| ((conv => whnf); (try dsimp only [List.set_cons_zero, List.set_cons_succ]); repeat ((refine ⟨Nat.le_of_ble_eq_true rfl, ?_⟩); (conv => whnf); (try dsimp only [List.set_cons_zero, List.set_cons_succ]))))

section
variable {P : Program} {K : PySem.W.Frag} {mg : Str → Option Value} {w : World} {base : Heap}
def spPerform : SpD := sp4 fun a b c d M Q => ∃ (co : Core) (inp : List (List Nat)) (T : Nat) (F : Fix co inp T) (s : Sta) (r : Rdx), a = co.d ∧ b = inpD inp ∧ c = s.d ∧ d = r.d ∧ s.wf F ∧ RdxOk inp s r ∧ Q (perf inp s r).d M
abbrev n_perform : List Str := ["core", "inputs", "state", "redex", "cells", "threads", "taken", "outputs", "kind", "channel", "_", "word", "stack", "index"]
theorem sc_perform : FnScope n_perform ["core", "inputs", "state", "redex"] (defScope s_perform) := ⟨rfl, rfl, rfl, by decide +kernel, rfl, by decide +kernel, by decide +kernel⟩
/-- perform; slots 0 core, 1 inputs, 2 state, 3 redex, 4 cells, 5 threads, 6 taken, 7 outputs, 8 kind, 9 channel, 10 _, 11 word, 12 stack, 13 index; cells []; calls ['with_item', 'at', 'received', 'step'] -/
theorem ok_perform (B : Bl K mg) (Tx : Txt K mg "perform" s_perform) (c_at : Have P w K mg base "at" ["stack"] 1 spAt) (c_with_item : Have P w K mg base "with_item" ["rows", "index", "item"] 1 spWith)
    (c_step : Have P w K mg base "step" ["state", "thread"] 18 spStep) (c_received : Have P w K mg base "received" ["state", "channel", "thread", "word"] 2 spReceived) : Have P w K mg base "perform" ["core", "inputs", "state", "redex"] 19 spPerform := by
  refine have_of Tx sc_perform (fun _ _ _ _ _ _ us hl => match us, hl with | [_, _, _, _], _ => rfl) len4 fun cdv f A outer s H E hr => ⟨_, (dss_cons (ds_asg (vs := [4, 5, 6, 7]) (dv 2) (dg_tup (n := 4) rfl (dgs_cons (dg_name (i := 4) (by decide) sc_perform.nd rfl (Or.inl rfl)) (dgs_cons (dg_name (i := 5) (by decide) sc_perform.nd rfl (Or.inl rfl)) (dgs_cons (dg_name (i := 6) (by decide) sc_perform.nd rfl (Or.inl rfl)) (dgs_cons (dg_name (i := 7) (by decide) sc_perform.nd rfl (Or.inl rfl)) dgs_nil))))))
    (dss_cons (ds_set (i := 8) sc_perform.nd rfl (Or.inl rfl) (de_ix (dv 3) de_int))
    (dss_cons (ds_if (dt_cmp (op_eq_d (hu2 hr)) (dv 8) de_str (nomark _)) (dss_one (ds_ret (de_callH c_step (hr.mono (by omega)) rfl (da_cons (dv 2) (da_cons (de_ix (dv 3) de_int) da_nil))))) dss_nil)
    (dss_cons (ds_if (dt_cmp (op_eq_d (hu2 hr)) (dv 8) de_str (nomark _)) (dss_one (ds_ret (de_tup (da_cons (dv 4) (da_cons (de_callH c_with_item (hr.mono (by omega)) rfl (da_cons (dv 5) (da_cons (de_ix (dv 3) de_int) (da_cons (de_callH c_at (hr.mono (by omega)) rfl (da_cons (de_ix (de_ix (dv 5) (de_ix (dv 3) de_int)) de_int) da_nil)) da_nil)))) (da_cons (dv 6) (da_cons (dv 7) da_nil))))))) dss_nil)
    (dss_cons (ds_set (i := 9) sc_perform.nd rfl (Or.inl rfl) (de_ix (dv 3) de_int))
    (dss_cons (ds_if (dt_cmp (op_eq_d (hu2 hr)) (dv 8) de_str (nomark _)) (dss_cons (ds_asg (vs := [10, 11, 12]) (de_ix (dv 5) (de_ix (dv 3) de_int)) (dg_tup (n := 4) rfl (dgs_cons (dg_name (i := 10) (by decide) sc_perform.nd rfl (Or.inl rfl)) (dgs_cons (dg_name (i := 10) (by decide) sc_perform.nd rfl (Or.inl rfl)) (dgs_cons (dg_name (i := 11) (by decide) sc_perform.nd rfl (Or.inl rfl)) (dgs_cons (dg_name (i := 12) (by decide) sc_perform.nd rfl (Or.inl rfl)) dgs_nil))))))
    (dss_cons (ds_set (i := 13) sc_perform.nd rfl (Or.inl rfl) (de_op op_sub_d (dv 9) (de_callB call_len_d rfl B.len PySem.boot_len (da_cons (dv 6) da_nil))))
    (dss_cons (ds_set (i := 7) sc_perform.nd rfl (Or.inl rfl) (de_callH c_with_item (hr.mono (by omega)) rfl (da_cons (dv 7) (da_cons (dv 13) (da_cons (de_op op_add_d (de_ix (dv 7) (dv 13)) (de_lst (da_cons (dv 11) da_nil))) da_nil)))))
    (dss_one (ds_ret (de_tup (da_cons (dv 4) (da_cons (de_callH c_with_item (hr.mono (by omega)) rfl (da_cons (dv 5) (da_cons (de_ix (dv 3) de_int) (da_cons (de_callH c_at (hr.mono (by omega)) rfl (da_cons (dv 12) da_nil)) da_nil)))) (da_cons (dv 6) (da_cons (dv 7) da_nil)))))))))) dss_nil)
    (dss_cons (ds_if (dt_cmp (op_eq_d (hu2 hr)) (dv 8) de_str (nomark _)) (dss_cons (ds_asg (vs := [4, 5]) (de_callH c_received (hr.mono (by omega)) rfl (da_cons (dv 2) (da_cons (dv 9) (da_cons (de_ix (dv 3) de_int) (da_cons (de_ix (de_ix (dv 1) (dv 9)) (de_ix (dv 6) (dv 9))) da_nil))))) (dg_tup (n := 2) rfl (dgs_cons (dg_name (i := 4) (by decide) sc_perform.nd rfl (Or.inl rfl)) (dgs_cons (dg_name (i := 5) (by decide) sc_perform.nd rfl (Or.inl rfl)) dgs_nil))))
    (dss_one (ds_ret (de_tup (da_cons (dv 4) (da_cons (dv 5) (da_cons (de_callH c_with_item (hr.mono (by omega)) rfl (da_cons (dv 6) (da_cons (dv 9) (da_cons (de_op op_add_d (de_ix (dv 6) (dv 9)) de_int) da_nil)))) (da_cons (dv 7) da_nil)))))))) dss_nil)
    (dss_cons (ds_asg (vs := [10, 11, 12]) (de_ix (dv 5) (de_ix (dv 3) de_int)) (dg_tup (n := 4) rfl (dgs_cons (dg_name (i := 10) (by decide) sc_perform.nd rfl (Or.inl rfl)) (dgs_cons (dg_name (i := 10) (by decide) sc_perform.nd rfl (Or.inl rfl)) (dgs_cons (dg_name (i := 11) (by decide) sc_perform.nd rfl (Or.inl rfl)) (dgs_cons (dg_name (i := 12) (by decide) sc_perform.nd rfl (Or.inl rfl)) dgs_nil))))))
    (dss_cons (ds_asg (vs := [4, 5]) (de_callH c_received (hr.mono (by omega)) rfl (da_cons (dv 2) (da_cons (dv 9) (da_cons (de_ix (dv 3) de_int) (da_cons (dv 11) da_nil))))) (dg_tup (n := 2) rfl (dgs_cons (dg_name (i := 4) (by decide) sc_perform.nd rfl (Or.inl rfl)) (dgs_cons (dg_name (i := 5) (by decide) sc_perform.nd rfl (Or.inl rfl)) dgs_nil))))
    (dss_one (ds_ret (de_tup (da_cons (dv 4) (da_cons (de_callH c_with_item (hr.mono (by omega)) rfl (da_cons (dv 5) (da_cons (de_ix (dv 3) de_int) (da_cons (de_callH c_at (hr.mono (by omega)) rfl (da_cons (dv 12) da_nil)) da_nil)))) (da_cons (dv 6) (da_cons (dv 7) da_nil)))))))))))))))), ?_⟩
  rintro _ M Q ⟨_, _, _, _, rfl, co, inp, T, F, s, r, rfl, rfl, rfl, rfl, W, R, h⟩
  have hTl : s.thr.length ≤ 1000 := by rw [W.thr]; exact F.T2
  have hC := F.C2
  have hk : F.ins ≤ 1000 ∧ F.outs ≤ 1000 := by
    have := congrArg List.length F.kinds
    simp only [List.length_append, List.length_replicate] at this
    omega
  walk_at "s0"
  cases r with
  | step t =>
    obtain ⟨st, k, hc⟩ := R
    walk_at "st"
    exact ⟨_, _, rfl, co, inp, T, F, s, t, st, k, rfl, rfl, W, hc, rt_same h⟩
  | fin t =>
    obtain ⟨ts, k, hc⟩ := R
    have ht : t < s.thr.length := (List.getElem?_eq_some_iff.mp hc).1
    simp only [perf, getD_get hc] at h
    walk_at "st"
    refine ⟨_, map_get hc, ?_⟩
    walk_at "st"
    refine ⟨_, rfl, k, rfl, _, _, _, rfl, _, t, rfl, rfl, by rw [List.length_map]; exact ht, by rw [List.length_map]; omega, ?_⟩
    walk_at "st"
    exact fin_thr h
  | output c t =>
    obtain ⟨w', k, hc, h1, h2⟩ := R
    have ht : t < s.thr.length := (List.getElem?_eq_some_iff.mp hc).1
    simp only [perf, getD_get hc] at h
    have ho := get_of_lt [] h2
    have hol : (s.outs.getD (c - s.taken.length) []).length ≤ 3000 := W.outl _ (List.mem_of_getElem? ho)
    walk_at "st"
    refine ⟨_, map_get hc, ?_⟩
    walk_at "st"
    refine ⟨_, .lst, ?_⟩
    walk_at "st"
    have ei : ((c : Int) - (((s.taken.map N).length : Nat) : Int)) = ((c - s.taken.length : Nat) : Int) := by rw [List.length_map]; omega
    rw [ei]
    refine ⟨_, map_get ho, ?_⟩
    walk_at "st"
    refine ⟨_, _, .lst, .lst, by rw [sizeLine_eq, List.length_map]; simp only [List.length_cons, List.length_nil]; omega, _, _, _, rfl, _, c - s.taken.length, rfl, rfl, by rw [List.length_map]; exact h2, by rw [List.length_map, W.outs]; omega, ?_⟩
    walk_at "st"
    refine ⟨_, rfl, k, rfl, _, _, _, rfl, _, t, rfl, rfl, by rw [List.length_map]; exact ht, by rw [List.length_map]; omega, ?_⟩
    walk_at "st"
    refine rt_same ?_
    have e1 : ((s.outs.getD (c - s.taken.length) []).map N ++ [N w']) = (s.outs.getD (c - s.taken.length) [] ++ [w']).map N := by rw [List.map_append]; rfl
    have e2 : (s.outs.map natsD).set (c - s.taken.length) (.lst ((s.outs.getD (c - s.taken.length) []).map N ++ [N w'])) = (s.outs.set (c - s.taken.length) (s.outs.getD (c - s.taken.length) [] ++ [w'])).map natsD := by rw [e1, ← set_map]; rfl
    rw [e2, set_map]
    exact h
  | input c t =>
    obtain ⟨⟨rows, k, r, hc, hf⟩, hct, hci, hl⟩ := R
    simp only [perf] at h
    walk_at "st"
    refine ⟨_, map_get (get_of_lt [] hci), ?_⟩
    walk_at "st"
    refine ⟨_, mapN_get (get_of_lt 0 hct), ?_⟩
    walk_at "st"
    refine ⟨_, mapN_get (get_of_lt 0 hl), ?_⟩
    walk_at "st"
    refine ⟨_, _, _, _, rfl, co, inp, T, F, s, c, t, _, rows, k, r, rfl, rfl, rfl, rfl, W, ⟨hc, hf⟩, ?_⟩
    walk_at "st"
    refine ⟨_, mapN_get (get_of_lt 0 hct), ?_⟩
    walk_at "st"
    refine ⟨_, _, _, rfl, s.taken.map N, c, rfl, rfl, by rw [List.length_map]; exact hct, by rw [List.length_map, W.taken]; omega, ?_⟩
    walk_at "st"
    refine rt_same ?_
    have e3 : (s.taken.map N).set c (.int ((s.taken.getD c 0 : Nat) + 1)) = (s.taken.set c (s.taken.getD c 0 + 1)).map N := by rw [← set_map]; rfl
    rw [e3]
    have e4 : ∀ v, (Mi.recv s c t v).outs = s.outs := fun v => by rw [Waits.recv ⟨hc, hf⟩]
    have e5 : ({ Mi.recv s c t (wordIn inp s c) with taken := s.taken.set c (s.taken.getD c 0 + 1) } : Sta).d = .tup [natsD (Mi.recv s c t (wordIn inp s c)).cells, .lst ((Mi.recv s c t (wordIn inp s c)).thr.map Cond.d), natsD (s.taken.set c (s.taken.getD c 0 + 1)), .lst (s.outs.map natsD)] := by
      simp only [Sta.d, e4]
    rw [e5] at h
    exact h
  | meet c g t =>
    obtain ⟨⟨w', k', hg⟩, rows, k, r, hc, hf⟩ := R
    have hgl : g < s.thr.length := (List.getElem?_eq_some_iff.mp hg).1
    simp only [perf, getD_get hg] at h
    walk_at "st"
    refine ⟨_, map_get hg, ?_⟩
    walk_at "st"
    refine ⟨_, _, _, _, rfl, co, inp, T, F, s, c, t, _, rows, k, r, rfl, rfl, rfl, rfl, W, ⟨hc, hf⟩, ?_⟩
    walk_at "st"
    have e4 : ∀ v, (Mi.recv s c t v).outs = s.outs ∧ (Mi.recv s c t v).taken = s.taken ∧ (Mi.recv s c t v).thr.length = s.thr.length := fun v => by rw [Waits.recv ⟨hc, hf⟩]; exact ⟨rfl, rfl, List.length_set⟩
    refine ⟨_, rfl, k', rfl, _, _, _, rfl, _, g, rfl, rfl, by rw [List.length_map, (e4 _).2.2]; exact hgl, by rw [List.length_map, (e4 _).2.2]; omega, ?_⟩
    walk_at "st"
    refine rt_same ?_
    rw [set_map]
    have e5 : ({ Mi.recv s c t w' with thr := (Mi.recv s c t w').thr.set g (onK k') } : Sta).d = .tup [natsD (Mi.recv s c t w').cells, .lst (((Mi.recv s c t w').thr.set g (onK k')).map Cond.d), natsD s.taken, .lst (s.outs.map natsD)] := by
      simp only [Sta.d, (e4 w').1, (e4 w').2.1]
    rw [e5] at h
    exact h
end
end Dl
namespace Dl
open PySem PySem.Spec PyProof.Rows L2 Mi
local macro_rules | `(tactic| walk_at "dl") => `(tactic| simp only [dRet, dOp, dSl, dV, dNoP, dPart, dLst, dLstM, dCons, dNil, dC, startD, rAdd, rAddM, rIx, rEq, rNe, rII, rII0, rIB0, rMul, rIsN, rNotN, isNon, dNeg, dTest, dAnd, dOr, dNot, dAndV, dOrV, dNotV, dIf, dTup, dFrz, dCB, rLen, rInt1, rAbs1, rMin2, rAll1, dBM, rApp, rExt, rPop0,
  dGet, dPut, dNext, dSeq, dDrop, dIfS, dName, dgNil, dgCons, dgTup, dAsg, dSub, rSet, dPar, dIL, dIT, dIR, dIE, dIZ, dFor, dYes, dCall, dLc, dLcM, dLcF, dPair, dGetT, dInT, dPutT, dNewT, wipeD,
  natsD, isL_lst, isL_ref, seqIn_tup, seqIn_lst, rIn, flatD, eqD, List.all_cons, List.all_nil, List.any_cons, List.any_nil, sizeLine_eq, Nat.reduceLeDiff, Nat.reduceLT, Bool.or_false, Bool.and_true, Bool.true_and, Bool.false_and, Bool.false_or, Bool.or_true, Bool.true_or, Bool.and_false, tupAt, optE, endsOf,
  List.map_cons, List.map_nil, List.length_cons, List.length_nil, List.cons_append, List.nil_append, List.append_nil, List.getElem?_cons_zero, List.getElem?_cons_succ, List.getElem?_nil, List.set_cons_zero, List.set_cons_succ, List.replicate_succ, List.replicate_zero, List.length_append, List.replicate,
  of_sE, String.reduceEq, decide_true, decide_false, Bool.false_eq_true, Bool.not_true, Bool.not_false, reduceIte, exists_eq_left, exists_eq_left', true_and, and_true, if_true, if_false, ite_true, ite_false, Nat.reduceAdd, Nat.reduceSub, Nat.reduceBEq, BEq.rfl, beq_self_eq_true, D.ref.injEq, D.int.injEq, D.str.injEq, D.lst.injEq, D.tup.injEq, List.cons.injEq, exists_and_left, exists_const, and_self])
local macro_rules | `(tactic| walk_at "s0") => `(tactic| (dsimp only [startD, List.length_cons, List.length_nil, List.map_cons, List.map_nil, List.cons_append, List.nil_append, Nat.reduceAdd, Nat.reduceSub, List.replicate_succ, List.replicate_zero]))
local macro_rules | `(tactic| walk_at "st") => `(tactic| ((conv => whnf); (try dsimp only [List.set_cons_zero, List.set_cons_succ]); repeat ((refine ⟨Nat.le_of_ble_eq_true rfl, ?_⟩); (conv => whnf); (try dsimp only [List.set_cons_zero, List.set_cons_succ]))))

section
variable {P : Program} {K : PySem.W.Frag} {mg : Str → Option Value} {w : World} {base : Heap}
/-! ### the plain machine -/
def spLBin : SpD := sp3 fun o x y M Q => ∃ (b : Bop) (i j : Nat), o = S b.nm ∧ x = N i ∧ y = N j ∧ i < 65536 ∧ j < 65536 ∧ Q (optN (clc b i j)) M
abbrev n_law_binary : List Str := ["_law_sign", "_law_a", "_law_b", "_law_found"]
theorem sc_law_binary : FnScope n_law_binary ["_law_sign", "_law_a", "_law_b"] (defScope s_law_binary) := ⟨rfl, rfl, rfl, by decide +kernel, rfl, by decide +kernel, by decide +kernel⟩
/-- _law_binary; slots 0 _law_sign, 1 _law_a, 2 _law_b, 3 _law_found; cells []; calls [] -/
theorem ok_law_binary (B : Bl K mg) (T : Txt K mg "_law_binary" s_law_binary) : Have P w K mg base "_law_binary" ["_law_sign", "_law_a", "_law_b"] 1 spLBin := by
  refine have_of T sc_law_binary (fun _ _ _ _ _ _ us hl => match us, hl with | [_, _, _], _ => rfl) len3 fun cdv f A outer s H E hr => ⟨_, (dss_cons (ds_if (dt_cmp op_in_d (dv 0) (de_tup (da_cons de_str (da_cons de_str da_nil))) rfl) (dss_cons (ds_if (dt_cmp (op_eq_d (hu2 hr)) (dv 2) de_int (nomark _)) (dss_one (ds_ret de_non)) dss_nil)
    (dss_one (ds_ret (de_ifExp (dt_cmp (op_eq_d (hu2 hr)) (dv 0) de_str (nomark _)) (de_op op_fdiv_d (dv 1) (dv 2)) (de_op op_mod_d (de_callTy call_int_d rfl B.int (by decide +kernel) (da_cons (dv 1) da_nil)) (dv 2)))))) dss_nil)
    (dss_cons (ds_if (dt_cmp op_in_d (dv 0) (de_tup (da_cons de_str (da_cons de_str da_nil))) rfl) (dss_one (ds_ret (de_ifExp (dt_cmp (op_eq_d (hu2 hr)) (dv 0) de_str (nomark _)) (de_callTy call_int_d rfl B.int (by decide +kernel) (da_cons (de_and (de_cmp op_gt_d (dv 1) de_int (nomark _)) (de_one (de_cmp op_gt_d (dv 2) de_int (nomark _)))) da_nil)) (de_callTy call_int_d rfl B.int (by decide +kernel) (da_cons (de_or (de_cmp op_gt_d (dv 1) de_int (nomark _)) (de_one (de_cmp op_gt_d (dv 2) de_int (nomark _)))) da_nil))))) dss_nil)
    (dss_cons (ds_if (dt_cmp op_in_d (dv 0) (de_tup (da_cons de_str (da_cons de_str da_nil))) rfl) (dss_one (ds_ret (de_ifExp (dt_cmp (op_eq_d (hu2 hr)) (dv 0) de_str (nomark _)) (de_callTy call_int_d rfl B.int (by decide +kernel) (da_cons (de_cmp (op_eq_d (hu2 hr)) (dv 1) (dv 2) (nomark _)) da_nil)) (de_callTy call_int_d rfl B.int (by decide +kernel) (da_cons (de_cmp (op_ne_d (hu2 hr)) (dv 1) (dv 2) (nomark _)) da_nil))))) dss_nil)
    (dss_cons (ds_if (dt_cmp op_in_d (dv 0) (de_tup (da_cons de_str (da_cons de_str da_nil))) rfl) (dss_one (ds_ret (de_ifExp (dt_cmp (op_eq_d (hu2 hr)) (dv 0) de_str (nomark _)) (de_callTy call_int_d rfl B.int (by decide +kernel) (da_cons (de_cmp op_lt_d (dv 1) (dv 2) (nomark _)) da_nil)) (de_callTy call_int_d rfl B.int (by decide +kernel) (da_cons (de_not (de_cmp op_lt_d (dv 2) (dv 1) (nomark _))) da_nil))))) dss_nil)
    (dss_cons (ds_set (i := 3) sc_law_binary.nd rfl (Or.inl rfl) (de_op op_mul_d (dv 1) (dv 2)))
    (dss_cons (ds_if (dt_cmp (op_ne_d (hu2 hr)) (dv 0) de_str (nomark _)) (dss_one (ds_set (i := 3) sc_law_binary.nd rfl (Or.inl rfl) (de_ifExp (dt_cmp (op_eq_d (hu2 hr)) (dv 0) de_str (nomark _)) (de_op op_add_d (dv 1) (dv 2)) (de_op op_sub_d (de_op op_add_d (dv 1) de_int) (dv 2))))) dss_nil)
    (dss_one (ds_ret (de_op op_mod_d (de_callTy call_int_d rfl B.int (by decide +kernel) (da_cons (dv 3) da_nil)) de_int))))))))), ?_⟩
  rintro _ M Q ⟨_, _, _, rfl, b, i, j, rfl, rfl, rfl, hi, hj, h⟩
  have go : ∀ {d : D} {n : Nat}, Q (.int (n : Nat)) M → d = .int (n : Nat) → rtOf Q d M := fun q e => by rw [e]; exact rt_same q
  have gi : ∀ {x : Int} {n : Nat}, x = (n : Int) → (D.int x = D.int (n : Nat)) := fun e => by rw [e]
  have gb : ∀ {c : Bool} {p : Prop} [Decidable p], Q (optN (some (if p then 1 else 0))) M → (c = true ↔ p) → rtOf Q (.int (if c then 1 else 0)) M := by
    intro c p _ q e
    by_cases hp : p
    · rw [if_pos hp] at q
      rw [if_pos (e.mpr hp)]
      exact rt_same q
    · rw [if_neg hp] at q
      rw [if_neg (fun z => hp (e.mp z))]
      exact rt_same q
  walk_at "s0"
  cases b <;> simp only [Bop.nm, clc] at h ⊢ <;> walk_at "st" <;> repeat (refine ⟨_, .inr rfl, rfl, rfl, ?_⟩; walk_at "st")
  case add =>
    refine ⟨cmul16 (by omega) (by omega), ?_⟩
    walk_at "st"
    refine ⟨by decide, go h (gi ?_)⟩
    rw [Int.fmod_eq_emod_of_nonneg _ (by decide)]
    omega
  case sub =>
    refine ⟨cmul16 (by omega) (by omega), ?_⟩
    walk_at "st"
    refine ⟨by decide, go h (gi ?_)⟩
    rw [Int.fmod_eq_emod_of_nonneg _ (by decide)]
    omega
  case mul =>
    refine ⟨cmul16 (by omega) (by omega), ?_⟩
    walk_at "st"
    refine ⟨by decide, go h (gi ?_)⟩
    rw [Int.fmod_eq_emod_of_nonneg _ (by decide), ← Int.natCast_mul]
    omega
  case div =>
    refine iteP (fun c => ?_) (fun c => ?_)
    · rw [if_pos (by omega)] at h
      walk_at "st"
      exact rt_same h
    · rw [if_neg (by omega)] at h
      walk_at "st"
      refine ⟨⟨c, by omega⟩, go h (gi ?_)⟩
      rw [Int.fdiv_eq_ediv_of_nonneg _ (by omega), Int.natCast_ediv]
  case mod =>
    refine iteP (fun c => ?_) (fun c => ?_)
    · rw [if_pos (by omega)] at h
      walk_at "st"
      exact rt_same h
    · rw [if_neg (by omega)] at h
      walk_at "st"
      refine ⟨c, go h (gi ?_)⟩
      rw [Int.fmod_eq_emod_of_nonneg _ (by omega), Int.natCast_emod]
  case and =>
    refine iteP (fun c => ?_) (fun c => ?_)
    · walk_at "st"
      refine gb h ?_
      rw [decide_eq_true_eq]
      omega
    · walk_at "st"
      refine gb h ⟨fun z => Bool.noConfusion z, fun z => ?_⟩
      omega
  case or =>
    refine iteP (fun c => ?_) (fun c => ?_)
    · walk_at "st"
      refine gb h ⟨fun _ => ?_, fun _ => rfl⟩
      omega
    · walk_at "st"
      refine gb h ?_
      rw [decide_eq_true_eq]
      omega
  case ne =>
    refine gb h ?_
    rw [Bool.not_eq_true', decide_eq_false_iff_not]
    omega
  case le =>
    refine gb h ?_
    rw [Bool.not_eq_true', decide_eq_false_iff_not]
    omega
  all_goals
    refine gb h ?_
    rw [decide_eq_true_eq]
    omega
def spLVal (d : Nat) : SpD := sp2 fun e c M Q => ∃ (x : Exp) (cs : List Nat) (n : Nat) (a : Addr), e = x.d ∧ c = .ref a ∧ M a = some (.lst (cs.map N)) ∧ x.ok n ∧ Cells n cs ∧ x.dep < d ∧ Q (optN (val cs x)) M
def spLPlc (d : Nat) : SpD := sp2 fun e c M Q => ∃ (x : Exp) (cs : List Nat) (n : Nat) (a : Addr), e = x.d ∧ c = .ref a ∧ M a = some (.lst (cs.map N)) ∧ x.tgt = true ∧ x.ok n ∧ Cells n cs ∧ x.dep < d ∧ Q (optN (plc cs x)) M
theorem bop_tag (o : Bop) : ∀ x ∈ ["num", "cell", "at", "not", "neg"], decide (Str.ofString o.nm = Str.ofString x) = false := by
  intro x hx
  rw [of_sE]
  revert x
  cases o <;> decide
abbrev n_law_value : List Str := ["_law_e", "_law_cells", "_law_index_here", "_law_operands", "_law_operand"]
theorem sc_law_value : FnScope n_law_value ["_law_e", "_law_cells"] (defScope s_law_value) := ⟨rfl, rfl, rfl, by decide +kernel, rfl, by decide +kernel, by decide +kernel⟩
/-- _law_value; slots 0 _law_e, 1 _law_cells, 2 _law_index_here, 3 _law_operands, 4 _law_operand; cells ['_law_cells']; calls ['_law_binary', '_law_value'] -/
theorem ok_law_value (B : Bl K mg) (T : Txt K mg "_law_value" s_law_value) {k d : Nat} (c_law_binary : Have P w K mg base "_law_binary" ["_law_sign", "_law_a", "_law_b"] 1 spLBin)
    (c_law_value : Have P w K mg base "_law_value" ["_law_e", "_law_cells"] k (spLVal d)) (hk : 1 ≤ k) : Have P w K mg base "_law_value" ["_law_e", "_law_cells"] (k + 1) (spLVal (d + 1)) := by
  refine have_of T sc_law_value (fun _ _ _ _ _ _ us hl => match us, hl with | [_, _], _ => rfl) len2 fun cdv f A outer s H E hr => ⟨_, (dss_cons (ds_if (dt_cmp (op_eq_d (hu2 hr)) (de_ix (dv 0) de_int) de_str (nomark _)) (dss_one (ds_ret (de_ix (dv 0) de_int))) dss_nil)
    (dss_cons (ds_if (dt_cmp (op_eq_d (hu2 hr)) (de_ix (dv 0) de_int) de_str (nomark _)) (dss_one (ds_ret (de_ix (dv 1) (de_ix (dv 0) de_int)))) dss_nil)
    (dss_cons (ds_if (dt_cmp (op_eq_d (hu2 hr)) (de_ix (dv 0) de_int) de_str (nomark _)) (dss_cons (ds_set (i := 2) sc_law_value.nd rfl (Or.inl rfl) (de_callH c_law_value (hr.mono (by omega)) rfl (da_cons (de_ix (dv 0) de_int) (da_cons (dv 1) da_nil))))
    (dss_one (ds_ret (de_ifExp (dt_w (dw_or (dt_cmp op_isN_d (dv 2) de_non (nomark _)) (dw_or1 (dt_cmp op_ge_d (dv 2) (de_ix (dv 0) de_int) (nomark _))))) de_non (de_ix (dv 1) (de_op op_add_d (de_ix (dv 0) de_int) (dv 2))))))) dss_nil)
    (dss_cons (ds_setLc (own := [("_law_operand", 4)]) (i := 3) rfl sc_law_value.nd rfl rfl (sw_true rfl rfl rfl (by decide +kernel)) (di_tup (de_slice (dv 0) (do_some de_int) do_none)) (blkOk_by (N := n_law_value) (sc := defScope s_law_value) (by decide +kernel)) (fun _ _ _ _ _ => (dg_name (i := 4) (by decide) sc_law_value.nd rfl (Or.inl rfl))) (fun _ _ _ _ _ => dts_nil) (fun _ _ _ _ _ => (de_callH c_law_value (hr.mono (by omega)) rfl (da_cons (dv 4) (da_cons (dv 1) da_nil)))))
    (dss_cons (ds_if (dt_cmp op_in_d de_non (dv 3) rfl) (dss_one (ds_ret de_non)) dss_nil)
    (dss_cons (ds_if (dt_cmp (op_eq_d (hu2 hr)) (de_ix (dv 0) de_int) de_str (nomark _)) (dss_one (ds_ret (de_callTy call_int_d rfl B.int (by decide +kernel) (da_cons (de_cmp (op_eq_d (hu2 hr)) (de_ix (dv 3) de_int) de_int (nomark _)) da_nil)))) dss_nil)
    (dss_cons (ds_if (dt_cmp (op_eq_d (hu2 hr)) (de_ix (dv 0) de_int) de_str (nomark _)) (dss_one (ds_ret (de_op op_mod_d (de_callTy call_int_d rfl B.int (by decide +kernel) (da_cons (de_op op_sub_d de_int (de_ix (dv 3) de_int)) da_nil)) de_int))) dss_nil)
    (dss_one (ds_ret (de_callH c_law_binary (hr.mono (by omega)) rfl (da_cons (de_ix (dv 0) de_int) (da_cons (de_ix (dv 3) de_int) (da_cons (de_ix (dv 3) de_int) da_nil))))))))))))), ?_⟩
  rintro _ M Q ⟨_, _, rfl, x, cs, n, a, rfl, rfl, hM, hok, C, hd, h⟩
  walk_at "s0"
  cases x with
  | num m =>
    walk_at "st"
    exact rt_same h
  | cell k =>
    have hl : k < cs.length := by rw [C.len]; exact hok
    simp only [val, List.getElem?_eq_getElem hl] at h
    walk_at "st"
    exact ⟨_, _, hM, map_get (List.getElem?_eq_getElem hl), rt_same h⟩
  | idx f s e =>
    simp only [val] at h
    walk_at "st"
    refine ⟨_, _, rfl, e, cs, n, a, rfl, rfl, hM, hok.2, C, Nat.lt_of_succ_lt_succ hd, ?_⟩
    cases hv : val cs e with
    | none =>
      simp only [hv] at h
      walk_at "st"
      exact rt_same h
    | some i =>
      simp only [hv] at h
      walk_at "st"
      refine iteP (fun c => ?_) (fun c => ?_)
      · rw [if_neg (by omega)] at h
        walk_at "st"
        exact rt_same h
      · rw [if_pos (by omega)] at h
        walk_at "st"
        have hl : f + i < cs.length := by have := hok.1; rw [C.len]; omega
        rw [List.getElem?_eq_getElem hl] at h
        exact ⟨_, _, hM, map_get (List.getElem?_eq_getElem hl), rt_same h⟩
  | neg b =>
    simp only [val] at h
    walk_at "st"
    intro p hp
    walk_at "st"
    have hM2 : ∀ o, mupd M p o a = some (.lst (cs.map N)) := fun o => by rw [mupd_ne (mne_of hM hp)]; exact hM
    refine ⟨trivial, ?_⟩
    walk_at "st"
    refine ⟨_, _, rfl, b, cs, n, a, rfl, rfl, hM2 _, hok, C, Nat.lt_of_succ_lt_succ hd, ?_⟩
    have hl : a ≠ p := mne_of hM hp
    refine ⟨_, mupd_same, by decide, trivial, _, mupd_same, ?_⟩
    walk_at "st"
    simp only [mupd_mupd, mdel_mupd hp]
    refine ⟨_, .inl .lst, rfl, by cases val cs b <;> rfl, ?_⟩
    cases hv : val cs b with
    | none =>
      simp only [hv] at h
      walk_at "st"
      exact rt_same h
    | some i =>
      have hi := val_lt (e := b) C hok hv
      simp only [hv] at h
      walk_at "st"
      refine ⟨_, rfl, ?_⟩
      walk_at "st"
      refine ⟨by decide, ?_⟩
      have e : ((65536 : Int) - (i : Int)).fmod 65536 = (((65536 - i) % 65536 : Nat) : Int) := by
        rw [Int.fmod_eq_emod_of_nonneg _ (by decide)]
        omega
      rw [e]
      exact rt_same h
  | not b =>
    simp only [val] at h
    walk_at "st"
    intro p hp
    walk_at "st"
    have hM2 : ∀ o, mupd M p o a = some (.lst (cs.map N)) := fun o => by rw [mupd_ne (mne_of hM hp)]; exact hM
    refine ⟨trivial, ?_⟩
    walk_at "st"
    refine ⟨_, _, rfl, b, cs, n, a, rfl, rfl, hM2 _, hok, C, Nat.lt_of_succ_lt_succ hd, ?_⟩
    refine ⟨_, mupd_same, by decide, trivial, _, mupd_same, ?_⟩
    walk_at "st"
    simp only [mupd_mupd, mdel_mupd hp]
    refine ⟨_, .inl .lst, rfl, by cases val cs b <;> rfl, ?_⟩
    cases hv : val cs b with
    | none =>
      simp only [hv] at h
      walk_at "st"
      exact rt_same h
    | some i =>
      simp only [hv] at h
      walk_at "st"
      refine ⟨_, rfl, ?_⟩
      walk_at "st"
      have e : (if decide ((i : Int) = 0) = true then (1 : Int) else 0) = (((if i = 0 then 1 else 0 : Nat)) : Int) := by
        by_cases c : i = 0
        · rw [if_pos c, if_pos (by rw [decide_eq_true_eq]; omega)]; rfl
        · rw [if_neg c, if_neg (by rw [decide_eq_true_eq]; omega)]; rfl
      refine rt_same ?_
      have h2 : Q (.int (((if i = 0 then 1 else 0 : Nat)) : Int)) M := h
      rw [← e] at h2
      exact h2
  | bin o x y =>
    simp only [val] at h
    have tg := bop_tag o
    have t1 := tg "num" (by simp)
    have t2 := tg "cell" (by simp)
    have t3 := tg "at" (by simp)
    have t4 := tg "not" (by simp)
    have t5 := tg "neg" (by simp)
    have hd2 : max x.dep y.dep < d := Nat.lt_of_succ_lt_succ hd
    walk_at "st"
    refine tF t1 ?_
    walk_at "st"
    refine tF t2 ?_
    walk_at "st"
    refine tF t3 ?_
    walk_at "st"
    intro p hp
    walk_at "st"
    have hM2 : ∀ o, mupd M p o a = some (.lst (cs.map N)) := fun o => by rw [mupd_ne (mne_of hM hp)]; exact hM
    refine ⟨trivial, ?_⟩
    walk_at "st"
    refine ⟨_, _, rfl, x, cs, n, a, rfl, rfl, hM2 _, hok.1, C, by omega, ?_⟩
    refine ⟨_, mupd_same, by rw [sizeLine_eq]; exact Nat.le_of_ble_eq_true rfl, trivial, ?_⟩
    walk_at "st"
    rw [mupd_mupd]
    refine ⟨_, _, rfl, y, cs, n, a, rfl, rfl, hM2 _, hok.2, C, by omega, ?_⟩
    refine ⟨_, mupd_same, by rw [sizeLine_eq]; exact Nat.le_of_ble_eq_true rfl, trivial, _, mupd_same, ?_⟩
    walk_at "st"
    simp only [mupd_mupd, mdel_mupd hp]
    refine ⟨_, .inl .lst, rfl, by cases val cs x <;> cases val cs y <;> rfl, ?_⟩
    cases hv : val cs x with
    | none =>
      simp only [hv] at h
      walk_at "st"
      exact rt_same h
    | some i =>
      have hi := val_lt C hok.1 hv
      simp only [hv] at h
      cases hw : val cs y with
      | none =>
        simp only [hw] at h
        walk_at "st"
        exact rt_same h
      | some j =>
        have hj := val_lt C hok.2 hw
        simp only [hw] at h
        walk_at "st"
        refine tF t4 ?_
        walk_at "st"
        refine tF t5 ?_
        walk_at "st"
        refine ⟨_, rfl, ?_⟩
        walk_at "st"
        refine ⟨_, rfl, ?_⟩
        walk_at "st"
        exact ⟨_, _, _, rfl, o, i, j, rfl, rfl, rfl, hi, hj, rt_same h⟩
abbrev n_law_where : List Str := ["_law_target_here", "_law_cells", "_law_index_here"]
theorem sc_law_where : FnScope n_law_where ["_law_target_here", "_law_cells"] (defScope s_law_where) := ⟨rfl, rfl, rfl, by decide +kernel, rfl, by decide +kernel, by decide +kernel⟩
/-- _law_where; slots 0 _law_target_here, 1 _law_cells, 2 _law_index_here; cells []; calls ['_law_value'] -/
theorem ok_law_where (B : Bl K mg) (T : Txt K mg "_law_where" s_law_where) {k d : Nat} (c_law_value : Have P w K mg base "_law_value" ["_law_e", "_law_cells"] k (spLVal d)) : Have P w K mg base "_law_where" ["_law_target_here", "_law_cells"] (k + 1) (spLPlc (d + 1)) := by
  refine have_of T sc_law_where (fun _ _ _ _ _ _ us hl => match us, hl with | [_, _], _ => rfl) len2 fun cdv f A outer s H E hr => ⟨_, (dss_cons (ds_if (dt_cmp (op_eq_d (hu2 hr)) (de_ix (dv 0) de_int) de_str (nomark _)) (dss_one (ds_ret (de_ix (dv 0) de_int))) dss_nil)
    (dss_cons (ds_set (i := 2) sc_law_where.nd rfl (Or.inl rfl) (de_callH c_law_value (hr.mono (by omega)) rfl (da_cons (de_ix (dv 0) de_int) (da_cons (dv 1) da_nil))))
    (dss_one (ds_ret (de_ifExp (dt_w (dw_or (dt_cmp op_isN_d (dv 2) de_non (nomark _)) (dw_or1 (dt_cmp op_ge_d (dv 2) (de_ix (dv 0) de_int) (nomark _))))) de_non (de_op op_add_d (de_ix (dv 0) de_int) (dv 2))))))), ?_⟩
  rintro _ M Q ⟨_, _, rfl, x, cs, n, a, rfl, rfl, hM, ht, hok, C, hd, h⟩
  walk_at "s0"
  cases x with
  | cell k =>
    walk_at "st"
    exact rt_same h
  | idx f s e =>
    simp only [plc] at h
    walk_at "st"
    refine ⟨_, _, rfl, e, cs, n, a, rfl, rfl, hM, hok.2, C, Nat.lt_of_succ_lt_succ hd, ?_⟩
    cases hv : val cs e with
    | none =>
      simp only [hv] at h
      walk_at "st"
      exact rt_same h
    | some i =>
      simp only [hv] at h
      walk_at "st"
      refine iteP (fun c => ?_) (fun c => ?_)
      · rw [if_neg (by omega)] at h
        walk_at "st"
        exact rt_same h
      · rw [if_pos (by omega)] at h
        walk_at "st"
        exact rt_same h
  | _ => simp [Exp.tgt] at ht
/-- both, at every depth -/
theorem lwords_ok (B : Bl K mg) (T1 : Txt K mg "_law_binary" s_law_binary) (T3 : Txt K mg "_law_value" s_law_value) : ∀ d, Have P w K mg base "_law_value" ["_law_e", "_law_cells"] (d + 1) (spLVal d)
  | 0 => (have_none T3 (fun _ _ _ _ _ _ us hl => match us, hl with | [_, _], _ => rfl) fun ds M Q ⟨_, _, _, x, _, _, _, _, _, _, _, _, h, _⟩ => absurd h (Nat.not_lt_zero _)).mono (Nat.zero_le _)
  | d + 1 => ok_law_value B T3 (ok_law_binary B T1) (lwords_ok B T1 T3 d) (by omega)
end
end Dl
namespace Dl
open PySem PySem.Spec PyProof.Rows L2 Mi
local macro_rules | `(tactic| walk_at "dl") => `(tactic| simp only [dRet, dOp, dSl, dV, dNoP, dPart, dLst, dLstM, dCons, dNil, dC, startD, rAdd, rAddM, rIx, rEq, rNe, rII, rII0, rIB0, rMul, rIsN, rNotN, isNon, dNeg, dTest, dAnd, dOr, dNot, dAndV, dOrV, dNotV, dIf, dTup, dFrz, dCB, rLen, rInt1, rAbs1, rMin2, rAll1, dBM, rApp, rExt, rPop0,
  dGet, dPut, dNext, dSeq, dDrop, dIfS, dName, dgNil, dgCons, dgTup, dAsg, dSub, rSet, dPar, dIL, dIT, dIR, dIE, dIZ, dFor, dYes, dCall, dLc, dLcM, dLcF, dPair, dGetT, dInT, dPutT, dNewT, wipeD,
  natsD, isL_lst, isL_ref, seqIn_tup, seqIn_lst, rIn, flatD, eqD, List.all_cons, List.all_nil, List.any_cons, List.any_nil, sizeLine_eq, Nat.reduceLeDiff, Nat.reduceLT, Bool.or_false, Bool.and_true, Bool.true_and, Bool.false_and, Bool.false_or, Bool.or_true, Bool.true_or, Bool.and_false, tupAt, optE, endsOf,
  List.map_cons, List.map_nil, List.length_cons, List.length_nil, List.cons_append, List.nil_append, List.append_nil, List.getElem?_cons_zero, List.getElem?_cons_succ, List.getElem?_nil, List.set_cons_zero, List.set_cons_succ, List.replicate_succ, List.replicate_zero, List.length_append, List.replicate,
  of_sE, String.reduceEq, decide_true, decide_false, Bool.false_eq_true, Bool.not_true, Bool.not_false, reduceIte, exists_eq_left, exists_eq_left', true_and, and_true, if_true, if_false, ite_true, ite_false, Nat.reduceAdd, Nat.reduceSub, Nat.reduceBEq, BEq.rfl, beq_self_eq_true, D.ref.injEq, D.int.injEq, D.str.injEq, D.lst.injEq, D.tup.injEq, List.cons.injEq, exists_and_left, exists_const, and_self])
local macro_rules | `(tactic| walk_at "s0") => `(tactic| (dsimp only [startD, List.length_cons, List.length_nil, List.map_cons, List.map_nil, List.cons_append, List.nil_append, Nat.reduceAdd, Nat.reduceSub, List.replicate_succ, List.replicate_zero]))
local macro_rules | `(tactic| walk_at "st") => `(tactic| ((conv => whnf); (try dsimp only [List.set_cons_zero, List.set_cons_succ]); repeat ((refine ⟨Nat.le_of_ble_eq_true rfl, ?_⟩); (conv => whnf); (try dsimp only [List.set_cons_zero, List.set_cons_succ]))))

section
variable {P : Program} {K : PySem.W.Frag} {mg : Str → Option Value} {w : World} {base : Heap}
theorem intsD_map (n : Nat) : intsD 0 n = (List.range n).map N := by
  unfold intsD
  refine List.map_congr_left fun i _ => ?_
  show D.int (0 + (i : Nat)) = D.int (i : Nat)
  rw [Int.zero_add]
theorem range_filter {α β : Type} {keep : α → Bool} {f : α → β} : ∀ {l : List α} {kp : Nat → Bool} {g : Nat → β}, (∀ i x, l[i]? = some x → kp i = keep x ∧ (keep x = true → g i = f x)) → ((List.range l.length).filter kp).map g = (l.filter keep).map f
  | [], _, _, _ => rfl
  | a :: l, kp, g, h => by
    rw [List.length_cons, List.range_succ_eq_map, List.filter_cons, List.filter_cons, (h 0 a rfl).1, List.filter_map]
    have ih := range_filter (l := l) (kp := kp ∘ Nat.succ) (g := g ∘ Nat.succ) fun i x e => h (i + 1) x (by simpa using e)
    by_cases c : keep a = true
    · rw [if_pos c, if_pos c, List.map_cons, List.map_cons, (h 0 a rfl).2 c, List.map_map, ih]
    · rw [if_neg c, if_neg c, List.map_map, ih]
/-- a comprehension over the places of a list -/
theorem lc_range {α : Type} {g : TGD} {tt : TTD} {te : TED} {G : Mh → Prop} {p : Addr} {σ : Sd} {F : List D → Mh → Prop} {M : Mh} {n : Nat} (l : List α) (keep : α → Bool) (f : α → D) (hn : n = l.length) (hz : l.length < sizeLine)
    (hG : ∀ acc, G (mupd M p (.lst acc)))
    (hs : ∀ i a, l[i]? = some a → ∀ acc (Ky : KD) (Kn : Mh → Prop), (if keep a = true then Ky (f a) (mupd M p (.lst acc)) else Kn (mupd M p (.lst acc))) → g (N i) σ (mupd M p (.lst acc)) fun σ2 M2 => tt σ2 M2 fun b M3 => if b = true then te σ2 M3 Ky else Kn M3)
    (hF : F ((l.filter keep).map f) (mupd M p (.lst ((l.filter keep).map f)))) : lcD g tt te G p σ F (intsD 0 n) (mupd M p (.lst [])) := by
  subst hn
  rw [intsD_map]
  have e : ((List.range l.length).filter fun i => (l[i]?.map keep).getD false).map (fun i => (l[i]?.map f).getD .non) = (l.filter keep).map f :=
    range_filter fun i x hx => by rw [hx]; exact ⟨rfl, fun _ => rfl⟩
  refine lc_map (List.range l.length) N (fun i => (l[i]?.map keep).getD false) (fun i => (l[i]?.map f).getD .non) (by rw [List.length_range]; exact hz) hG (fun i hi acc Ky Kn hh => ?_) (by rw [e]; exact hF)
  have hil : i < l.length := List.mem_range.mp hi
  have hx := List.getElem?_eq_getElem hil
  generalize l[i] = x at hx
  simp only [hx, Option.map_some, Option.getD_some] at hh
  exact hs i x hx acc Ky Kn hh
/-- the plain machine's lists -/
def mD (a0 a1 a2 : Addr) (os : List Addr) : D := .lst [.ref a0, .ref a1, .ref a2, .lst (os.map D.ref)]
structure MAt (a0 a1 a2 : Addr) (os : List Addr) (s : Sta) (M : Mh) : Prop where
  c : M a0 = some (.lst (s.cells.map N))
  t : M a1 = some (.lst (s.thr.map Cond.d))
  k : M a2 = some (.lst (s.taken.map N))
  ol : os.length = s.outs.length
  o : ∀ i a, os[i]? = some a → M a = some (.lst ((s.outs.getD i []).map N))
  nd : (a0 :: a1 :: a2 :: os).Nodup
section
variable {a0 a1 a2 : Addr} {os : List Addr} {s : Sta} {M : Mh}
theorem MAt.new (h : MAt a0 a1 a2 os s M) {p : Addr} {o : MO} (hp : M p = none) : MAt a0 a1 a2 os s (mupd M p o) :=
  ⟨by rw [mupd_ne (mne_of h.c hp)]; exact h.c, by rw [mupd_ne (mne_of h.t hp)]; exact h.t, by rw [mupd_ne (mne_of h.k hp)]; exact h.k, h.ol, fun i a e => by rw [mupd_ne (mne_of (h.o i a e) hp)]; exact h.o i a e, h.nd⟩
theorem MAt.n01 (h : MAt a0 a1 a2 os s M) : a0 ≠ a1 ∧ a0 ≠ a2 ∧ a1 ≠ a2 ∧ (∀ a ∈ os, a ≠ a0 ∧ a ≠ a1 ∧ a ≠ a2) := by
  have n := h.nd
  simp only [List.nodup_cons, List.mem_cons, not_or] at n
  exact ⟨n.1.1, n.1.2.1, n.2.1.1, fun a ha => ⟨fun e => n.1.2.2 (e ▸ ha), fun e => n.2.1.2 (e ▸ ha), fun e => n.2.2.1 (e ▸ ha)⟩⟩
theorem MAt.setT (h : MAt a0 a1 a2 os s M) {l : List Cond} : MAt a0 a1 a2 os { s with thr := l } (mupd M a1 (.lst (l.map Cond.d))) := by
  obtain ⟨n1, n2, n3, n4⟩ := h.n01
  exact ⟨by rw [mupd_ne n1]; exact h.c, mupd_same, by rw [mupd_ne (Ne.symm n3)]; exact h.k, h.ol, fun i a e => by rw [mupd_ne (n4 a (List.mem_of_getElem? e)).2.1]; exact h.o i a e, h.nd⟩
theorem MAt.setC (h : MAt a0 a1 a2 os s M) {l : List Nat} : MAt a0 a1 a2 os { s with cells := l } (mupd M a0 (.lst (l.map N))) := by
  obtain ⟨n1, n2, n3, n4⟩ := h.n01
  exact ⟨mupd_same, by rw [mupd_ne (Ne.symm n1)]; exact h.t, by rw [mupd_ne (Ne.symm n2)]; exact h.k, h.ol, fun i a e => by rw [mupd_ne (n4 a (List.mem_of_getElem? e)).1]; exact h.o i a e, h.nd⟩
theorem MAt.setK (h : MAt a0 a1 a2 os s M) {l : List Nat} : MAt a0 a1 a2 os { s with taken := l } (mupd M a2 (.lst (l.map N))) := by
  obtain ⟨n1, n2, n3, n4⟩ := h.n01
  exact ⟨by rw [mupd_ne n2]; exact h.c, by rw [mupd_ne n3]; exact h.t, mupd_same, h.ol, fun i a e => by rw [mupd_ne (n4 a (List.mem_of_getElem? e)).2.2]; exact h.o i a e, h.nd⟩
theorem MAt.setO (h : MAt a0 a1 a2 os s M) {i : Nat} {a : Addr} {l : List Nat} (e : os[i]? = some a) : MAt a0 a1 a2 os { s with outs := s.outs.set i l } (mupd M a (.lst (l.map N))) := by
  obtain ⟨n1, n2, n3, n4⟩ := h.n01
  obtain ⟨m0, m1, m2⟩ := n4 a (List.mem_of_getElem? e)
  refine ⟨by rw [mupd_ne (Ne.symm m0)]; exact h.c, by rw [mupd_ne (Ne.symm m1)]; exact h.t, by rw [mupd_ne (Ne.symm m2)]; exact h.k, by rw [List.length_set]; exact h.ol, fun j b e2 => ?_, h.nd⟩
  have nd := h.nd
  simp only [List.nodup_cons] at nd
  have il : i < os.length := (List.getElem?_eq_some_iff.mp e).1
  have jl : j < os.length := (List.getElem?_eq_some_iff.mp e2).1
  by_cases c : j = i
  · subst c
    rw [e] at e2
    cases e2
    rw [mupd_same, List.getD_eq_getElem?_getD, List.getElem?_set_self (by rw [← h.ol]; exact il)]
    rfl
  · have hb : b ≠ a := fun z => by
      subst z
      have h1 := (List.getElem?_eq_some_iff.mp e).2
      have h2 := (List.getElem?_eq_some_iff.mp e2).2
      have pw := List.pairwise_iff_getElem.mp nd.2.2.2
      rcases Nat.lt_or_gt_of_ne c with g | g
      · exact pw j i jl il g (h2.trans h1.symm)
      · exact pw i j il jl g (h1.trans h2.symm)
    rw [mupd_ne hb, List.getD_eq_getElem?_getD, List.getElem?_set_ne (Ne.symm c), ← List.getD_eq_getElem?_getD]
    exact h.o j b e2
end
theorem ixN_nat {n t : Nat} (h : t < n) : ixN n (t : Int) = some t := by
  unfold ixN
  simp [seqIndex?, h]
def spLOn : SpD := sp3 fun a b c M Q => ∃ a0 a1 a2 os s t k, a = mD a0 a1 a2 os ∧ b = N t ∧ c = .lst (stmsD k) ∧ MAt a0 a1 a2 os s M ∧ t < s.thr.length ∧ ∀ M', MAt a0 a1 a2 os { s with thr := s.thr.set t (onK k) } M' → Q .non M'
abbrev n_law_on : List Str := ["_law_m", "_law_t", "_law_stack"]
theorem sc_law_on : FnScope n_law_on ["_law_m", "_law_t", "_law_stack"] (defScope s_law_on) := ⟨rfl, rfl, rfl, by decide +kernel, rfl, by decide +kernel, by decide +kernel⟩
/-- _law_on; slots 0 _law_m, 1 _law_t, 2 _law_stack; cells []; calls [] -/
theorem ok_law_on (B : Bl K mg) (Tx : Txt K mg "_law_on" s_law_on) : Have P w K mg base "_law_on" ["_law_m", "_law_t", "_law_stack"] 1 spLOn := by
  refine have_of Tx sc_law_on (fun _ _ _ _ _ _ us hl => match us, hl with | [_, _, _], _ => rfl) len3 fun cdv f A outer s H E hr => ⟨_, (dss_one (ds_asg (vs := []) (de_ifExp (dt_cmp op_gt_d (de_callB call_len_d rfl B.len PySem.boot_len (da_cons (dv 2) da_nil)) de_int (nomark _)) (de_tup (da_cons de_str (da_cons (dv 2) da_nil))) (de_tup (da_cons de_str da_nil))) (dg_sub (de_ix (dv 0) de_int) (dv 1)))), ?_⟩
  rintro _ M Q ⟨_, _, _, rfl, a0, a1, a2, os, s, t, k, rfl, rfl, rfl, R, ht, h⟩
  have hi : ixN (s.thr.map Cond.d).length (t : Int) = some t := ixN_nat (by rw [List.length_map]; exact ht)
  walk_at "s0"
  walk_at "st"
  cases k with
  | nil =>
    refine ⟨_, .lst, ?_⟩
    walk_at "st"
    refine ⟨_, rfl, ?_⟩
    walk_at "st"
    refine ⟨_, _, _, _, rfl, rfl, R.t, hi, h _ ?_⟩
    rw [show (D.tup [D.str "done"]) = Cond.d .done from rfl, set_map]
    exact R.setT
  | cons a k =>
    refine ⟨_, .lst, ?_⟩
    refine iteP (fun c => ?_) (fun c => absurd c (by simp only [stmsD, List.length_cons]; omega))
    walk_at "st"
    refine ⟨_, rfl, ?_⟩
    walk_at "st"
    refine ⟨_, _, _, _, rfl, rfl, R.t, hi, h _ ?_⟩
    rw [show (D.tup [D.str "at", .lst (stmsD (a :: k))]) = Cond.d (onK (a :: k)) from rfl, set_map]
    exact R.setT
def spLOpen : SpD := sp4 fun a b c d M Q => ∃ a0 a1 a2 os s t rows k n T C, a = mD a0 a1 a2 os ∧ b = N t ∧ c = .lst (rowsD rows) ∧ d = .lst (stmsD k) ∧ MAt a0 a1 a2 os s M ∧ t < s.thr.length ∧ Cells n s.cells ∧ rwf n T C rows ∧ rows.length ≤ 1000 ∧
  ∀ M', MAt a0 a1 a2 os { s with thr := s.thr.set t (afterAlt (openR s.cells rows) k) } M' → Q .non M'
abbrev n_law_open : List Str := ["_law_m", "_law_t", "_law_rows", "_law_rest", "_law_guards", "_law_row", "_law_chosen", "_law_k", "_law_goals"]
theorem sc_law_open : FnScope n_law_open ["_law_m", "_law_t", "_law_rows", "_law_rest"] (defScope s_law_open) := ⟨rfl, rfl, rfl, by decide +kernel, rfl, by decide +kernel, by decide +kernel⟩
/-- _law_open; slots 0 _law_m, 1 _law_t, 2 _law_rows, 3 _law_rest, 4 _law_guards, 5 _law_row, 6 _law_chosen, 7 _law_k, 8 _law_goals; cells ['_law_chosen', '_law_goals', '_law_guards', '_law_m', '_law_rows']; calls ['_law_where', '_law_value'] -/
theorem ok_law_open (B : Bl K mg) (Tx : Txt K mg "_law_open" s_law_open) (c_law_value : Have P w K mg base "_law_value" ["_law_e", "_law_cells"] 8 (spLVal 7)) (c_law_where : Have P w K mg base "_law_where" ["_law_target_here", "_law_cells"] 9 (spLPlc 7)) : Have P w K mg base "_law_open" ["_law_m", "_law_t", "_law_rows", "_law_rest"] 10 spLOpen := by
  refine have_of Tx sc_law_open (fun _ _ _ _ _ _ us hl => match us, hl with | [_, _, _, _], _ => rfl) len4 fun cdv f A outer s H E hr => ⟨_, (dss_cons (ds_set (i := 4) sc_law_open.nd rfl (Or.inr rfl) (de_lc (own := [("_law_row", 5)]) rfl sc_law_open.nd (di_list (dv 2)) (blkOk_by (N := n_law_open) (sc := defScope s_law_open) (by decide +kernel)) (fun _ _ _ _ _ => (dg_name (i := 5) (by decide) sc_law_open.nd rfl (Or.inl rfl))) (fun _ _ _ _ _ => dts_nil) (fun _ _ _ _ _ => (de_ifExp (dt_cmp op_isN_d (de_ix (dv 5) de_int) de_non (nomark _)) de_int (de_callH c_law_value (hr.mono (by omega)) rfl (da_cons (de_ix (dv 5) de_int) (da_cons (de_ix (dv 0) de_int) da_nil)))))))
    (dss_cons (ds_set (i := 6) sc_law_open.nd rfl (Or.inr rfl) (de_lc (own := [("_law_k", 7)]) rfl sc_law_open.nd (di_range rfl B.range (da_cons (de_callB call_len_d rfl B.len PySem.boot_len (da_cons (dv 2) da_nil)) da_nil)) (blkOk_by (N := n_law_open) (sc := defScope s_law_open) (by decide +kernel)) (fun _ _ _ _ _ => (dg_name (i := 7) (by decide) sc_law_open.nd rfl (Or.inl rfl))) (fun _ _ _ _ _ => (dts_one (dt_cmp (op_ne_d (hu2 hr)) (de_ix (dv 4) (dv 7)) de_int (nomark _)))) (fun _ _ _ _ _ => (de_ix (dv 2) (dv 7)))))
    (dss_cons (ds_set (i := 8) sc_law_open.nd rfl (Or.inr rfl) (de_ifExp (dt_cmp op_notIn_d de_non (dv 4) rfl) (de_lc (own := [("_law_row", 5)]) rfl sc_law_open.nd (di_list (dv 6)) (blkOk_by (N := n_law_open) (sc := defScope s_law_open) (by decide +kernel)) (fun _ _ _ _ _ => (dg_name (i := 5) (by decide) sc_law_open.nd rfl (Or.inl rfl))) (fun _ _ _ _ _ => dts_nil) (fun _ _ _ _ _ => (de_callH c_law_where (hr.mono (by omega)) rfl (da_cons (de_ix (dv 5) de_int) (da_cons (de_ix (dv 0) de_int) da_nil))))) (de_lst (da_cons de_non da_nil))))
    (dss_one (ds_if (dt_cmp op_in_d de_non (dv 8) rfl) (dss_one (ds_asg (vs := []) (de_tup (da_cons de_str da_nil)) (dg_sub (de_ix (dv 0) de_int) (dv 1)))) (dss_one (ds_if (dt_cmp (op_eq_d (hu2 hr)) (de_callB call_len_d rfl B.len PySem.boot_len (da_cons (dv 8) da_nil)) de_int (nomark _)) (dss_one (ds_asg (vs := []) (de_tup (da_cons de_str da_nil)) (dg_sub (de_ix (dv 0) de_int) (dv 1)))) (dss_one (ds_asg (vs := []) (de_tup (da_cons de_str (da_cons (de_lc (own := [("_law_k", 7)]) rfl sc_law_open.nd (di_range rfl B.range (da_cons (de_callB call_len_d rfl B.len PySem.boot_len (da_cons (dv 8) da_nil)) da_nil)) (blkOk_by (N := n_law_open) (sc := defScope s_law_open) (by decide +kernel)) (fun _ _ _ _ _ => (dg_name (i := 7) (by decide) sc_law_open.nd rfl (Or.inl rfl))) (fun _ _ _ _ _ => dts_nil) (fun _ _ _ _ _ => (de_tup (da_cons (de_ix (de_ix (dv 6) (dv 7)) de_int) (da_cons (de_ix (dv 8) (dv 7)) (da_cons (de_lst (da_cons (de_ix (de_ix (dv 6) (dv 7)) de_int) da_nil)) da_nil)))))) (da_cons (dv 3) da_nil)))) (dg_sub (de_ix (dv 0) de_int) (dv 1))))))))))), ?_⟩
  rintro _ M Q ⟨_, _, _, _, rfl, a0, a1, a2, os, s, t, rows, k, n, T, C, rfl, rfl, rfl, rfl, R, ht, Cc, Wr, hz, h⟩
  have hi : ixN (s.thr.map Cond.d).length (t : Int) = some t := ixN_nat (by rw [List.length_map]; exact ht)
  have W := rwf_iff.mp Wr
  rw [rowsD_map]
  walk_at "s0"
  walk_at "st"
  intro p hp
  refine lc_map rows rowD (fun _ => true) (fun r => optN (gval s.cells r.1)) (by rw [sizeLine_eq]; omega) (by exact fun _ => trivial) (fun r hr' acc Ky Kn hh => ?_) ?_
  · have Wg := (W r hr').1
    have R2 := R.new (o := .lst acc) hp
    obtain ⟨g, c, t', st⟩ := r
    cases g with
    | none =>
      walk_at "st"
      exact hh
    | some e =>
      have ne : ∃ ds, e.d = .tup ds := by cases e <;> exact ⟨_, rfl⟩
      obtain ⟨ds, eds⟩ := ne
      have hE : isNon e.d = false := by rw [eds]; rfl
      show if isNon e.d = true then _ else _
      refine tF hE ?_
      walk_at "st"
      refine ⟨_, rfl, ?_⟩
      walk_at "st"
      exact ⟨_, _, rfl, e, s.cells, n, a0, rfl, rfl, R2.c, Wg.1, Cc, Wg.2, hh⟩
  rw [filter_all]
  simp only [del_upd hp]
  walk_at "st"
  refine ⟨_, .lst, ?_⟩
  walk_at "st"
  refine ⟨by rw [List.length_map]; omega, by omega, ?_⟩
  intro p2 hp2
  refine lc_range rows (fun r => decide (gval s.cells r.1 ≠ some 0)) rowD (by rw [List.length_map, Int.toNat_natCast]) (by rw [sizeLine_eq]; omega) (by exact fun _ => trivial) (fun i r hr' acc Ky Kn hh => ?_) ?_
  · walk_at "st"
    refine ⟨_, map_get hr', ?_⟩
    cases hg : gval s.cells r.1 with
    | none =>
      rw [if_pos (by rw [hg]; rfl)] at hh
      walk_at "st"
      exact ⟨_, map_get hr', hh⟩
    | some v =>
      walk_at "st"
      refine iteN (fun c => ?_) (fun c => ?_)
      · rw [if_pos (by rw [hg, decide_eq_true_eq]; intro z; cases z; exact c rfl)] at hh
        walk_at "st"
        exact ⟨_, map_get hr', hh⟩
      · rw [if_neg (by rw [hg, decide_eq_true_eq]; intro z; exact z (congrArg some (Int.ofNat_inj.mp c)))] at hh
        exact hh
  simp only [del_upd hp2]
  walk_at "st"
  refine ⟨_, .inl .lst, rfl, all_flat _ _, ?_⟩
  unfold openR at h
  show if (!(List.map (fun r => optN (gval s.cells r.1)) rows).any (fun y => eqD y .non)) = true then _ else _
  rw [any_non]
  have fin : ∀ (c : Cond) (M' : Mh), M' = mupd M a1 (.lst ((s.thr.map Cond.d).set t c.d)) → (∀ M', MAt a0 a1 a2 os { s with thr := s.thr.set t c } M' → Q .non M') → Q .non M' := fun c M' e q => q _ (by rw [e, set_map]; exact R.setT)
  generalize hch : rows.filter (fun r => decide (gval s.cells r.1 ≠ some 0)) = ch at h
  have hcl : ch.length ≤ 1000 := by rw [← hch]; exact Nat.le_trans (List.length_filter_le _ _) hz
  have hcw : ∀ r ∈ ch, r.2.2.1.twf n := fun r hr' => (W r (by rw [← hch] at hr'; exact (List.mem_filter.mp hr').1)).2.2.1
  have hcz : ch.length < sizeLine := by rw [sizeLine_eq]; omega
  by_cases eg : (rows.any fun r => (gval s.cells r.1).isNone) = true
  · rw [if_pos eg] at h
    refine tF (by rw [eg]; rfl) ?_
    walk_at "st"
    refine ⟨_, .inl .lst, rfl, rfl, ?_⟩
    walk_at "st"
    refine ⟨_, rfl, ?_⟩
    walk_at "st"
    exact ⟨_, _, _, _, rfl, rfl, R.t, hi, fin .faulted _ rfl h⟩
  rw [if_neg eg] at h
  refine tT (by rw [Bool.eq_false_iff.mpr eg]; rfl) ?_
  walk_at "st"
  intro p3 hp3
  refine lc_map ch rowD (fun _ => true) (fun r => optN (plc s.cells r.2.2.1)) hcz (by exact fun _ => trivial) (fun r hr' acc Ky Kn hh => ?_) ?_
  · have Wt := hcw r hr'
    have R2 := R.new (o := .lst acc) hp3
    walk_at "st"
    refine ⟨_, rfl, ?_⟩
    walk_at "st"
    exact ⟨_, _, rfl, r.2.2.1, s.cells, n, a0, rfl, rfl, R2.c, Wt.1, Wt.2.1, Cc, Wt.2.2, hh⟩
  rw [filter_all]
  simp only [del_upd hp3]
  walk_at "st"
  refine ⟨_, .inl .lst, rfl, all_flat _ _, ?_⟩
  show if (List.map (fun r => optN (plc s.cells r.2.2.1)) ch).any (fun y => eqD y .non) = true then _ else _
  rw [any_non]
  refine t2 (fun e2 => ?_) (fun e2 => ?_)
  · rw [if_pos e2] at h
    walk_at "st"
    refine ⟨_, rfl, ?_⟩
    walk_at "st"
    exact ⟨_, _, _, _, rfl, rfl, R.t, hi, fin .faulted _ rfl h⟩
  rw [if_neg (by rw [e2]; exact Bool.false_ne_true)] at h
  walk_at "st"
  refine ⟨_, .lst, ?_⟩
  refine iteP (fun c => ?_) (fun c => ?_)
  · have c0 : ch = [] := by
      rw [List.length_map] at c
      exact List.length_eq_zero_iff.mp (by omega)
    rw [c0] at h
    walk_at "st"
    refine ⟨_, rfl, ?_⟩
    walk_at "st"
    exact ⟨_, _, _, _, rfl, rfl, R.t, hi, fin .stopped _ rfl h⟩
  walk_at "st"
  refine ⟨_, .lst, ?_⟩
  walk_at "st"
  refine ⟨by rw [List.length_map]; omega, by omega, ?_⟩
  intro p4 hp4
  refine lc_range ch (fun _ => true) (fun r => orowD (r.2.1, (plc s.cells r.2.2.1).getD 0, [r.2.2.2])) (by rw [List.length_map, Int.toNat_natCast]) hcz (by exact fun _ => trivial) (fun i r hr' acc Ky Kn hh => ?_) ?_
  · cases hg : plc s.cells r.2.2.1 with
    | none =>
      exfalso
      have := List.any_eq_false.mp e2 r (List.mem_of_getElem? hr')
      rw [hg] at this
      exact this rfl
    | some v =>
      rw [hg] at hh
      walk_at "st"
      refine ⟨_, map_get hr', ?_⟩
      walk_at "st"
      refine ⟨_, map_get hr', ?_⟩
      rw [hg]
      walk_at "st"
      refine ⟨_, map_get hr', ?_⟩
      walk_at "st"
      exact hh
  rw [filter_all]
  simp only [del_upd hp4]
  walk_at "st"
  refine ⟨_, rfl, ?_⟩
  walk_at "st"
  obtain ⟨r0, ch', ec⟩ : ∃ r0 ch', ch = r0 :: ch' := by
    cases ch with
    | nil => exact absurd rfl c
    | cons a b => exact ⟨a, b, rfl⟩
  refine ⟨_, _, _, _, rfl, rfl, R.t, hi, fin (.opn (ch.map fun r => (r.2.1, (plc s.cells r.2.2.1).getD 0, [r.2.2.2])) k) _ ?_ ?_⟩
  · simp only [Cond.d, List.map_map]
    rfl
  · rw [ec] at h ⊢
    exact h
end
end Dl
namespace Dl
open PySem PySem.Spec PyProof.Rows L2 Mi
local macro_rules | `(tactic| walk_at "dl") => `(tactic| simp only [dRet, dOp, dSl, dV, dNoP, dPart, dLst, dLstM, dCons, dNil, dC, startD, rAdd, rAddM, rIx, rEq, rNe, rII, rII0, rIB0, rMul, rIsN, rNotN, isNon, dNeg, dTest, dAnd, dOr, dNot, dAndV, dOrV, dNotV, dIf, dTup, dFrz, dCB, rLen, rInt1, rAbs1, rMin2, rAll1, dBM, rApp, rExt, rPop0,
  dGet, dPut, dNext, dSeq, dDrop, dIfS, dName, dgNil, dgCons, dgTup, dAsg, dSub, rSet, dPar, dIL, dIT, dIR, dIE, dIZ, dFor, dYes, dCall, dLc, dLcM, dLcF, dPair, dGetT, dInT, dPutT, dNewT, wipeD,
  natsD, isL_lst, isL_ref, seqIn_tup, seqIn_lst, rIn, flatD, eqD, List.all_cons, List.all_nil, List.any_cons, List.any_nil, sizeLine_eq, Nat.reduceLeDiff, Nat.reduceLT, Bool.or_false, Bool.and_true, Bool.true_and, Bool.false_and, Bool.false_or, Bool.or_true, Bool.true_or, Bool.and_false, tupAt, optE, endsOf,
  List.map_cons, List.map_nil, List.length_cons, List.length_nil, List.cons_append, List.nil_append, List.append_nil, List.getElem?_cons_zero, List.getElem?_cons_succ, List.getElem?_nil, List.set_cons_zero, List.set_cons_succ, List.replicate_succ, List.replicate_zero, List.length_append, List.replicate,
  of_sE, String.reduceEq, decide_true, decide_false, Bool.false_eq_true, Bool.not_true, Bool.not_false, reduceIte, exists_eq_left, exists_eq_left', true_and, and_true, if_true, if_false, ite_true, ite_false, Nat.reduceAdd, Nat.reduceSub, Nat.reduceBEq, BEq.rfl, beq_self_eq_true, D.ref.injEq, D.int.injEq, D.str.injEq, D.lst.injEq, D.tup.injEq, List.cons.injEq, exists_and_left, exists_const, and_self])
local macro_rules | `(tactic| walk_at "s0") => `(tactic| (dsimp only [startD, List.length_cons, List.length_nil, List.map_cons, List.map_nil, List.cons_append, List.nil_append, Nat.reduceAdd, Nat.reduceSub, List.replicate_succ, List.replicate_zero]))
local macro_rules | `(tactic| walk_at "st") => `(tactic| ((conv => whnf); (try dsimp only [List.set_cons_zero, List.set_cons_succ]); repeat ((refine ⟨Nat.le_of_ble_eq_true rfl, ?_⟩); (conv => whnf); (try dsimp only [List.set_cons_zero, List.set_cons_succ]))))

section
variable {P : Program} {K : PySem.W.Frag} {mg : Str → Option Value} {w : World} {base : Heap}
def isWord : Stm → Bool
  | .set _ _ => true
  | .give _ _ => true
  | .ite _ _ _ => true
  | .rep _ n _ => decide (n ≠ 0)
  | _ => false
def fltd (s : Sta) (t : Nat) : Sta := { s with thr := s.thr.set t .faulted }
def spLWord : SpD := sp4 fun a b c d M Q => ∃ a0 a1 a2 os s t st k n T C, a = mD a0 a1 a2 os ∧ b = N t ∧ c = st.d ∧ d = .lst (stmsD k) ∧ MAt a0 a1 a2 os (fltd s t) M ∧ t < s.thr.length ∧ Cells n s.cells ∧ st.wf n T C ∧ k.length ≤ 3000 ∧ isWord st = true ∧
  ∀ M', MAt a0 a1 a2 os (stepS s t k st) M' → Q .non M'
abbrev n_law_take_word : List Str := ["_law_m", "_law_t", "_law_s", "_law_rest", "_law_word", "_law_cell"]
theorem sc_law_take_word : FnScope n_law_take_word ["_law_m", "_law_t", "_law_s", "_law_rest"] (defScope s_law_take_word) := ⟨rfl, rfl, rfl, by decide +kernel, rfl, by decide +kernel, by decide +kernel⟩
/-- _law_take_word; slots 0 _law_m, 1 _law_t, 2 _law_s, 3 _law_rest, 4 _law_word, 5 _law_cell; cells []; calls ['_law_on', '_law_where', '_law_value'] -/
theorem ok_law_take_word (B : Bl K mg) (Tx : Txt K mg "_law_take_word" s_law_take_word) (c_law_value : Have P w K mg base "_law_value" ["_law_e", "_law_cells"] 8 (spLVal 7)) (c_law_where : Have P w K mg base "_law_where" ["_law_target_here", "_law_cells"] 9 (spLPlc 7)) (c_law_on : Have P w K mg base "_law_on" ["_law_m", "_law_t", "_law_stack"] 1 spLOn) :
    Have P w K mg base "_law_take_word" ["_law_m", "_law_t", "_law_s", "_law_rest"] 10 spLWord := by
  refine have_of Tx sc_law_take_word (fun _ _ _ _ _ _ us hl => match us, hl with | [_, _, _, _], _ => rfl) len4 fun cdv f A outer s H E hr => ⟨_, (dss_cons (ds_set (i := 4) sc_law_take_word.nd rfl (Or.inl rfl) (de_callH c_law_value (hr.mono (by omega)) rfl (da_cons (de_ifExp (dt_cmp op_in_d (de_ix (dv 2) de_int) (de_tup (da_cons de_str (da_cons de_str da_nil))) rfl) (de_ix (dv 2) de_int) (de_ix (dv 2) de_int)) (da_cons (de_ix (dv 0) de_int) da_nil))))
    (dss_one (ds_if (dt_w (dw_and (dt_cmp op_notN_d (dv 4) de_non (nomark _)) (dw_and1 (dt_cmp (op_eq_d (hu2 hr)) (de_ix (dv 2) de_int) de_str (nomark _))))) (dss_cons (ds_set (i := 5) sc_law_take_word.nd rfl (Or.inl rfl) (de_callH c_law_where (hr.mono (by omega)) rfl (da_cons (de_ix (dv 2) de_int) (da_cons (de_ix (dv 0) de_int) da_nil))))
    (dss_one (ds_if (dt_cmp op_notN_d (dv 5) de_non (nomark _)) (dss_cons (ds_asg (vs := []) (dv 4) (dg_sub (de_ix (dv 0) de_int) (dv 5)))
    (dss_one (ds_expr (de_callH c_law_on (hr.mono (by omega)) rfl (da_cons (dv 0) (da_cons (dv 1) (da_cons (dv 3) da_nil))))))) dss_nil))) (dss_one (ds_if (dt_w (dw_and (dt_cmp op_notN_d (dv 4) de_non (nomark _)) (dw_and1 (dt_cmp (op_eq_d (hu2 hr)) (de_ix (dv 2) de_int) de_str (nomark _))))) (dss_one (ds_asg (vs := []) (de_tup (da_cons de_str (da_cons (de_ix (dv 2) de_int) (da_cons (dv 4) (da_cons (dv 3) da_nil))))) (dg_sub (de_ix (dv 0) de_int) (dv 1)))) (dss_one (ds_if (dt_w (dw_and (dt_cmp op_notN_d (dv 4) de_non (nomark _)) (dw_and1 (dt_cmp (op_eq_d (hu2 hr)) (de_ix (dv 2) de_int) de_str (nomark _))))) (dss_one (ds_expr (de_callH c_law_on (hr.mono (by omega)) rfl (da_cons (dv 0) (da_cons (dv 1) (da_cons (de_op op_add_d (de_lst (da_cons (de_ifExp (dt_cmp op_gt_d (dv 4) de_int (nomark _)) (de_ix (dv 2) de_int) (de_ix (dv 2) de_int)) da_nil)) (dv 3)) da_nil)))))) (dss_one (ds_if (dt_cmp op_notN_d (dv 4) de_non (nomark _)) (dss_one (ds_expr (de_callH c_law_on (hr.mono (by omega)) rfl (da_cons (dv 0) (da_cons (dv 1) (da_cons (de_op op_add_d (de_ifExp (dt_cmp op_gt_d (dv 4) de_int (nomark _)) (de_lst (da_cons (de_ix (dv 2) de_int) (da_cons (de_tup (da_cons de_str (da_cons (de_ix (dv 2) de_int) (da_cons (de_op op_sub_d (de_ix (dv 2) de_int) de_int) (da_cons (de_ix (dv 2) de_int) da_nil))))) da_nil))) (de_lst da_nil)) (dv 3)) da_nil)))))) dss_nil))))))))), ?_⟩
  rintro _ M Q ⟨_, _, _, _, rfl, a0, a1, a2, os, s, t, st, k, n, T, C, rfl, rfl, rfl, rfl, R, ht, Cc, Ws, hkl, hw, h⟩
  have htf : t < (fltd s t).thr.length := by unfold fltd; rw [List.length_set]; exact ht
  have hi : ixN ((fltd s t).thr.map Cond.d).length (t : Int) = some t := ixN_nat (by rw [List.length_map]; exact htf)
  have onw : ∀ (c : Cond) (s' : Sta), (fltd s t).thr = s'.thr → { s' with thr := s'.thr.set t c } = { s' with thr := s.thr.set t c } := fun c s' e => by
    rw [← e]
    unfold fltd
    rw [List.set_set]
  walk_at "s0"
  cases st with
  | set tg e =>
    simp only [stepS] at h
    walk_at "st"
    refine ⟨_, .inr rfl, rfl, rfl, ?_⟩
    walk_at "st"
    refine ⟨_, rfl, ?_⟩
    walk_at "st"
    refine ⟨_, _, rfl, e, s.cells, n, a0, rfl, rfl, R.c, Ws.2.1, Cc, Ws.2.2, ?_⟩
    cases hv : val s.cells e with
    | none =>
      simp only [hv] at h
      walk_at "st"
      exact h _ R
    | some v =>
      simp only [hv] at h
      walk_at "st"
      refine ⟨_, rfl, ?_⟩
      walk_at "st"
      refine ⟨_, _, rfl, tg, s.cells, n, a0, rfl, rfl, R.c, Ws.1.1, Ws.1.2.1, Cc, Ws.1.2.2, ?_⟩
      cases hp : plc s.cells tg with
      | none =>
        simp only [hp] at h
        walk_at "st"
        exact h _ R
      | some x =>
        simp only [hp] at h
        have hx : x < s.cells.length := by rw [Cc.len]; exact plc_lt Ws.1.2.1 hp
        walk_at "st"
        refine ⟨_, rfl, ?_⟩
        walk_at "st"
        refine ⟨_, _, _, _, rfl, rfl, R.c, ixN_nat (by show x < (s.cells.map N).length; rw [List.length_map]; exact hx), ?_⟩
        have R2 := R.setC (l := s.cells.set x v)
        rw [← set_map] at R2
        walk_at "st"
        refine ⟨_, _, _, rfl, a0, a1, a2, os, _, t, k, rfl, rfl, rfl, R2, htf, fun M' R3 => ?_⟩
        walk_at "st"
        exact h _ (Eq.mp (congrArg (fun z => MAt a0 a1 a2 os z M') (onw (onK k) { fltd s t with cells := s.cells.set x v } rfl)) R3)
  | give c e =>
    simp only [stepS, afterStep] at h
    walk_at "st"
    refine ⟨_, .inr rfl, rfl, rfl, ?_⟩
    walk_at "st"
    refine ⟨_, rfl, ?_⟩
    walk_at "st"
    refine ⟨_, _, rfl, e, s.cells, n, a0, rfl, rfl, R.c, Ws.2.1, Cc, Ws.2.2, ?_⟩
    cases hv : val s.cells e with
    | none =>
      simp only [hv] at h
      walk_at "st"
      exact h _ R
    | some v =>
      simp only [hv] at h
      walk_at "st"
      refine ⟨_, rfl, ?_⟩
      walk_at "st"
      refine ⟨_, _, _, _, rfl, rfl, R.t, hi, ?_⟩
      have R2 := R.setT (l := (fltd s t).thr.set t (.giving c v k))
      rw [← set_map, onw _ _ rfl] at R2
      exact h _ R2
  | ite e b1 b2 =>
    simp only [stepS, afterStep, afterTest] at h
    walk_at "st"
    refine ⟨_, .inr rfl, rfl, rfl, ?_⟩
    walk_at "st"
    refine ⟨_, rfl, ?_⟩
    walk_at "st"
    refine ⟨_, _, rfl, e, s.cells, n, a0, rfl, rfl, R.c, Ws.1.1, Cc, Ws.1.2, ?_⟩
    cases hv : val s.cells e with
    | none =>
      simp only [hv] at h
      walk_at "st"
      exact h _ R
    | some v =>
      simp only [hv] at h
      walk_at "st"
      refine iteP (fun c => ?_) (fun c => ?_)
      · rw [if_pos (by omega)] at h
        walk_at "st"
        refine ⟨_, _, .lst, .lst, by rw [sizeLine_eq, stmsD_len]; simp only [List.length_cons, List.length_nil]; omega, ?_⟩
        walk_at "st"
        refine ⟨_, _, _, rfl, a0, a1, a2, os, _, t, b1 :: k, rfl, rfl, rfl, R, htf, fun M' R3 => ?_⟩
        walk_at "st"
        exact h _ (by rw [onw _ _ rfl] at R3; exact R3)
      · rw [if_neg (by omega)] at h
        walk_at "st"
        refine ⟨_, _, .lst, .lst, by rw [sizeLine_eq, stmsD_len]; simp only [List.length_cons, List.length_nil]; omega, ?_⟩
        walk_at "st"
        refine ⟨_, _, _, rfl, a0, a1, a2, os, _, t, b2 :: k, rfl, rfl, rfl, R, htf, fun M' R3 => ?_⟩
        walk_at "st"
        exact h _ (by rw [onw _ _ rfl] at R3; exact R3)
  | rep e j b =>
    have hj : j ≠ 0 := of_decide_eq_true hw
    simp only [stepS, afterStep, afterTest, if_neg hj] at h
    walk_at "st"
    refine ⟨_, .inr rfl, rfl, rfl, ?_⟩
    walk_at "st"
    refine ⟨_, rfl, ?_⟩
    walk_at "st"
    refine ⟨_, _, rfl, e, s.cells, n, a0, rfl, rfl, R.c, Ws.1.1, Cc, Ws.1.2, ?_⟩
    cases hv : val s.cells e with
    | none =>
      simp only [hv] at h
      walk_at "st"
      exact h _ R
    | some v =>
      simp only [hv] at h
      walk_at "st"
      refine iteP (fun c => ?_) (fun c => ?_)
      · rw [if_neg (by omega)] at h
        walk_at "st"
        have ej : ((j : Int) - 1) = ((j - 1 : Nat) : Int) := by omega
        rw [ej]
        refine ⟨_, _, .lst, .lst, by rw [sizeLine_eq, stmsD_len]; simp only [List.length_cons, List.length_nil]; omega, ?_⟩
        walk_at "st"
        refine ⟨_, _, _, rfl, a0, a1, a2, os, _, t, b :: .rep e (j - 1) b :: k, rfl, rfl, rfl, R, htf, fun M' R3 => ?_⟩
        walk_at "st"
        exact h _ (by rw [onw _ _ rfl] at R3; exact R3)
      · rw [if_pos (by omega)] at h
        walk_at "st"
        refine ⟨_, _, .lst, .lst, by rw [sizeLine_eq, stmsD_len]; simp only [List.length_cons, List.length_nil]; omega, ?_⟩
        walk_at "st"
        refine ⟨_, _, _, rfl, a0, a1, a2, os, _, t, k, rfl, rfl, rfl, R, htf, fun M' R3 => ?_⟩
        walk_at "st"
        exact h _ (by rw [onw _ _ rfl] at R3; exact R3)
  | _ => exact absurd hw Bool.false_ne_true
end
end Dl
namespace Dl
open PySem PySem.Spec PyProof.Rows L2 Mi
local macro_rules | `(tactic| walk_at "dl") => `(tactic| simp only [dRet, dOp, dSl, dV, dNoP, dPart, dLst, dLstM, dCons, dNil, dC, startD, rAdd, rAddM, rIx, rEq, rNe, rII, rII0, rIB0, rMul, rIsN, rNotN, isNon, dNeg, dTest, dAnd, dOr, dNot, dAndV, dOrV, dNotV, dIf, dTup, dFrz, dCB, rLen, rInt1, rAbs1, rMin2, rAll1, dBM, rApp, rExt, rPop0,
  dGet, dPut, dNext, dSeq, dDrop, dIfS, dName, dgNil, dgCons, dgTup, dAsg, dSub, rSet, dPar, dIL, dIT, dIR, dIE, dIZ, dFor, dYes, dCall, dLc, dLcM, dLcF, dPair, dGetT, dInT, dPutT, dNewT, wipeD,
  natsD, isL_lst, isL_ref, seqIn_tup, seqIn_lst, rIn, flatD, eqD, List.all_cons, List.all_nil, List.any_cons, List.any_nil, sizeLine_eq, Nat.reduceLeDiff, Nat.reduceLT, Bool.or_false, Bool.and_true, Bool.true_and, Bool.false_and, Bool.false_or, Bool.or_true, Bool.true_or, Bool.and_false, tupAt, optE, endsOf,
  List.map_cons, List.map_nil, List.length_cons, List.length_nil, List.cons_append, List.nil_append, List.append_nil, List.getElem?_cons_zero, List.getElem?_cons_succ, List.getElem?_nil, List.set_cons_zero, List.set_cons_succ, List.replicate_succ, List.replicate_zero, List.length_append, List.replicate,
  of_sE, String.reduceEq, decide_true, decide_false, Bool.false_eq_true, Bool.not_true, Bool.not_false, reduceIte, exists_eq_left, exists_eq_left', true_and, and_true, if_true, if_false, ite_true, ite_false, Nat.reduceAdd, Nat.reduceSub, Nat.reduceBEq, BEq.rfl, beq_self_eq_true, D.ref.injEq, D.int.injEq, D.str.injEq, D.lst.injEq, D.tup.injEq, List.cons.injEq, exists_and_left, exists_const, and_self])
local macro_rules | `(tactic| walk_at "s0") => `(tactic| (dsimp only [startD, List.length_cons, List.length_nil, List.map_cons, List.map_nil, List.cons_append, List.nil_append, Nat.reduceAdd, Nat.reduceSub, List.replicate_succ, List.replicate_zero]))
local macro_rules | `(tactic| walk_at "st") => `(tactic| ((conv => whnf); (try dsimp only [List.set_cons_zero, List.set_cons_succ]); repeat ((refine ⟨Nat.le_of_ble_eq_true rfl, ?_⟩); (conv => whnf); (try dsimp only [List.set_cons_zero, List.set_cons_succ]))))

section
variable {P : Program} {K : PySem.W.Frag} {mg : Str → Option Value} {w : World} {base : Heap}
def spLStep : SpD := sp2 fun a b M Q => ∃ a0 a1 a2 os s t st k n T C, a = mD a0 a1 a2 os ∧ b = N t ∧ MAt a0 a1 a2 os s M ∧ s.thr[t]? = some (.on (st :: k)) ∧ Cells n s.cells ∧ s.thr.length = T ∧ T ≤ 1000 ∧ st.wf n T C ∧ works (st :: k) ≤ 3000 ∧
  ∀ M', MAt a0 a1 a2 os (stepS s t k st) M' → Q .non M'
abbrev n_law_take_step : List Str := ["_law_m", "_law_t", "_law_stack", "_law_s", "_law_rest", "_law_kind", "_law_row", "_law_other", "_law_part", "_law_cell"]
theorem sc_law_take_step : FnScope n_law_take_step ["_law_m", "_law_t"] (defScope s_law_take_step) := ⟨rfl, rfl, rfl, by decide +kernel, rfl, by decide +kernel, by decide +kernel⟩
/-- _law_take_step; slots 0 _law_m, 1 _law_t, 2 _law_stack, 3 _law_s, 4 _law_rest, 5 _law_kind, 6 _law_row, 7 _law_other, 8 _law_part, 9 _law_cell; cells []; calls ['_law_on', '_law_open', '_law_where', '_law_take_word'] -/
theorem ok_law_take_step (B : Bl K mg) (Tx : Txt K mg "_law_take_step" s_law_take_step) (c_law_where : Have P w K mg base "_law_where" ["_law_target_here", "_law_cells"] 9 (spLPlc 7)) (c_law_on : Have P w K mg base "_law_on" ["_law_m", "_law_t", "_law_stack"] 1 spLOn)
    (c_law_open : Have P w K mg base "_law_open" ["_law_m", "_law_t", "_law_rows", "_law_rest"] 10 spLOpen) (c_law_take_word : Have P w K mg base "_law_take_word" ["_law_m", "_law_t", "_law_s", "_law_rest"] 10 spLWord) :
    Have P w K mg base "_law_take_step" ["_law_m", "_law_t"] 11 spLStep := by
  refine have_of Tx sc_law_take_step (fun _ _ _ _ _ _ us hl => match us, hl with | [_, _], _ => rfl) len2 fun cdv f A outer s H E hr => ⟨_, (dss_cons (ds_set (i := 2) sc_law_take_step.nd rfl (Or.inl rfl) (de_ix (de_ix (de_ix (dv 0) de_int) (dv 1)) de_int))
    (dss_cons (ds_set (i := 3) sc_law_take_step.nd rfl (Or.inl rfl) (de_ix (dv 2) de_int))
    (dss_cons (ds_set (i := 4) sc_law_take_step.nd rfl (Or.inl rfl) (de_slice (dv 2) (do_some de_int) do_none))
    (dss_cons (ds_set (i := 5) sc_law_take_step.nd rfl (Or.inl rfl) (de_ix (dv 3) de_int))
    (dss_cons (ds_asg (vs := []) (de_tup (da_cons de_str da_nil)) (dg_sub (de_ix (dv 0) de_int) (dv 1)))
    (dss_one (ds_if (dt_cmp (op_eq_d (hu2 hr)) (dv 5) de_str (nomark _)) (dss_one (ds_asg (vs := []) (de_tup (da_cons de_str da_nil)) (dg_sub (de_ix (dv 0) de_int) (dv 1)))) (dss_one (ds_if (dt_cmp (op_eq_d (hu2 hr)) (dv 5) de_str (nomark _)) (dss_one (ds_expr (de_callH c_law_on (hr.mono (by omega)) rfl (da_cons (dv 0) (da_cons (dv 1) (da_cons (dv 4) da_nil)))))) (dss_one (ds_if (dt_cmp (op_eq_d (hu2 hr)) (dv 5) de_str (nomark _)) (dss_one (ds_expr (de_callH c_law_on (hr.mono (by omega)) rfl (da_cons (dv 0) (da_cons (dv 1) (da_cons (de_op op_add_d (de_ix (dv 3) de_int) (dv 4)) da_nil)))))) (dss_one (ds_if (dt_cmp (op_eq_d (hu2 hr)) (dv 5) de_str (nomark _)) (dss_cons (ds_asg (vs := []) (de_tup (da_cons de_str (da_cons (de_lc (own := [("_law_row", 6)]) rfl sc_law_take_step.nd (di_list (de_ix (dv 3) de_int)) (blkOk_by (N := n_law_take_step) (sc := defScope s_law_take_step) (by decide +kernel)) (fun _ _ _ _ _ => (dg_name (i := 6) (by decide) sc_law_take_step.nd rfl (Or.inl rfl))) (fun _ _ _ _ _ => dts_nil) (fun _ _ _ _ _ => (de_ix (dv 6) de_int))) (da_cons (dv 4) da_nil)))) (dg_sub (de_ix (dv 0) de_int) (dv 1)))
    (dss_one (ds_for (vs := [7, 8]) PassesOwn.never rfl (di_list (de_ix (dv 3) de_int)) (dg_tup (n := 2) rfl (dgs_cons (dg_name (i := 7) (by decide) sc_law_take_step.nd rfl (Or.inl rfl)) (dgs_cons (dg_name (i := 8) (by decide) sc_law_take_step.nd rfl (Or.inl rfl)) dgs_nil))) (dss_one (ds_asg (vs := []) (de_tup (da_cons de_str (da_cons (de_lst (da_cons (dv 8) da_nil)) da_nil))) (dg_sub (de_ix (dv 0) de_int) (dv 7))))))) (dss_one (ds_if (dt_cmp (op_eq_d (hu2 hr)) (dv 5) de_str (nomark _)) (dss_one (ds_expr (de_callH c_law_open (hr.mono (by omega)) rfl (da_cons (dv 0) (da_cons (dv 1) (da_cons (de_ix (dv 3) de_int) (da_cons (dv 4) da_nil))))))) (dss_one (ds_if (dt_cmp (op_eq_d (hu2 hr)) (dv 5) de_str (nomark _)) (dss_cons (ds_set (i := 9) sc_law_take_step.nd rfl (Or.inl rfl) (de_callH c_law_where (hr.mono (by omega)) rfl (da_cons (de_ix (dv 3) de_int) (da_cons (de_ix (dv 0) de_int) da_nil))))
    (dss_one (ds_if (dt_cmp op_notN_d (dv 9) de_non (nomark _)) (dss_one (ds_asg (vs := []) (de_tup (da_cons de_str (da_cons (de_lst (da_cons (de_tup (da_cons (de_ix (dv 3) de_int) (da_cons (dv 9) (da_cons (de_lst da_nil) da_nil)))) da_nil)) (da_cons (dv 4) da_nil)))) (dg_sub (de_ix (dv 0) de_int) (dv 1)))) dss_nil))) (dss_one (ds_if (dt_w (dw_and (dt_cmp (op_eq_d (hu2 hr)) (dv 5) de_str (nomark _)) (dw_and1 (dt_cmp (op_eq_d (hu2 hr)) (de_ix (dv 3) de_int) de_int (nomark _))))) (dss_one (ds_expr (de_callH c_law_on (hr.mono (by omega)) rfl (da_cons (dv 0) (da_cons (dv 1) (da_cons (dv 4) da_nil)))))) (dss_one (ds_expr (de_callH c_law_take_word (hr.mono (by omega)) rfl (da_cons (dv 0) (da_cons (dv 1) (da_cons (dv 3) (da_cons (dv 4) da_nil)))))))))))))))))))))))))), ?_⟩
  rintro _ M Q ⟨_, _, rfl, a0, a1, a2, os, s, t, st, k, n, T, C, rfl, rfl, R, hc, Cc, hT, hT2, Ws, hm, h⟩
  have ht : t < s.thr.length := (List.getElem?_eq_some_iff.mp hc).1
  have htf : t < (fltd s t).thr.length := by unfold fltd; rw [List.length_set]; exact ht
  have hi0 : ixN (s.thr.map Cond.d).length (t : Int) = some t := ixN_nat (by rw [List.length_map]; exact ht)
  have hi : ixN ((fltd s t).thr.map Cond.d).length (t : Int) = some t := ixN_nat (by rw [List.length_map]; exact htf)
  have onw : ∀ (c : Cond) (s' : Sta), (fltd s t).thr = s'.thr → { s' with thr := s'.thr.set t c } = { s' with thr := s.thr.set t c } := fun c s' e => by
    rw [← e]
    unfold fltd
    rw [List.set_set]
  have onq : ∀ (c : Cond) (M' : Mh), MAt a0 a1 a2 os { fltd s t with thr := (fltd s t).thr.set t c } M' → MAt a0 a1 a2 os { s with thr := s.thr.set t c } M' := fun c M' R3 => by
    rw [onw _ _ rfl] at R3
    exact R3
  have hl1 := len_works (st :: k)
  simp only [List.length_cons] at hl1
  have R1 : MAt a0 a1 a2 os (fltd s t) (mupd M a1 (.lst ((s.thr.map Cond.d).set t (.tup [.str (Str.ofString "faulted")])))) := by
    rw [show (D.tup [.str (Str.ofString "faulted")]) = Cond.d .faulted from rfl, set_map]
    exact R.setT
  walk_at "s0"
  walk_at "st"
  refine ⟨_, rfl, ?_⟩
  walk_at "st"
  refine ⟨_, _, R.t, map_get hc, ?_⟩
  walk_at "st"
  refine ⟨_, at0 st.d (stmsD k), ?_⟩
  walk_at "st"
  refine ⟨_, .lst, ?_⟩
  have e1 : cutD (stmsD (st :: k)) (some (1 : Int)) none = stmsD k := stmsD_drop1 st k
  rw [e1]
  generalize hM1 : mupd M a1 (.lst ((s.thr.map Cond.d).set t (.tup [.str (Str.ofString "faulted")]))) = M1 at R1
  have fin : ∀ (c : Cond) (M' : Mh), M' = mupd M1 a1 (.lst (((fltd s t).thr.map Cond.d).set t c.d)) → (∀ M', MAt a0 a1 a2 os { s with thr := s.thr.set t c } M' → Q .non M') → Q .non M' := fun c M' e q => q _ (onq _ _ (by rw [e, set_map]; exact R1.setT))
  cases st with
  | stop =>
    walk_at "st"
    refine ⟨_, rfl, ?_⟩
    walk_at "st"
    refine ⟨_, _, _, _, rfl, rfl, R.t, hi0, ?_⟩
    simp only [hM1]
    walk_at "st"
    refine ⟨_, rfl, ?_⟩
    walk_at "st"
    exact ⟨_, _, _, _, rfl, rfl, R1.t, hi, fin .stopped _ rfl h⟩
  | skip =>
    walk_at "st"
    refine ⟨_, rfl, ?_⟩
    walk_at "st"
    refine ⟨_, _, _, _, rfl, rfl, R.t, hi0, ?_⟩
    simp only [hM1]
    walk_at "st"
    refine ⟨_, _, _, rfl, a0, a1, a2, os, _, t, k, rfl, rfl, rfl, R1, htf, fun M' R3 => ?_⟩
    walk_at "st"
    exact h _ (onq _ _ R3)
  | seq l =>
    walk_at "st"
    refine ⟨_, rfl, ?_⟩
    walk_at "st"
    refine ⟨_, _, _, _, rfl, rfl, R.t, hi0, ?_⟩
    simp only [hM1]
    have hl2 := len_works l
    have hl3 := len_works k
    simp only [works, Stm.work] at hm
    walk_at "st"
    refine ⟨_, _, .lst, .lst, by rw [sizeLine_eq, stmsD_len, stmsD_len]; omega, ?_⟩
    walk_at "st"
    refine ⟨_, _, _, rfl, a0, a1, a2, os, _, t, l ++ k, rfl, rfl, by rw [stmsD_eq, stmsD_eq, stmsD_eq, List.map_append], R1, htf, fun M' R3 => ?_⟩
    walk_at "st"
    exact h _ (onq _ _ R3)
  | alt rows =>
    walk_at "st"
    refine ⟨_, rfl, ?_⟩
    walk_at "st"
    refine ⟨_, _, _, _, rfl, rfl, R.t, hi0, ?_⟩
    simp only [hM1]
    walk_at "st"
    refine ⟨_, _, _, _, rfl, a0, a1, a2, os, _, t, rows, k, n, T, C, rfl, rfl, rfl, rfl, R1, htf, Cc, Ws.2.2, Ws.1, fun M' R3 => ?_⟩
    walk_at "st"
    exact h _ (onq _ _ R3)
  | take c tg =>
    simp only [stepS, afterStep] at h
    walk_at "st"
    refine ⟨_, rfl, ?_⟩
    walk_at "st"
    refine ⟨_, _, _, _, rfl, rfl, R.t, hi0, ?_⟩
    simp only [hM1]
    walk_at "st"
    refine ⟨_, rfl, ?_⟩
    walk_at "st"
    refine ⟨_, _, rfl, tg, s.cells, n, a0, rfl, rfl, R1.c, Ws.2.1, Ws.2.2.1, Cc, Ws.2.2.2, ?_⟩
    cases hp : plc s.cells tg with
    | none =>
      simp only [hp] at h
      walk_at "st"
      exact h _ R1
    | some x =>
      simp only [hp] at h
      walk_at "st"
      refine ⟨_, rfl, ?_⟩
      walk_at "st"
      exact ⟨_, _, _, _, rfl, rfl, R1.t, hi, fin (.opn [(c, x, [])] k) _ rfl h⟩
  | par l =>
    simp only [stepS] at h
    have hl : l.length ≤ 1000 := Ws.1
    have hw := bwf_iff.mp Ws.2
    have ed : (Stm.par l).d = .tup [S "par", .lst (l.map brD)] := by rw [← brsD_map]; rfl
    rw [ed]
    walk_at "st"
    refine ⟨_, rfl, ?_⟩
    walk_at "st"
    refine ⟨_, _, _, _, rfl, rfl, R.t, hi0, ?_⟩
    simp only [hM1]
    walk_at "st"
    intro p hp
    refine lc_map l brD (fun _ => true) (fun p => N p.1) (by rw [sizeLine_eq]; omega) (by exact fun _ => trivial) (fun r hr' acc Ky Kn hh => ?_) ?_
    · walk_at "st"
      exact hh
    rw [filter_all]
    simp only [del_upd hp]
    walk_at "st"
    refine ⟨_, rfl, ?_⟩
    walk_at "st"
    refine ⟨_, _, _, _, rfl, rfl, R1.t, hi, ?_⟩
    have e0 : ((fltd s t).thr.map Cond.d).set t (.tup [S "joining", .lst (l.map fun p => N p.1), .lst (stmsD k)]) = ((s.thr.set t (.joining (l.map (·.1)) k))).map Cond.d := by
      have e2 : (D.tup [S "joining", .lst (l.map fun p => N p.1), .lst (stmsD k)]) = Cond.d (.joining (l.map (·.1)) k) := by
        simp only [Cond.d, List.map_map]
        rfl
      rw [e2, set_map]
      unfold fltd
      rw [List.set_set]
    have R2 : MAt a0 a1 a2 os { s with thr := s.thr.set t (.joining (l.map (·.1)) k) } (mupd M1 a1 (.lst (((fltd s t).thr.map Cond.d).set t (.tup [S "joining", .lst (l.map fun p => N p.1), .lst (stmsD k)])))) := by
      rw [e0]
      exact MAt.setT (s := fltd s t) R1
    walk_at "st"
    refine loop_by (fun i σ M' => ∃ x6 x7 x8, σ = [some (mD a0 a1 a2 os), some (N t), some (.lst (stmsD (Stm.par l :: k))), some (.tup [S "par", .lst (l.map brD)]), some (.lst (stmsD k)), some (S "par"), x6, x7, x8, none] ∧ MAt a0 a1 a2 os { s with thr := forks (l.take i) (s.thr.set t (.joining (l.map (·.1)) k)) } M')
      (fun _ _ _ _ _ => trivial) ?_ ?_ ⟨_, _, _, rfl, R2⟩
    · rintro i d σ M' nx hd ⟨x6, x7, x8, rfl, R3⟩ hnx
      have hi : i < l.length := by
        have := (List.getElem?_eq_some_iff.mp hd).1
        rw [List.length_map] at this
        exact this
      have hr := List.getElem?_eq_getElem hi
      generalize l[i] = r at hr
      have e : d = brD r := by rw [List.getElem?_map, hr] at hd; exact (Option.some.inj hd).symm
      subst e
      have hrt : r.1 < s.thr.length := by rw [hT]; exact (hw r (List.mem_of_getElem? hr)).1
      walk_at "st"
      refine ⟨_, rfl, ?_⟩
      walk_at "st"
      refine ⟨_, _, _, _, rfl, rfl, R3.t, ixN_nat (by rw [List.length_map, forks_len, List.length_set]; exact hrt), ?_⟩
      refine hnx _ _ ⟨_, _, _, rfl, ?_⟩
      have e3 : forks (l.take (i + 1)) (s.thr.set t (.joining (l.map (·.1)) k)) = (forks (l.take i) (s.thr.set t (.joining (l.map (·.1)) k))).set r.1 (.on [r.2]) := by
        rw [List.take_succ, hr]
        exact forks_snoc _ _ _
      rw [e3]
      have e4 : (D.tup [.str (Str.ofString "at"), .lst [r.2.d]]) = Cond.d (.on [r.2]) := rfl
      rw [e4, set_map]
      exact R3.setT
    · rintro σ M' ⟨x6, x7, x8, rfl, R3⟩
      rw [List.length_map, List.take_length] at R3
      walk_at "st"
      exact h _ R3
  | rep e j b =>
    walk_at "st"
    refine ⟨_, rfl, ?_⟩
    walk_at "st"
    refine ⟨_, _, _, _, rfl, rfl, R.t, hi0, ?_⟩
    simp only [hM1]
    walk_at "st"
    refine iteP (fun c => ?_) (fun c => ?_)
    · have hj : j = 0 := by omega
      subst hj
      simp only [stepS, afterStep, afterTest, if_true] at h
      walk_at "st"
      refine ⟨_, _, _, rfl, a0, a1, a2, os, _, t, k, rfl, rfl, rfl, R1, htf, fun M' R3 => ?_⟩
      walk_at "st"
      exact h _ (onq _ _ R3)
    · walk_at "st"
      refine ⟨_, _, _, _, rfl, a0, a1, a2, os, s, t, .rep e j b, k, n, T, C, rfl, rfl, rfl, rfl, R1, ht, Cc, Ws, by omega, decide_eq_true (by omega), fun M' R3 => ?_⟩
      walk_at "st"
      exact h _ R3
  | _ =>
    walk_at "st"
    refine ⟨_, rfl, ?_⟩
    walk_at "st"
    refine ⟨_, _, _, _, rfl, rfl, R.t, hi0, ?_⟩
    simp only [hM1]
    walk_at "st"
    refine ⟨_, _, _, _, rfl, a0, a1, a2, os, s, t, _, k, n, T, C, rfl, rfl, rfl, rfl, R1, ht, Cc, Ws, by omega, rfl, fun M' R3 => ?_⟩
    walk_at "st"
    exact h _ R3
end
end Dl
namespace Dl
open PySem PySem.Spec PyProof.Rows L2 Mi
local macro_rules | `(tactic| walk_at "dl") => `(tactic| simp only [dRet, dOp, dSl, dV, dNoP, dPart, dLst, dLstM, dCons, dNil, dC, startD, rAdd, rAddM, rIx, rEq, rNe, rII, rII0, rIB0, rMul, rIsN, rNotN, isNon, dNeg, dTest, dAnd, dOr, dNot, dAndV, dOrV, dNotV, dIf, dTup, dFrz, dCB, rLen, rInt1, rAbs1, rMin2, rAll1, dBM, rApp, rExt, rPop0,
  dGet, dPut, dNext, dSeq, dDrop, dIfS, dName, dgNil, dgCons, dgTup, dAsg, dSub, rSet, dPar, dIL, dIT, dIR, dIE, dIZ, dFor, dYes, dCall, dLc, dLcM, dLcF, dPair, dGetT, dInT, dPutT, dNewT, wipeD,
  natsD, isL_lst, isL_ref, seqIn_tup, seqIn_lst, rIn, flatD, eqD, List.all_cons, List.all_nil, List.any_cons, List.any_nil, sizeLine_eq, Nat.reduceLeDiff, Nat.reduceLT, Bool.or_false, Bool.and_true, Bool.true_and, Bool.false_and, Bool.false_or, Bool.or_true, Bool.true_or, Bool.and_false, tupAt, optE, endsOf,
  List.map_cons, List.map_nil, List.length_cons, List.length_nil, List.cons_append, List.nil_append, List.append_nil, List.getElem?_cons_zero, List.getElem?_cons_succ, List.getElem?_nil, List.set_cons_zero, List.set_cons_succ, List.replicate_succ, List.replicate_zero, List.length_append, List.replicate,
  of_sE, String.reduceEq, decide_true, decide_false, Bool.false_eq_true, Bool.not_true, Bool.not_false, reduceIte, exists_eq_left, exists_eq_left', true_and, and_true, if_true, if_false, ite_true, ite_false, Nat.reduceAdd, Nat.reduceSub, Nat.reduceBEq, BEq.rfl, beq_self_eq_true, D.ref.injEq, D.int.injEq, D.str.injEq, D.lst.injEq, D.tup.injEq, List.cons.injEq, exists_and_left, exists_const, and_self])
local macro_rules | `(tactic| walk_at "s0") => `(tactic| (dsimp only [startD, List.length_cons, List.length_nil, List.map_cons, List.map_nil, List.cons_append, List.nil_append, Nat.reduceAdd, Nat.reduceSub, List.replicate_succ, List.replicate_zero]))
local macro_rules | `(tactic| walk_at "st") => `(tactic| ((conv => whnf); (try dsimp only [List.set_cons_zero, List.set_cons_succ]); repeat ((refine ⟨Nat.le_of_ble_eq_true rfl, ?_⟩); (conv => whnf); (try dsimp only [List.set_cons_zero, List.set_cons_succ]))))

section
variable {P : Program} {K : PySem.W.Frag} {mg : Str → Option Value} {w : World} {base : Heap}
theorem find_at {rows : List (Nat × Nat × List Stm)} {c : Nat} {r : Nat × Nat × List Stm} (hf : rows.find? (fun r => decide (r.1 = c)) = some r) (nd : (rows.map (·.1)).Nodup) : ∃ j, rows[j]? = some r ∧ ∀ (i : Nat) x, rows[i]? = some x → (x.1 = c ↔ i = j) := by
  have hm := List.mem_of_find?_eq_some hf
  have hc : r.1 = c := by
    have h := List.find?_some (p := fun r : Nat × Nat × List Stm => decide (r.1 = c)) hf
    exact of_decide_eq_true h
  obtain ⟨j, hj, e⟩ := List.getElem_of_mem hm
  have ej : rows[j]? = some r := by rw [List.getElem?_eq_getElem hj, e]
  refine ⟨j, ej, fun i x hx => ⟨fun h => ?_, fun h => ?_⟩⟩
  · have il : i < rows.length := (List.getElem?_eq_some_iff.mp hx).1
    have pw := List.pairwise_iff_getElem.mp nd
    have ex : rows[i] = x := (List.getElem?_eq_some_iff.mp hx).2
    by_cases hij : i = j
    · exact hij
    · exfalso
      rcases Nat.lt_or_gt_of_ne hij with g | g
      · refine pw i j (by rw [List.length_map]; exact il) (by rw [List.length_map]; exact hj) g ?_
        rw [List.getElem_map, List.getElem_map, e, ex, h, hc]
      · refine pw j i (by rw [List.length_map]; exact hj) (by rw [List.length_map]; exact il) g ?_
        rw [List.getElem_map, List.getElem_map, e, ex, h, hc]
  · subst h
    rw [ej] at hx
    cases hx
    exact hc
def spLGot : SpD := sp4 fun a b c d M Q => ∃ a0 a1 a2 os s t ch v rows k r, a = mD a0 a1 a2 os ∧ b = N t ∧ c = N ch ∧ d = N v ∧ MAt a0 a1 a2 os s M ∧ Waits s ch t rows k r ∧ (rows.map (·.1)).Nodup ∧ r.2.1 < s.cells.length ∧ works r.2.2 + works k ≤ 3000 ∧
  ∀ M', MAt a0 a1 a2 os (Mi.recv s ch t v) M' → Q .non M'
abbrev n_law_got : List Str := ["_law_m", "_law_t", "_law_c", "_law_word", "_law_name", "_law_rows", "_law_rest", "_law_channel", "_law_cell", "_law_ahead"]
theorem sc_law_got : FnScope n_law_got ["_law_m", "_law_t", "_law_c", "_law_word"] (defScope s_law_got) := ⟨rfl, rfl, rfl, by decide +kernel, rfl, by decide +kernel, by decide +kernel⟩
/-- _law_got; slots 0 _law_m, 1 _law_t, 2 _law_c, 3 _law_word, 4 _law_name, 5 _law_rows, 6 _law_rest, 7 _law_channel, 8 _law_cell, 9 _law_ahead; cells []; calls ['_law_on'] -/
theorem ok_law_got (B : Bl K mg) (Tx : Txt K mg "_law_got" s_law_got) (c_law_on : Have P w K mg base "_law_on" ["_law_m", "_law_t", "_law_stack"] 1 spLOn) : Have P w K mg base "_law_got" ["_law_m", "_law_t", "_law_c", "_law_word"] 2 spLGot := by
  refine have_of Tx sc_law_got (fun _ _ _ _ _ _ us hl => match us, hl with | [_, _, _, _], _ => rfl) len4 fun cdv f A outer s H E hr => ⟨_, (dss_cons (ds_asg (vs := [4, 5, 6]) (de_ix (de_ix (dv 0) de_int) (dv 1)) (dg_tup (n := 3) rfl (dgs_cons (dg_name (i := 4) (by decide) sc_law_got.nd rfl (Or.inl rfl)) (dgs_cons (dg_name (i := 5) (by decide) sc_law_got.nd rfl (Or.inl rfl)) (dgs_cons (dg_name (i := 6) (by decide) sc_law_got.nd rfl (Or.inl rfl)) dgs_nil)))))
    (dss_one (ds_for (vs := [7, 8, 9]) PassesOwn.never rfl (di_list (dv 5)) (dg_tup (n := 3) rfl (dgs_cons (dg_name (i := 7) (by decide) sc_law_got.nd rfl (Or.inl rfl)) (dgs_cons (dg_name (i := 8) (by decide) sc_law_got.nd rfl (Or.inl rfl)) (dgs_cons (dg_name (i := 9) (by decide) sc_law_got.nd rfl (Or.inl rfl)) dgs_nil)))) (dss_one (ds_if (dt_cmp (op_eq_d (hu2 hr)) (dv 7) (dv 2) (nomark _)) (dss_cons (ds_asg (vs := []) (dv 3) (dg_sub (de_ix (dv 0) de_int) (dv 8)))
    (dss_one (ds_expr (de_callH c_law_on (hr.mono (by omega)) rfl (da_cons (dv 0) (da_cons (dv 1) (da_cons (de_op op_add_d (dv 9) (dv 6)) da_nil))))))) dss_nil))))), ?_⟩
  rintro _ M Q ⟨_, _, _, _, rfl, a0, a1, a2, os, s, t, ch, v, rows, k, r, rfl, rfl, rfl, rfl, R, Wt, nd, hcell, hwk, h⟩
  rw [Wt.recv] at h
  have hc := Wt.at_
  have ht : t < s.thr.length := (List.getElem?_eq_some_iff.mp hc).1
  obtain ⟨j, hj, hjj⟩ := find_at Wt.fd nd
  walk_at "s0"
  walk_at "st"
  refine ⟨_, rfl, ?_⟩
  walk_at "st"
  refine ⟨_, _, R.t, map_get hc, ?_⟩
  walk_at "st"
  refine loop_by (fun i σ M' => ∃ x7 x8 x9, σ = [some (mD a0 a1 a2 os), some (N t), some (N ch), some (N v), some (S "open"), some (.lst (rows.map orowD)), some (.lst (stmsD k)), x7, x8, x9] ∧
      ((i ≤ j ∧ MAt a0 a1 a2 os s M') ∨ (j < i ∧ MAt a0 a1 a2 os { s with cells := s.cells.set r.2.1 v, thr := s.thr.set t (onK (r.2.2 ++ k)) } M')))
    (fun _ _ _ _ _ => trivial) ?_ ?_ ⟨_, _, _, rfl, .inl ⟨Nat.zero_le _, R⟩⟩
  · rintro i d σ M' nx hd ⟨x7, x8, x9, rfl, hR⟩ hnx
    have hi : i < rows.length := by
      have := (List.getElem?_eq_some_iff.mp hd).1
      rw [List.length_map] at this
      exact this
    have hx := List.getElem?_eq_getElem hi
    generalize rows[i] = x at hx
    have e : d = orowD x := by rw [List.getElem?_map, hx] at hd; exact (Option.some.inj hd).symm
    subst e
    have hxj := hjj i x hx
    walk_at "st"
    refine iteP (fun c => ?_) (fun c => ?_)
    · have eij : i = j := hxj.mp (Int.ofNat_inj.mp c)
      subst eij
      rw [hj] at hx
      cases hx
      have R2 : MAt a0 a1 a2 os s M' := by
        rcases hR with hR | hR
        · exact hR.2
        · exact absurd hR.1 (Nat.lt_irrefl _)
      walk_at "st"
      refine ⟨_, rfl, ?_⟩
      walk_at "st"
      refine ⟨_, _, _, _, rfl, rfl, R2.c, ixN_nat (by rw [List.length_map]; exact hcell), ?_⟩
      have R3 := R2.setC (l := s.cells.set r.2.1 v)
      rw [← set_map] at R3
      have hl1 := len_works r.2.2
      have hl2 := len_works k
      walk_at "st"
      refine ⟨_, _, .lst, .lst, by rw [sizeLine_eq, stmsD_len, stmsD_len]; omega, ?_⟩
      walk_at "st"
      refine ⟨_, _, _, rfl, a0, a1, a2, os, _, t, r.2.2 ++ k, rfl, rfl, by rw [stmsD_eq, stmsD_eq, stmsD_eq, List.map_append], R3, ht, fun M3 R4 => ?_⟩
      exact hnx _ _ ⟨_, _, _, rfl, .inr ⟨Nat.lt_succ_self _, R4⟩⟩
    · have nij : i ≠ j := fun z => c (by rw [hxj.mpr z])
      refine hnx _ _ ⟨_, _, _, rfl, ?_⟩
      rcases hR with hR | hR
      · exact .inl ⟨by omega, hR.2⟩
      · exact .inr ⟨by omega, hR.2⟩
  · rintro σ M' ⟨x7, x8, x9, rfl, hR⟩
    have jl : j < rows.length := (List.getElem?_eq_some_iff.mp hj).1
    walk_at "st"
    refine h _ ?_
    rcases hR with hR | hR
    · have := hR.1
      rw [List.length_map] at this
      omega
    · exact hR.2
def spLChoice : SpD := sp3 fun a b c M Q => ∃ (l : List Nat) (k n : Nat), a = natsD l ∧ b = N k ∧ c = N n ∧ 0 < n ∧ l.length ≤ 1000 ∧ k ≤ 1000000 ∧ ∀ i, i < n → Q (N i) M
abbrev n_law_choice : List Str := ["_law_choices_here", "_law_k", "_law_many_here"]
theorem sc_law_choice : FnScope n_law_choice ["_law_choices_here", "_law_k", "_law_many_here"] (defScope s_law_choice) := ⟨rfl, rfl, rfl, by decide +kernel, rfl, by decide +kernel, by decide +kernel⟩
/-- _law_choice; slots 0 _law_choices_here, 1 _law_k, 2 _law_many_here; cells []; calls [] -/
theorem ok_law_choice (B : Bl K mg) (Tx : Txt K mg "_law_choice" s_law_choice) : Have P w K mg base "_law_choice" ["_law_choices_here", "_law_k", "_law_many_here"] 1 spLChoice := by
  refine have_of Tx sc_law_choice (fun _ _ _ _ _ _ us hl => match us, hl with | [_, _, _], _ => rfl) len3 fun cdv f A outer s H E hr => ⟨_, (dss_cons (ds_if (dt_cmp (op_eq_d (hu2 hr)) (de_callB call_len_d rfl B.len PySem.boot_len (da_cons (dv 0) da_nil)) de_int (nomark _)) (dss_one (ds_ret de_int)) dss_nil)
    (dss_one (ds_ret (de_op op_mod_d (de_callTy call_int_d rfl B.int (by decide +kernel) (da_cons (de_ix (dv 0) (de_op op_sub_d (dv 1) (de_op op_mul_d (de_op op_fdiv_d (dv 1) (de_callB call_len_d rfl B.len PySem.boot_len (da_cons (dv 0) da_nil))) (de_callB call_len_d rfl B.len PySem.boot_len (da_cons (dv 0) da_nil))))) da_nil)) (dv 2))))), ?_⟩
  rintro _ M Q ⟨_, _, _, rfl, l, k, n, rfl, rfl, rfl, hn, hl, hk, h⟩
  walk_at "s0"
  walk_at "st"
  refine ⟨_, .lst, ?_⟩
  rw [List.length_map]
  refine iteP (fun c => ?_) (fun c => ?_)
  · walk_at "st"
    exact rt_same (h 0 hn)
  · walk_at "st"
    have hp : 0 < l.length := by omega
    refine ⟨_, .lst, ?_⟩
    walk_at "st"
    rw [List.length_map]
    refine ⟨⟨by omega, by omega⟩, ?_⟩
    walk_at "st"
    refine ⟨_, .lst, ?_⟩
    have e1 : ((k : Int)).fdiv (l.length : Int) = ((k / l.length : Nat) : Int) := by rw [Int.fdiv_eq_ediv_of_nonneg _ (by omega), Int.natCast_ediv]
    have hq : k / l.length ≤ k := Nat.div_le_self _ _
    rw [List.length_map, e1]
    have e2 : (k : Int) - ((k / l.length : Nat) : Int) * (l.length : Int) = ((k % l.length : Nat) : Int) := by
      have h1 := Nat.mod_add_div k l.length
      have h2 : ((k / l.length : Nat) : Int) * (l.length : Int) = ((k / l.length * l.length : Nat) : Int) := by rw [Int.natCast_mul]
      rw [h2]
      rw [Nat.mul_comm] at h1
      omega
    generalize k / l.length = q at hq e2 ⊢
    refine ⟨.inl ⟨by omega, by omega⟩, ?_⟩
    have hm := Nat.mod_lt k hp
    refine ⟨_, by show atI (l.map N) ((k : Int) - (q : Int) * (l.length : Int)) = _; rw [e2]; exact mapN_get (get_of_lt 0 hm), ?_⟩
    walk_at "st"
    refine ⟨by omega, ?_⟩
    have e3 : ((l.getD (k % l.length) 0 : Nat) : Int).fmod (n : Int) = ((l.getD (k % l.length) 0 % n : Nat) : Int) := by rw [Int.fmod_eq_emod_of_nonneg _ (by omega), Int.natCast_emod]
    rw [e3]
    exact rt_same (h _ (Nat.mod_lt _ hn))
def spLDo : SpD := sp4 fun a b c d M Q => ∃ (co : Core) (inp : List (List Nat)) (T : Nat) (F : Fix co inp T) (s : Sta) (r : Rdx) (a0 a1 a2 : Addr) (os : List Addr), a = co.d ∧ b = inpD inp ∧ c = mD a0 a1 a2 os ∧ d = r.d ∧ s.wf F ∧ RdxOk inp s r ∧ MAt a0 a1 a2 os s M ∧
  ∀ M', MAt a0 a1 a2 os (perf inp s r) M' → Q (evntD (evnt inp s r)) M'
abbrev n_law_do : List Str := ["_law_core_here", "_law_inputs_here", "_law_m", "_law_redex", "_law_c", "_law_word", "_law_name", "_law_channel", "_law_rest"]
theorem sc_law_do : FnScope n_law_do ["_law_core_here", "_law_inputs_here", "_law_m", "_law_redex"] (defScope s_law_do) := ⟨rfl, rfl, rfl, by decide +kernel, rfl, by decide +kernel, by decide +kernel⟩
/-- _law_do; slots 0 _law_core_here, 1 _law_inputs_here, 2 _law_m, 3 _law_redex, 4 _law_c, 5 _law_word, 6 _law_name, 7 _law_channel, 8 _law_rest; cells []; calls ['_law_got', '_law_on', '_law_take_step'] -/
theorem ok_law_do (B : Bl K mg) (Tx : Txt K mg "_law_do" s_law_do) (c_law_on : Have P w K mg base "_law_on" ["_law_m", "_law_t", "_law_stack"] 1 spLOn) (c_law_got : Have P w K mg base "_law_got" ["_law_m", "_law_t", "_law_c", "_law_word"] 2 spLGot)
    (c_law_take_step : Have P w K mg base "_law_take_step" ["_law_m", "_law_t"] 11 spLStep) : Have P w K mg base "_law_do" ["_law_core_here", "_law_inputs_here", "_law_m", "_law_redex"] 12 spLDo := by
  refine have_of Tx sc_law_do (fun _ _ _ _ _ _ us hl => match us, hl with | [_, _, _, _], _ => rfl) len4 fun cdv f A outer s H E hr => ⟨_, (dss_cons (ds_if (dt_cmp (op_eq_d (hu2 hr)) (de_ix (dv 3) de_int) de_str (nomark _)) (dss_cons (ds_expr (de_callH c_law_take_step (hr.mono (by omega)) rfl (da_cons (dv 2) (da_cons (de_ix (dv 3) de_int) da_nil))))
    (dss_one (ds_ret de_non))) dss_nil)
    (dss_cons (ds_if (dt_cmp (op_eq_d (hu2 hr)) (de_ix (dv 3) de_int) de_str (nomark _)) (dss_cons (ds_expr (de_callH c_law_on (hr.mono (by omega)) rfl (da_cons (dv 2) (da_cons (de_ix (dv 3) de_int) (da_cons (de_ix (de_ix (de_ix (dv 2) de_int) (de_ix (dv 3) de_int)) de_int) da_nil)))))
    (dss_one (ds_ret de_non))) dss_nil)
    (dss_cons (ds_set (i := 4) sc_law_do.nd rfl (Or.inl rfl) (de_ix (dv 3) de_int))
    (dss_cons (ds_if (dt_cmp (op_eq_d (hu2 hr)) (de_ix (dv 3) de_int) de_str (nomark _)) (dss_cons (ds_set (i := 5) sc_law_do.nd rfl (Or.inl rfl) (de_ix (de_ix (dv 1) (dv 4)) (de_ix (de_ix (dv 2) de_int) (dv 4))))
    (dss_cons (ds_asg (vs := []) (de_op op_add_d (de_ix (de_ix (dv 2) de_int) (dv 4)) de_int) (dg_sub (de_ix (dv 2) de_int) (dv 4)))
    (dss_cons (ds_expr (de_callH c_law_got (hr.mono (by omega)) rfl (da_cons (dv 2) (da_cons (de_ix (dv 3) de_int) (da_cons (dv 4) (da_cons (dv 5) da_nil))))))
    (dss_one (ds_ret (de_tup (da_cons (dv 4) (da_cons (dv 5) da_nil)))))))) dss_nil)
    (dss_cons (ds_asg (vs := [6, 7, 5, 8]) (de_ix (de_ix (dv 2) de_int) (de_ix (dv 3) de_int)) (dg_tup (n := 4) rfl (dgs_cons (dg_name (i := 6) (by decide) sc_law_do.nd rfl (Or.inl rfl)) (dgs_cons (dg_name (i := 7) (by decide) sc_law_do.nd rfl (Or.inl rfl)) (dgs_cons (dg_name (i := 5) (by decide) sc_law_do.nd rfl (Or.inl rfl)) (dgs_cons (dg_name (i := 8) (by decide) sc_law_do.nd rfl (Or.inl rfl)) dgs_nil))))))
    (dss_cons (ds_expr (de_callH c_law_on (hr.mono (by omega)) rfl (da_cons (dv 2) (da_cons (de_ix (dv 3) de_int) (da_cons (dv 8) da_nil)))))
    (dss_cons (ds_if (dt_cmp (op_eq_d (hu2 hr)) (de_ix (dv 3) de_int) de_str (nomark _)) (dss_one (ds_expr (de_bm PySem.F.slot_list_append PySem.F.type_list_append mt_append_d (de_ix (de_ix (dv 2) de_int) (de_op op_sub_d (dv 4) (de_callB call_len_d rfl B.len PySem.boot_len (da_cons (de_ix (dv 2) de_int) da_nil)))) (da_cons (dv 5) da_nil)))) (dss_one (ds_expr (de_callH c_law_got (hr.mono (by omega)) rfl (da_cons (dv 2) (da_cons (de_ix (dv 3) de_int) (da_cons (dv 4) (da_cons (dv 5) da_nil))))))))
    (dss_one (ds_ret (de_tup (da_cons (dv 4) (da_cons (dv 5) da_nil)))))))))))), ?_⟩
  rintro _ M Q ⟨_, _, _, _, rfl, co, inp, T, F, s, r, a0, a1, a2, os, rfl, rfl, rfl, rfl, W, Rk, R, h⟩
  have hT2 := F.T2
  have rwk : ∀ {rows : List (Nat × Nat × List Stm)} {r : Nat × Nat × List Stm}, r ∈ rows → works r.2.2 ≤ rowsWork rows := by
    intro rows r hrm
    induction rows with
    | nil => cases hrm
    | cons a rows ih =>
      show _ ≤ max (works a.2.2) (rowsWork rows)
      rcases List.mem_cons.mp hrm with e | e
      · subst e; exact Nat.le_max_left _ _
      · exact Nat.le_trans (ih e) (Nat.le_max_right _ _)
  have wt : ∀ {t c : Nat} {rows k x}, s.thr[t]? = some (.opn rows k) → rows.find? (fun r => decide (r.1 = c)) = some x → (rows.map (·.1)).Nodup ∧ x.2.1 < s.cells.length ∧ works x.2.2 + works k ≤ 3000 := by
    intro t c rows k x hc hf
    have Wc : Cond.wf co.n T co.kinds.length (.opn rows k) := W.cond _ (List.mem_of_getElem? hc)
    have hm := Nat.le_trans (Sta.meas_at hc) W.meas
    have hx := List.mem_of_find?_eq_some hf
    have := rwk hx
    simp only [Cond.meas] at hm
    exact ⟨Wc.2.1, by rw [W.cells.len]; exact (Wc.1 x hx).2.1, by omega⟩
  walk_at "s0"
  cases r with
  | step t =>
    obtain ⟨st, k, hc⟩ := Rk
    have Wc : Cond.wf co.n T co.kinds.length (.on (st :: k)) := W.cond _ (List.mem_of_getElem? hc)
    have hm := Nat.le_trans (Sta.meas_at hc) W.meas
    have eT : stepT s t = stepS s t k st := by unfold stepT; rw [getD_get hc]
    simp only [perf, eT] at h
    walk_at "st"
    refine ⟨_, _, rfl, a0, a1, a2, os, s, t, st, k, co.n, T, co.kinds.length, rfl, rfl, R, hc, W.cells, W.thr, hT2, Wc.2.1, hm, fun M' R3 => ?_⟩
    walk_at "st"
    exact rt_same (h _ R3)
  | fin t =>
    obtain ⟨ts, k, hc⟩ := Rk
    have ht : t < s.thr.length := (List.getElem?_eq_some_iff.mp hc).1
    simp only [perf, getD_get hc] at h
    walk_at "st"
    refine ⟨_, rfl, ?_⟩
    walk_at "st"
    refine ⟨_, _, R.t, map_get hc, ?_⟩
    walk_at "st"
    refine ⟨_, _, _, rfl, a0, a1, a2, os, s, t, k, rfl, rfl, rfl, R, ht, fun M' R3 => ?_⟩
    walk_at "st"
    exact rt_same (h _ R3)
  | input c t =>
    obtain ⟨⟨rows, k, r, hc, hf⟩, hct, hci, hl⟩ := Rk
    obtain ⟨g1, g2, g3⟩ := wt hc hf
    simp only [perf] at h
    walk_at "st"
    refine ⟨_, map_get (get_of_lt [] hci), ?_⟩
    walk_at "st"
    refine ⟨_, rfl, ?_⟩
    walk_at "st"
    refine ⟨_, _, R.k, mapN_get (get_of_lt 0 hct), ?_⟩
    walk_at "st"
    refine ⟨_, mapN_get (get_of_lt 0 hl), ?_⟩
    walk_at "st"
    refine ⟨_, rfl, ?_⟩
    walk_at "st"
    refine ⟨_, _, R.k, mapN_get (get_of_lt 0 hct), ?_⟩
    walk_at "st"
    refine ⟨_, rfl, ?_⟩
    walk_at "st"
    refine ⟨_, _, _, _, rfl, rfl, R.k, ixN_nat (by rw [List.length_map]; exact hct), ?_⟩
    have e3 : (s.taken.map N).set c (.int ((s.taken.getD c 0 : Nat) + 1)) = (s.taken.set c (s.taken.getD c 0 + 1)).map N := by rw [← set_map]; rfl
    have R2 := R.setK (l := s.taken.set c (s.taken.getD c 0 + 1))
    rw [← e3] at R2
    walk_at "st"
    refine ⟨_, _, _, _, rfl, a0, a1, a2, os, _, t, c, wordIn inp s c, rows, k, r, rfl, rfl, rfl, rfl, R2, ⟨hc, hf⟩, g1, g2, g3, fun M' R3 => ?_⟩
    walk_at "st"
    refine rt_same (h M' ?_)
    have e5 : Mi.recv s c t (wordIn inp s c) = _ := Waits.recv ⟨hc, hf⟩
    have e6 : Mi.recv { s with taken := s.taken.set c (s.taken.getD c 0 + 1) } c t (wordIn inp s c) = _ := Waits.recv ⟨hc, hf⟩
    rw [e6] at R3
    rw [e5]
    exact R3
  | output c t =>
    obtain ⟨w', k, hc, h1, h2⟩ := Rk
    have ht : t < s.thr.length := (List.getElem?_eq_some_iff.mp hc).1
    simp only [perf, evnt, getD_get hc] at h
    walk_at "st"
    refine ⟨_, rfl, ?_⟩
    walk_at "st"
    refine ⟨_, _, R.t, map_get hc, ?_⟩
    walk_at "st"
    refine ⟨_, _, _, rfl, a0, a1, a2, os, s, t, k, rfl, rfl, rfl, R, ht, fun M' R3 => ?_⟩
    walk_at "st"
    refine ⟨_, rfl, ?_⟩
    walk_at "st"
    refine ⟨_, rfl, ?_⟩
    walk_at "st"
    refine ⟨_, .ref R3.k, ?_⟩
    have ei : ((c : Int) - (((s.taken.map N).length : Nat) : Int)) = ((c - s.taken.length : Nat) : Int) := by rw [List.length_map]; omega
    have hol : c - s.taken.length < os.length := by rw [R.ol]; exact h2
    have ho := List.getElem?_eq_getElem hol
    generalize os[c - s.taken.length] = oa at ho
    refine ⟨_, by show atI (os.map D.ref) ((c : Int) - (((s.taken.map N).length : Nat) : Int)) = _; rw [ei]; exact map_get ho, ?_⟩
    walk_at "st"
    refine ⟨⟨_, .ref (R3.o _ _ ho)⟩, ?_⟩
    walk_at "st"
    have hol2 : (s.outs.getD (c - s.taken.length) []).length ≤ 3000 := W.outl _ (List.mem_of_getElem? (get_of_lt [] h2))
    refine ⟨_, _, rfl, R3.o _ _ ho, by rw [sizeLine_eq, List.length_map]; show (s.outs.getD (c - s.taken.length) []).length < _; omega, ?_⟩
    walk_at "st"
    refine rt_same (h _ ?_)
    have R4 := R3.setO (l := s.outs.getD (c - s.taken.length) [] ++ [w']) ho
    rw [List.map_append] at R4
    exact R4
  | meet c g t =>
    obtain ⟨⟨w', k', hg⟩, rows, k, r, hc, hf⟩ := Rk
    obtain ⟨g1, g2, g3⟩ := wt hc hf
    have hgl : g < s.thr.length := (List.getElem?_eq_some_iff.mp hg).1
    have ngt : t ≠ g := fun e => by
      rw [e, hg] at hc
      cases hc
    simp only [perf, evnt, getD_get hg] at h
    walk_at "st"
    refine ⟨_, rfl, ?_⟩
    walk_at "st"
    refine ⟨_, _, R.t, map_get hg, ?_⟩
    walk_at "st"
    refine ⟨_, _, _, rfl, a0, a1, a2, os, s, g, k', rfl, rfl, rfl, R, hgl, fun M' R3 => ?_⟩
    walk_at "st"
    have hc2 : (s.thr.set g (onK k'))[t]? = some (.opn rows k) := by rw [List.getElem?_set_ne (Ne.symm ngt)]; exact hc
    refine ⟨_, _, _, _, rfl, a0, a1, a2, os, _, t, c, w', rows, k, r, rfl, rfl, rfl, rfl, R3, ⟨hc2, hf⟩, g1, g2, g3, fun M4 R4 => ?_⟩
    walk_at "st"
    refine rt_same (h M4 ?_)
    rw [Waits.recv ⟨hc, hf⟩]
    rw [Waits.recv ⟨hc2, hf⟩] at R4
    show MAt a0 a1 a2 os { s with cells := s.cells.set r.2.1 w', thr := (s.thr.set t (onK (r.2.2 ++ k))).set g (onK k') } M4
    rw [List.set_comm _ _ ngt]
    exact R4
end
end Dl
namespace Dl
open PySem PySem.Spec PyProof.Rows L2 Mi
local macro_rules | `(tactic| walk_at "dl") => `(tactic| simp only [dRet, dOp, dSl, dV, dNoP, dPart, dLst, dLstM, dCons, dNil, dC, startD, rAdd, rAddM, rIx, rEq, rNe, rII, rII0, rIB0, rMul, rIsN, rNotN, isNon, dNeg, dTest, dAnd, dOr, dNot, dAndV, dOrV, dNotV, dIf, dTup, dFrz, dCB, rLen, rInt1, rAbs1, rMin2, rAll1, dBM, rApp, rExt, rPop0,
  dGet, dPut, dNext, dSeq, dDrop, dIfS, dName, dgNil, dgCons, dgTup, dAsg, dSub, rSet, dPar, dIL, dIT, dIR, dIE, dIZ, dFor, dYes, dCall, dLc, dLcM, dLcF, dPair, dGetT, dInT, dPutT, dNewT, wipeD,
  natsD, isL_lst, isL_ref, seqIn_tup, seqIn_lst, rIn, flatD, eqD, List.all_cons, List.all_nil, List.any_cons, List.any_nil, sizeLine_eq, Nat.reduceLeDiff, Nat.reduceLT, Bool.or_false, Bool.and_true, Bool.true_and, Bool.false_and, Bool.false_or, Bool.or_true, Bool.true_or, Bool.and_false, tupAt, optE, endsOf,
  List.map_cons, List.map_nil, List.length_cons, List.length_nil, List.cons_append, List.nil_append, List.append_nil, List.getElem?_cons_zero, List.getElem?_cons_succ, List.getElem?_nil, List.set_cons_zero, List.set_cons_succ, List.replicate_succ, List.replicate_zero, List.length_append, List.replicate,
  of_sE, String.reduceEq, decide_true, decide_false, Bool.false_eq_true, Bool.not_true, Bool.not_false, reduceIte, exists_eq_left, exists_eq_left', true_and, and_true, if_true, if_false, ite_true, ite_false, Nat.reduceAdd, Nat.reduceSub, Nat.reduceBEq, BEq.rfl, beq_self_eq_true, D.ref.injEq, D.int.injEq, D.str.injEq, D.lst.injEq, D.tup.injEq, List.cons.injEq, exists_and_left, exists_const, and_self])
local macro_rules | `(tactic| walk_at "s0") => `(tactic| (dsimp only [startD, List.length_cons, List.length_nil, List.map_cons, List.map_nil, List.cons_append, List.nil_append, Nat.reduceAdd, Nat.reduceSub, List.replicate_succ, List.replicate_zero]))
local macro_rules | `(tactic| walk_at "st") => `(tactic| ((conv => whnf); (try dsimp only [List.set_cons_zero, List.set_cons_succ]); repeat ((refine ⟨Nat.le_of_ble_eq_true rfl, ?_⟩); (conv => whnf); (try dsimp only [List.set_cons_zero, List.set_cons_succ]))))

section
variable {P : Program} {K : PySem.W.Frag} {mg : Str → Option Value} {w : World} {base : Heap}
theorem find_range {α : Type} (p : α → Bool) (d : α) : ∀ l : List α, (List.range l.length).find? (fun k => p (l.getD k d)) = l.findIdx? p
  | [] => rfl
  | a :: l => by
    rw [List.length_cons, List.range_succ_eq_map, List.find?_cons, List.findIdx?_cons]
    have e0 : (a :: l).getD 0 d = a := rfl
    rw [e0]
    cases p a with
    | true => rfl
    | false =>
      rw [List.find?_map]
      have ih := find_range p d l
      have e1 : ((fun k => p ((a :: l).getD k d)) ∘ Nat.succ) = fun k => p (l.getD k d) := rfl
      rw [e1, ih]
      rfl
def givers (thr : List Cond) (c : Nat) : List Nat := (List.range thr.length).filter fun k => isGiv c (thr.getD k .idle)
theorem givers_head (thr : List Cond) (c : Nat) : (givers thr c).head? = giver thr c := by
  unfold givers giver
  rw [List.head?_filter, find_range]
def spLReady : SpD := sp3 fun a b c M Q => ∃ (co : Core) (inp : List (List Nat)) (T : Nat) (F : Fix co inp T) (s : Sta) (a0 a1 a2 : Addr) (os : List Addr), a = co.d ∧ b = inpD inp ∧ c = mD a0 a1 a2 os ∧ s.wf F ∧ MAt a0 a1 a2 os s M ∧ Q (.lst ((rdxs co inp s).map Rdx.d)) M
abbrev n_law_ready : List Str := ["_law_core_here", "_law_inputs_here", "_law_m", "_law_found", "_law_t", "_law_condition", "_law_c", "_law_cell", "_law_ahead", "_law_givers", "_law_k"]
theorem sc_law_ready : FnScope n_law_ready ["_law_core_here", "_law_inputs_here", "_law_m"] (defScope s_law_ready) := ⟨rfl, rfl, rfl, by decide +kernel, rfl, by decide +kernel, by decide +kernel⟩
/-- _law_ready; slots 0 _law_core_here, 1 _law_inputs_here, 2 _law_m, 3 _law_found, 4 _law_t, 5 _law_condition, 6 _law_c, 7 _law_cell, 8 _law_ahead, 9 _law_givers, 10 _law_k; cells ['_law_c', '_law_m']; calls [] -/
theorem ok_law_ready (B : Bl K mg) (Tx : Txt K mg "_law_ready" s_law_ready) : Have P w K mg base "_law_ready" ["_law_core_here", "_law_inputs_here", "_law_m"] 1 spLReady := by
  refine have_of Tx sc_law_ready (fun _ _ _ _ _ _ us hl => match us, hl with | [_, _, _], _ => rfl) len3 fun cdv f A outer s H E hr => ⟨_, (dss_cons (ds_set (i := 3) sc_law_ready.nd rfl (Or.inl rfl) (de_lstM da_nil))
    (dss_cons (ds_for (vs := [4]) PassesOwn.never rfl (di_range rfl B.range (da_cons (de_callB call_len_d rfl B.len PySem.boot_len (da_cons (de_ix (dv 2) de_int) da_nil)) da_nil)) (dg_name (i := 4) (by decide) sc_law_ready.nd rfl (Or.inl rfl)) (dss_cons (ds_set (i := 5) sc_law_ready.nd rfl (Or.inl rfl) (de_ix (de_ix (dv 2) de_int) (dv 4)))
    (dss_one (ds_if (dt_cmp (op_eq_d (hu2 hr)) (de_ix (dv 5) de_int) de_str (nomark _)) (dss_one (ds_expr (de_bm PySem.F.slot_list_append PySem.F.type_list_append mt_append_d (dv 3) (da_cons (de_tup (da_cons de_str (da_cons (dv 4) da_nil))) da_nil)))) (dss_one (ds_if (dt_cmp (op_eq_d (hu2 hr)) (de_ix (dv 5) de_int) de_str (nomark _)) (dss_one (ds_for (vs := [6, 7, 8]) PassesOwn.never rfl (di_list (de_ix (dv 5) de_int)) (dg_tup (n := 3) rfl (dgs_cons (dg_name (i := 6) (by decide) sc_law_ready.nd rfl (Or.inr rfl)) (dgs_cons (dg_name (i := 7) (by decide) sc_law_ready.nd rfl (Or.inl rfl)) (dgs_cons (dg_name (i := 8) (by decide) sc_law_ready.nd rfl (Or.inl rfl)) dgs_nil)))) (dss_cons (ds_setLc (own := [("_law_k", 10)]) (i := 9) rfl sc_law_ready.nd rfl rfl (sw_true rfl rfl rfl (by decide +kernel)) (di_range rfl B.range (da_cons (de_callB call_len_d rfl B.len PySem.boot_len (da_cons (de_ix (dv 2) de_int) da_nil)) da_nil)) (blkOk_by (N := n_law_ready) (sc := defScope s_law_ready) (by decide +kernel)) (fun _ _ _ _ _ => (dg_name (i := 10) (by decide) sc_law_ready.nd rfl (Or.inl rfl))) (fun _ _ _ _ _ => (dts_one (dt_w (dw_and (dt_cmp (op_eq_d (hu2 hr)) (de_ix (de_ix (de_ix (dv 2) de_int) (dv 10)) de_int) de_str (nomark _)) (dw_and1 (dt_cmp (op_eq_d (hu2 hr)) (de_ix (de_ix (de_ix (dv 2) de_int) (dv 10)) de_int) (dv 6) (nomark _))))))) (fun _ _ _ _ _ => (dv 10)))
    (dss_one (ds_if (dt_w (dw_and (dt_cmp (op_eq_d (hu2 hr)) (de_ix (de_ix (dv 0) de_int) (dv 6)) de_str (nomark _)) (dw_and1 (dt_cmp op_lt_d (de_ix (de_ix (dv 2) de_int) (dv 6)) (de_callB call_len_d rfl B.len PySem.boot_len (da_cons (de_ix (dv 1) (dv 6)) da_nil)) (nomark _))))) (dss_one (ds_expr (de_bm PySem.F.slot_list_append PySem.F.type_list_append mt_append_d (dv 3) (da_cons (de_tup (da_cons de_str (da_cons (dv 6) (da_cons (dv 4) da_nil)))) da_nil)))) (dss_one (ds_if (dt_w (dw_and (dt_cmp (op_eq_d (hu2 hr)) (de_ix (de_ix (dv 0) de_int) (dv 6)) de_str (nomark _)) (dw_and1 (dt_cmp op_gt_d (de_callB call_len_d rfl B.len PySem.boot_len (da_cons (dv 9) da_nil)) de_int (nomark _))))) (dss_one (ds_expr (de_bm PySem.F.slot_list_append PySem.F.type_list_append mt_append_d (dv 3) (da_cons (de_tup (da_cons de_str (da_cons (dv 6) (da_cons (de_ix (dv 9) de_int) (da_cons (dv 4) da_nil))))) da_nil)))) dss_nil))))))) (dss_one (ds_if (dt_w (dw_and (dt_cmp (op_eq_d (hu2 hr)) (de_ix (dv 5) de_int) de_str (nomark _)) (dw_and1 (dt_cmp (op_eq_d (hu2 hr)) (de_ix (de_ix (dv 0) de_int) (de_ix (dv 5) de_int)) de_str (nomark _))))) (dss_one (ds_expr (de_bm PySem.F.slot_list_append PySem.F.type_list_append mt_append_d (dv 3) (da_cons (de_tup (da_cons de_str (da_cons (de_ix (dv 5) de_int) (da_cons (dv 4) da_nil)))) da_nil)))) (dss_one (ds_if (dt_w (dw_and (dt_cmp (op_eq_d (hu2 hr)) (de_ix (dv 5) de_int) de_str (nomark _)) (dw_and1 (dt_cmp (op_eq_d (hu2 hr)) (de_callB call_len_d rfl B.len PySem.boot_len (da_cons (de_lc (own := [("_law_k", 10)]) rfl sc_law_ready.nd (di_list (de_ix (dv 5) de_int)) (blkOk_by (N := n_law_ready) (sc := defScope s_law_ready) (by decide +kernel)) (fun _ _ _ _ _ => (dg_name (i := 10) (by decide) sc_law_ready.nd rfl (Or.inl rfl))) (fun _ _ _ _ _ => (dts_one (dt_cmp (op_ne_d (hu2 hr)) (de_ix (de_ix (dv 2) de_int) (dv 10)) (de_tup (da_cons de_str da_nil)) (nomark _)))) (fun _ _ _ _ _ => (dv 10))) da_nil)) de_int (nomark _))))) (dss_one (ds_expr (de_bm PySem.F.slot_list_append PySem.F.type_list_append mt_append_d (dv 3) (da_cons (de_tup (da_cons de_str (da_cons (dv 4) da_nil))) da_nil)))) dss_nil))))))))))
    (dss_one (ds_ret (de_frz (dv 3)))))), ?_⟩
  rintro _ M Q ⟨_, _, _, rfl, co, inp, T, F, st, a0, a1, a2, os, rfl, rfl, rfl, W, R, h⟩
  have hT : st.thr.length ≤ 1000 := by rw [W.thr]; exact F.T2
  have fl0 : ∀ l : List Nat, (l.flatMap fun t => thrRdx co inp st t).length ≤ l.length * 1000 := by
    intro l
    induction l with
    | nil => simp
    | cons a l ih =>
      have := thrRdx_len co inp F st W a
      rw [List.flatMap_cons, List.length_append, List.length_cons]
      omega
  walk_at "s0"
  walk_at "st"
  intro p hp
  have hR : ∀ o, MAt a0 a1 a2 os st (mupd M p o) := fun o => R.new hp
  walk_at "st"
  refine ⟨_, rfl, ?_⟩
  walk_at "st"
  refine ⟨_, .ref (hR _).t, ?_⟩
  walk_at "st"
  refine ⟨by rw [List.length_map]; omega, by omega, ?_⟩
  rw [List.length_map, Int.toNat_natCast, intsD_map]
  refine loop_by (fun i σ M' => ∃ x4 x5 x6 x7 x8 x9, σ = [some co.d, some (inpD inp), some (mD a0 a1 a2 os), some (.ref p), x4, x5, x6, x7, x8, x9, none] ∧ M' = mupd M p (.lst (((List.range i).flatMap fun t => thrRdx co inp st t).map Rdx.d))) (fun _ _ _ _ _ => trivial) ?_ ?_ ⟨_, _, _, _, _, _, rfl, rfl⟩
  · rintro i d σ M' nx hd ⟨x4, x5, x6, x7, x8, x9, rfl, rfl⟩ hnx
    have hi : i < st.thr.length := by
      have := (List.getElem?_eq_some_iff.mp hd).1
      rw [List.length_map, List.length_range] at this
      exact this
    have e : d = N i := by
      rw [List.getElem?_map, List.getElem?_range hi] at hd
      exact (Option.some.inj hd).symm
    subst e
    have hc := List.getElem?_eq_getElem hi
    generalize st.thr[i] = cd at hc
    have hg : st.thr.getD i .idle = cd := getD_get hc
    have Wc := W.cond cd (List.mem_of_getElem? hc)
    have h1 := fl0 (List.range i)
    rw [List.length_range] at h1
    have nxt : ∀ (M3 : Mh) (x5 x6 x7 x8 x9 : Option D), M3 = mupd M p (.lst ((((List.range i).flatMap fun t => thrRdx co inp st t) ++ thrRdx co inp st i).map Rdx.d)) → nx [some co.d, some (inpD inp), some (mD a0 a1 a2 os), some (.ref p), some (N i), x5, x6, x7, x8, x9, none] M3 := fun M3 x5 x6 x7 x8 x9 e => hnx _ _ ⟨_, _, _, _, _, _, rfl, by rw [e, List.range_succ, List.flatMap_append]; simp⟩
    generalize hacc : ((List.range i).flatMap fun t => thrRdx co inp st t) = acc at h1 nxt ⊢
    have one : ∀ (r : Rdx) (M3 : Mh) (x5 x6 x7 x8 x9 : Option D), thrRdx co inp st i = [r] → M3 = mupd (mupd M p (.lst (acc.map Rdx.d))) p (.lst (acc.map Rdx.d ++ [r.d])) → nx [some co.d, some (inpD inp), some (mD a0 a1 a2 os), some (.ref p), some (N i), x5, x6, x7, x8, x9, none] M3 := fun r M3 x5 x6 x7 x8 x9 e1 e2 => nxt _ _ _ _ _ _ (by rw [e2, e1, mupd_mupd, List.map_append]; rfl)
    have none' : ∀ (M3 : Mh) (x5 x6 x7 x8 x9 : Option D), thrRdx co inp st i = [] → M3 = mupd M p (.lst (acc.map Rdx.d)) → nx [some co.d, some (inpD inp), some (mD a0 a1 a2 os), some (.ref p), some (N i), x5, x6, x7, x8, x9, none] M3 := fun M3 x5 x6 x7 x8 x9 e1 e2 => nxt _ _ _ _ _ _ (by rw [e2, e1, List.append_nil])
    have hz : (acc.map Rdx.d).length < sizeLine := by rw [sizeLine_eq, List.length_map]; omega
    walk_at "st"
    refine ⟨_, rfl, ?_⟩
    walk_at "st"
    refine ⟨_, _, (hR _).t, map_get hc, ?_⟩
    walk_at "st"
    cases cd with
    | on k =>
      walk_at "st"
      refine ⟨⟨_, .ref mupd_same⟩, ?_⟩
      walk_at "st"
      refine ⟨_, _, rfl, mupd_same, hz, ?_⟩
      exact one (.step i) _ _ _ _ _ _ (by unfold thrRdx; rw [hg]) rfl
    | giving c' w' k =>
      walk_at "st"
      have hcl : c' < co.kinds.length := Wc.1
      have hk := List.getElem?_eq_getElem hcl
      generalize co.kinds[c'] = kd at hk
      refine ⟨_, map_get hk, ?_⟩
      cases kd with
      | out =>
        walk_at "st"
        refine ⟨⟨_, .ref mupd_same⟩, ?_⟩
        walk_at "st"
        refine ⟨_, _, rfl, mupd_same, hz, ?_⟩
        exact one (.output c' i) _ _ _ _ _ _ (by unfold thrRdx; rw [hg]; simp only [hk, if_true]) rfl
      | inp =>
        walk_at "st"
        exact none' _ _ _ _ _ _ (by unfold thrRdx; rw [hg]; simp only [hk]; rfl) rfl
      | inner =>
        walk_at "st"
        exact none' _ _ _ _ _ _ (by unfold thrRdx; rw [hg]; simp only [hk]; rfl) rfl
    | joining ts k =>
      walk_at "st"
      intro p2 hp2
      have np : p2 ≠ p := fun z => by rw [z, mupd_same] at hp2; cases hp2
      refine lc_map ts N (fun o => !isDone (st.thr.getD o .idle)) N (by rw [sizeLine_eq]; have := Wc.2.1; omega) (by exact fun _ => trivial) (fun o ho acc2 Ky Kn hh => ?_) ?_
      · have hol : o < st.thr.length := by rw [W.thr]; exact Wc.1 o ho
        have R2 := (hR (.lst (acc.map Rdx.d))).new (o := .lst acc2) hp2
        walk_at "st"
        refine ⟨_, rfl, ?_⟩
        walk_at "st"
        refine ⟨_, _, R2.t, map_get (get_of_lt .idle hol), ?_⟩
        walk_at "st"
        refine rNe_done ?_
        refine t2 (fun e => ?_) (fun e => ?_)
        · rw [if_pos e] at hh
          exact hh
        · rw [if_neg (by rw [e]; exact Bool.false_ne_true)] at hh
          exact hh
      simp only [del_upd hp2]
      walk_at "st"
      refine ⟨_, .lst, ?_⟩
      walk_at "st"
      have eall : ((ts.filter fun o => !isDone (st.thr.getD o .idle)).map N).length = 0 ↔ (ts.all fun o => isDone (st.thr.getD o .idle)) = true := by
        rw [List.length_map, List.length_eq_zero_iff, List.filter_eq_nil_iff, List.all_eq_true]
        simp
      refine iteP (fun c => ?_) (fun c => ?_)
      · walk_at "st"
        refine ⟨⟨_, .ref mupd_same⟩, ?_⟩
        walk_at "st"
        refine ⟨_, _, rfl, mupd_same, hz, ?_⟩
        exact one (.fin i) _ _ _ _ _ _ (by unfold thrRdx; rw [hg]; simp only []; rw [if_pos (eall.mp (by omega))]) rfl
      · exact none' _ _ _ _ _ _ (by unfold thrRdx; rw [hg]; simp only []; rw [if_neg (fun z => c (by rw [eall.mpr z]; rfl))]) rfl
    | opn rows k =>
      have hz2 : rows.length ≤ 1000 := Wc.2.2.1
      have fl1 : ∀ rs : List (Nat × Nat × List Stm), (rs.flatMap fun r => rowRdx co inp st i r.1).length ≤ rs.length := by
        intro rs
        induction rs with
        | nil => simp
        | cons a rs ih =>
          have := rowRdx_len co inp st i a.1
          rw [List.flatMap_cons, List.length_append, List.length_cons]
          omega
      have fl : ∀ j, ((rows.take j).flatMap fun r => rowRdx co inp st i r.1).length ≤ j := fun j => Nat.le_trans (fl1 _) (by rw [List.length_take]; omega)
      have eR : thrRdx co inp st i = rows.flatMap fun r => rowRdx co inp st i r.1 := by unfold thrRdx; rw [hg]
      walk_at "st"
      refine loop_by (fun j σ M' => ∃ x6 x7 x8 x9, σ = [some co.d, some (inpD inp), some (mD a0 a1 a2 os), some (.ref p), some (N i), some (Cond.opn rows k).d, x6, x7, x8, x9, none] ∧ M' = mupd M p (.lst ((acc ++ ((rows.take j).flatMap fun r => rowRdx co inp st i r.1)).map Rdx.d))) (fun _ _ _ _ _ => trivial) ?_ ?_ ⟨_, _, _, _, rfl, by simp⟩
      · rintro j d σ M' nx2 hd ⟨x6, x7, x8, x9, rfl, rfl⟩ hnx2
        have hj : j < rows.length := by
          have := (List.getElem?_eq_some_iff.mp hd).1
          rw [List.length_map] at this
          exact this
        have hr := List.getElem?_eq_getElem hj
        generalize rows[j] = r at hr
        have e : d = orowD r := by rw [List.getElem?_map, hr] at hd; exact (Option.some.inj hd).symm
        subst e
        have hch : r.1 < co.kinds.length := (Wc.1 r (List.mem_of_getElem? hr)).1
        have hk := List.getElem?_eq_getElem hch
        generalize co.kinds[r.1] = kd at hk
        have h2 := fl j
        have nxt2 : ∀ (M3 : Mh) (x6 x7 x8 x9 : Option D), M3 = mupd M p (.lst ((acc ++ ((rows.take j).flatMap fun r => rowRdx co inp st i r.1) ++ rowRdx co inp st i r.1).map Rdx.d)) → nx2 [some co.d, some (inpD inp), some (mD a0 a1 a2 os), some (.ref p), some (N i), some (Cond.opn rows k).d, x6, x7, x8, x9, none] M3 := fun M3 x6 x7 x8 x9 e => hnx2 _ _ ⟨_, _, _, _, rfl, by rw [e, List.take_succ, hr, List.flatMap_append]; simp⟩
        generalize hacc2 : acc ++ ((rows.take j).flatMap fun r => rowRdx co inp st i r.1) = acc2 at nxt2 ⊢
        have hz3 : (acc2.map Rdx.d).length < sizeLine := by rw [sizeLine_eq, List.length_map, ← hacc2, List.length_append]; omega
        have one2 : ∀ (x : Rdx) (M3 : Mh) (x6 x7 x8 x9 : Option D), rowRdx co inp st i r.1 = [x] → M3 = mupd (mupd M p (.lst (acc2.map Rdx.d))) p (.lst (acc2.map Rdx.d ++ [x.d])) → nx2 [some co.d, some (inpD inp), some (mD a0 a1 a2 os), some (.ref p), some (N i), some (Cond.opn rows k).d, x6, x7, x8, x9, none] M3 := fun r M3 x6 x7 x8 x9 e1 e2 => nxt2 _ _ _ _ _ (by rw [e2, e1, mupd_mupd, List.map_append]; rfl)
        have none2 : ∀ (M3 : Mh) (x6 x7 x8 x9 : Option D), rowRdx co inp st i r.1 = [] → M3 = mupd M p (.lst (acc2.map Rdx.d)) → nx2 [some co.d, some (inpD inp), some (mD a0 a1 a2 os), some (.ref p), some (N i), some (Cond.opn rows k).d, x6, x7, x8, x9, none] M3 := fun M3 x6 x7 x8 x9 e1 e2 => nxt2 _ _ _ _ _ (by rw [e2, e1, List.append_nil])
        walk_at "st"
        refine ⟨_, rfl, ?_⟩
        walk_at "st"
        refine ⟨_, .ref (hR _).t, ?_⟩
        walk_at "st"
        refine ⟨by rw [List.length_map]; omega, by omega, ?_⟩
        intro p2 hp2
        rw [List.length_map, Int.toNat_natCast, intsD_map]
        have np : p2 ≠ p := fun z => by rw [z, mupd_same] at hp2; cases hp2
        refine lc_map (List.range st.thr.length) N (fun o => isGiv r.1 (st.thr.getD o .idle)) N (by rw [sizeLine_eq, List.length_range]; omega) (by exact fun _ => trivial) (fun o ho acc3 Ky Kn hh => ?_) ?_
        · have hol : o < st.thr.length := List.mem_range.mp ho
          have R2 := (hR (.lst (acc2.map Rdx.d))).new (o := .lst acc3) hp2
          have hco := get_of_lt .idle hol
          generalize st.thr.getD o .idle = co' at hco hh
          walk_at "st"
          refine ⟨_, rfl, ?_⟩
          walk_at "st"
          refine ⟨_, _, R2.t, map_get hco, ?_⟩
          cases co' with
          | giving c2 w2 k2 =>
            walk_at "st"
            refine ⟨_, rfl, ?_⟩
            walk_at "st"
            refine ⟨_, _, R2.t, map_get hco, ?_⟩
            walk_at "st"
            refine iteP (fun c => ?_) (fun c => ?_)
            · rw [if_pos (by simp only [isGiv, decide_eq_true_eq]; exact Int.ofNat_inj.mp c)] at hh
              exact hh
            · rw [if_neg (by simp only [isGiv, decide_eq_true_eq]; exact fun z => c (by rw [z]))] at hh
              exact hh
          | _ =>
            walk_at "st"
            exact hh
        simp only [del_upd hp2]
        have egv : ((List.range st.thr.length).filter fun o => isGiv r.1 (st.thr.getD o .idle)) = givers st.thr r.1 := rfl
        rw [egv]
        have egh := givers_head st.thr r.1
        generalize givers st.thr r.1 = gs at egh
        walk_at "st"
        refine ⟨_, map_get hk, ?_⟩
        cases kd with
        | inner =>
          have eR2 : rowRdx co inp st i r.1 = (match giver st.thr r.1 with | none => [] | some g => [.meet r.1 g i]) := by unfold rowRdx; rw [hk]; first | done | (cases giver st.thr r.1 <;> rfl)
          rw [← egh] at eR2
          walk_at "st"
          refine ⟨_, map_get hk, ?_⟩
          walk_at "st"
          refine ⟨_, .lst, ?_⟩
          cases gs with
          | nil =>
            walk_at "st"
            exact none2 _ _ _ _ _ eR2 rfl
          | cons g gs =>
            refine iteP (fun _ => ?_) (fun c => absurd (by rw [List.length_map, List.length_cons]; omega) c)
            walk_at "st"
            refine ⟨⟨_, .ref mupd_same⟩, ?_⟩
            walk_at "st"
            refine ⟨_, at0 _ _, ?_⟩
            walk_at "st"
            refine ⟨_, _, rfl, mupd_same, hz3, ?_⟩
            exact one2 (.meet r.1 g i) _ _ _ _ _ eR2 rfl
        | inp =>
          have hin := F.kind_inp hk
          have htk := get_of_lt 0 (show r.1 < st.taken.length by rw [W.taken]; exact hin)
          have hip := get_of_lt [] (show r.1 < inp.length by rw [F.inl]; exact hin)
          have eR2 : rowRdx co inp st i r.1 = if st.taken.getD r.1 0 < (inp.getD r.1 []).length then [.input r.1 i] else [] := by unfold rowRdx; rw [hk]
          walk_at "st"
          refine ⟨_, rfl, ?_⟩
          walk_at "st"
          refine ⟨_, _, (hR _).k, mapN_get htk, ?_⟩
          walk_at "st"
          refine ⟨_, map_get hip, ?_⟩
          walk_at "st"
          refine ⟨_, .lst, ?_⟩
          walk_at "st"
          rw [List.length_map]
          refine iteP (fun c => ?_) (fun c => ?_)
          · rw [if_pos (by omega)] at eR2
            walk_at "st"
            refine ⟨⟨_, .ref mupd_same⟩, ?_⟩
            walk_at "st"
            refine ⟨_, _, rfl, mupd_same, hz3, ?_⟩
            exact one2 _ _ _ _ _ _ eR2 rfl
          · rw [if_neg (by omega)] at eR2
            walk_at "st"
            refine ⟨_, map_get hk, ?_⟩
            walk_at "st"
            exact none2 _ _ _ _ _ eR2 rfl
        | out =>
          have eR2 : rowRdx co inp st i r.1 = [] := by unfold rowRdx; rw [hk]
          walk_at "st"
          refine ⟨_, map_get hk, ?_⟩
          walk_at "st"
          exact none2 _ _ _ _ _ eR2 rfl
      · rintro σ M' ⟨x6, x7, x8, x9, rfl, rfl⟩
        rw [List.length_map, List.take_length, ← eR]
        exact nxt _ _ _ _ _ _ rfl
    | _ =>
      walk_at "st"
      exact none' _ _ _ _ _ _ (by unfold thrRdx; rw [hg]) rfl
  · rintro σ M' ⟨x4, x5, x6, x7, x8, x9, rfl, rfl⟩
    walk_at "st"
    rw [List.length_map, List.length_range]
    refine ⟨_, mupd_same, ?_⟩
    rw [del_upd hp]
    exact rt_same h
end
end Dl
namespace Dl
open PySem PySem.Spec PyProof.Rows L2 Mi
local macro_rules | `(tactic| walk_at "dl") => `(tactic| simp only [dRet, dOp, dSl, dV, dNoP, dPart, dLst, dLstM, dCons, dNil, dC, startD, rAdd, rAddM, rIx, rEq, rNe, rII, rII0, rIB0, rMul, rIsN, rNotN, isNon, dNeg, dTest, dAnd, dOr, dNot, dAndV, dOrV, dNotV, dIf, dTup, dFrz, dCB, rLen, rInt1, rAbs1, rMin2, rAll1, dBM, rApp, rExt, rPop0,
  dGet, dPut, dNext, dSeq, dDrop, dIfS, dName, dgNil, dgCons, dgTup, dAsg, dSub, rSet, dPar, dIL, dIT, dIR, dIE, dIZ, dFor, dYes, dCall, dLc, dLcM, dLcF, dPair, dGetT, dInT, dPutT, dNewT, wipeD,
  natsD, isL_lst, isL_ref, seqIn_tup, seqIn_lst, rIn, flatD, eqD, List.all_cons, List.all_nil, List.any_cons, List.any_nil, sizeLine_eq, Nat.reduceLeDiff, Nat.reduceLT, Bool.or_false, Bool.and_true, Bool.true_and, Bool.false_and, Bool.false_or, Bool.or_true, Bool.true_or, Bool.and_false, tupAt, optE, endsOf,
  List.map_cons, List.map_nil, List.length_cons, List.length_nil, List.cons_append, List.nil_append, List.append_nil, List.getElem?_cons_zero, List.getElem?_cons_succ, List.getElem?_nil, List.set_cons_zero, List.set_cons_succ, List.replicate_succ, List.replicate_zero, List.length_append, List.replicate,
  of_sE, String.reduceEq, decide_true, decide_false, Bool.false_eq_true, Bool.not_true, Bool.not_false, reduceIte, exists_eq_left, exists_eq_left', true_and, and_true, if_true, if_false, ite_true, ite_false, Nat.reduceAdd, Nat.reduceSub, Nat.reduceBEq, BEq.rfl, beq_self_eq_true, D.ref.injEq, D.int.injEq, D.str.injEq, D.lst.injEq, D.tup.injEq, List.cons.injEq, exists_and_left, exists_const, and_self])
local macro_rules | `(tactic| walk_at "s0") => `(tactic| (dsimp only [startD, List.length_cons, List.length_nil, List.map_cons, List.map_nil, List.cons_append, List.nil_append, Nat.reduceAdd, Nat.reduceSub, List.replicate_succ, List.replicate_zero]))
local macro_rules | `(tactic| walk_at "st") => `(tactic| ((conv => whnf); (try dsimp only [List.set_cons_zero, List.set_cons_succ]); repeat ((refine ⟨Nat.le_of_ble_eq_true rfl, ?_⟩); (conv => whnf); (try dsimp only [List.set_cons_zero, List.set_cons_succ]))))

section
variable {P : Program} {K : PySem.W.Frag} {mg : Str → Option Value} {w : World} {base : Heap}
def spKids : SpD := sp1 fun a M Q => ∃ (s : Stm) (n T C : Nat), a = s.d ∧ s.wf n T C ∧ Q (.lst (stmsD (kids s))) M
abbrev n_law_parts : List Str := ["_law_s", "_law_row"]
theorem sc_law_parts : FnScope n_law_parts ["_law_s"] (defScope s_law_parts) := ⟨rfl, rfl, rfl, by decide +kernel, rfl, by decide +kernel, by decide +kernel⟩
/-- _law_parts; slots 0 _law_s, 1 _law_row; cells []; calls [] -/
theorem ok_law_parts (B : Bl K mg) (Tx : Txt K mg "_law_parts" s_law_parts) : Have P w K mg base "_law_parts" ["_law_s"] 1 spKids := by
  refine have_of Tx sc_law_parts (fun _ _ _ _ _ _ us hl => match us, hl with | [_], _ => rfl) len1 fun cdv f A outer s H E hr => ⟨_, (dss_cons (ds_if (dt_cmp (op_eq_d (hu2 hr)) (de_ix (dv 0) de_int) de_str (nomark _)) (dss_one (ds_ret (de_ix (dv 0) de_int))) dss_nil)
    (dss_cons (ds_if (dt_cmp (op_eq_d (hu2 hr)) (de_ix (dv 0) de_int) de_str (nomark _)) (dss_one (ds_ret (de_lc (own := [("_law_row", 1)]) rfl sc_law_parts.nd (di_list (de_ix (dv 0) de_int)) (blkOk_by (N := n_law_parts) (sc := defScope s_law_parts) (by decide +kernel)) (fun _ _ _ _ _ => (dg_name (i := 1) (by decide) sc_law_parts.nd rfl (Or.inl rfl))) (fun _ _ _ _ _ => dts_nil) (fun _ _ _ _ _ => (de_ix (dv 1) de_int))))) dss_nil)
    (dss_cons (ds_if (dt_cmp (op_eq_d (hu2 hr)) (de_ix (dv 0) de_int) de_str (nomark _)) (dss_one (ds_ret (de_lc (own := [("_law_row", 1)]) rfl sc_law_parts.nd (di_list (de_ix (dv 0) de_int)) (blkOk_by (N := n_law_parts) (sc := defScope s_law_parts) (by decide +kernel)) (fun _ _ _ _ _ => (dg_name (i := 1) (by decide) sc_law_parts.nd rfl (Or.inl rfl))) (fun _ _ _ _ _ => dts_nil) (fun _ _ _ _ _ => (de_ix (dv 1) de_int))))) dss_nil)
    (dss_cons (ds_if (dt_cmp (op_eq_d (hu2 hr)) (de_ix (dv 0) de_int) de_str (nomark _)) (dss_one (ds_ret (de_lst (da_cons (de_ix (dv 0) de_int) (da_cons (de_ix (dv 0) de_int) da_nil))))) dss_nil)
    (dss_one (ds_ret (de_ifExp (dt_cmp (op_eq_d (hu2 hr)) (de_ix (dv 0) de_int) de_str (nomark _)) (de_lst (da_cons (de_ix (dv 0) de_int) da_nil)) (de_lst da_nil)))))))), ?_⟩
  rintro _ M Q ⟨_, rfl, s, n, T, C, rfl, W, h⟩
  walk_at "s0"
  cases s with
  | seq l =>
    walk_at "st"
    exact rt_same h
  | par l =>
    have ed : (Stm.par l).d = .tup [S "par", .lst (l.map brD)] := by rw [← brsD_map]; rfl
    rw [ed]
    have hl : l.length ≤ 1000 := W.1
    walk_at "st"
    intro p hp
    refine lc_map l brD (fun _ => true) (fun p => p.2.d) (by rw [sizeLine_eq]; omega) (by exact fun _ => trivial) (fun r hr' acc Ky Kn hh => ?_) ?_
    · walk_at "st"
      exact hh
    rw [filter_all]
    simp only [del_upd hp]
    refine rt_same ?_
    have e : (l.map fun p => p.2.d) = stmsD (kids (.par l)) := by rw [stmsD_eq, kids, List.map_map]; rfl
    rw [e]
    exact h
  | alt l =>
    have ed : (Stm.alt l).d = .tup [S "alt", .lst (l.map rowD)] := by rw [← rowsD_map]; rfl
    rw [ed]
    have hl : l.length ≤ 1000 := W.1
    walk_at "st"
    intro p hp
    refine lc_map l rowD (fun _ => true) (fun p => p.2.2.2.d) (by rw [sizeLine_eq]; omega) (by exact fun _ => trivial) (fun r hr' acc Ky Kn hh => ?_) ?_
    · walk_at "st"
      exact hh
    rw [filter_all]
    simp only [del_upd hp]
    refine rt_same ?_
    have e : (l.map fun p => p.2.2.2.d) = stmsD (kids (.alt l)) := by rw [stmsD_eq, kids, List.map_map]; rfl
    rw [e]
    exact h
  | _ =>
    walk_at "st"
    exact rt_same h
abbrev n_parts : List Str := ["s", "_", "statement"]
theorem sc_parts : FnScope n_parts ["s"] (defScope s_parts) := ⟨rfl, rfl, rfl, by decide +kernel, rfl, by decide +kernel, by decide +kernel⟩
/-- parts; slots 0 s, 1 _, 2 statement; cells []; calls [] -/
def spParts : SpD := sp1 fun a M Q => ∃ (s : Stm) (n T C : Nat), a = s.d ∧ s.wf n T C ∧ (∀ l, s ≠ .alt l) ∧ Q (.lst (stmsD (kids s))) M
theorem ok_parts (B : Bl K mg) (Tx : Txt K mg "parts" s_parts) : Have P w K mg base "parts" ["s"] 1 spParts := by
  refine have_of Tx sc_parts (fun _ _ _ _ _ _ us hl => match us, hl with | [_], _ => rfl) len1 fun cdv f A outer s H E hr => ⟨_, (dss_cons (ds_if (dt_cmp (op_eq_d (hu2 hr)) (de_ix (dv 0) de_int) de_str (nomark _)) (dss_one (ds_ret (de_ix (dv 0) de_int))) dss_nil)
    (dss_cons (ds_if (dt_cmp (op_eq_d (hu2 hr)) (de_ix (dv 0) de_int) de_str (nomark _)) (dss_one (ds_ret (de_lc (own := [("_", 1), ("statement", 2)]) rfl sc_parts.nd (di_list (de_ix (dv 0) de_int)) (blkOk_by (N := n_parts) (sc := defScope s_parts) (by decide +kernel)) (fun _ _ _ _ _ => (dg_tup (n := 2) rfl (dgs_cons (dg_name (i := 1) (by decide) sc_parts.nd rfl (Or.inl rfl)) (dgs_cons (dg_name (i := 2) (by decide) sc_parts.nd rfl (Or.inl rfl)) dgs_nil)))) (fun _ _ _ _ _ => dts_nil) (fun _ _ _ _ _ => (dv 2))))) dss_nil)
    (dss_cons (ds_if (dt_cmp (op_eq_d (hu2 hr)) (de_ix (dv 0) de_int) de_str (nomark _)) (dss_one (ds_ret (de_lst (da_cons (de_ix (dv 0) de_int) (da_cons (de_ix (dv 0) de_int) da_nil))))) dss_nil)
    (dss_cons (ds_if (dt_cmp (op_eq_d (hu2 hr)) (de_ix (dv 0) de_int) de_str (nomark _)) (dss_one (ds_ret (de_lst (da_cons (de_ix (dv 0) de_int) da_nil)))) dss_nil)
    (dss_one (ds_ret (de_lst da_nil))))))), ?_⟩
  rintro _ M Q ⟨_, rfl, s, n, T, C, rfl, W, na, h⟩
  walk_at "s0"
  cases s with
  | seq l =>
    walk_at "st"
    exact rt_same h
  | par l =>
    have ed : (Stm.par l).d = .tup [S "par", .lst (l.map brD)] := by rw [← brsD_map]; rfl
    rw [ed]
    have hl : l.length ≤ 1000 := W.1
    walk_at "st"
    intro p hp
    refine lc_map l brD (fun _ => true) (fun p => p.2.d) (by rw [sizeLine_eq]; omega) (by exact fun _ => trivial) (fun r hr' acc Ky Kn hh => ?_) ?_
    · walk_at "st"
      exact hh
    rw [filter_all]
    simp only [del_upd hp]
    refine rt_same ?_
    have e : (l.map fun p => p.2.d) = stmsD (kids (.par l)) := by rw [stmsD_eq, kids, List.map_map]; rfl
    rw [e]
    exact h
  | alt l => exact absurd rfl (na l)
  | _ =>
    walk_at "st"
    exact rt_same h
abbrev n_inner_statements : List Str := ["s", "row"]
theorem sc_inner_statements : FnScope n_inner_statements ["s"] (defScope s_inner_statements) := ⟨rfl, rfl, rfl, by decide +kernel, rfl, by decide +kernel, by decide +kernel⟩
/-- inner_statements; slots 0 s, 1 row; cells []; calls ['parts'] -/
theorem ok_inner_statements (B : Bl K mg) (Tx : Txt K mg "inner_statements" s_inner_statements) (c_parts : Have P w K mg base "parts" ["s"] 1 spParts) : Have P w K mg base "inner_statements" ["s"] 2 spKids := by
  refine have_of Tx sc_inner_statements (fun _ _ _ _ _ _ us hl => match us, hl with | [_], _ => rfl) len1 fun cdv f A outer s H E hr => ⟨_, (dss_cons (ds_if (dt_cmp (op_eq_d (hu2 hr)) (de_ix (dv 0) de_int) de_str (nomark _)) (dss_one (ds_ret (de_lc (own := [("row", 1)]) rfl sc_inner_statements.nd (di_list (de_ix (dv 0) de_int)) (blkOk_by (N := n_inner_statements) (sc := defScope s_inner_statements) (by decide +kernel)) (fun _ _ _ _ _ => (dg_name (i := 1) (by decide) sc_inner_statements.nd rfl (Or.inl rfl))) (fun _ _ _ _ _ => dts_nil) (fun _ _ _ _ _ => (de_ix (dv 1) de_int))))) dss_nil)
    (dss_one (ds_ret (de_callH c_parts (hr.mono (by omega)) rfl (da_cons (dv 0) da_nil))))), ?_⟩
  rintro _ M Q ⟨_, rfl, s, n, T, C, rfl, W, h⟩
  walk_at "s0"
  cases s with
  | alt l =>
    have ed : (Stm.alt l).d = .tup [S "alt", .lst (l.map rowD)] := by rw [← rowsD_map]; rfl
    rw [ed]
    have hl : l.length ≤ 1000 := W.1
    walk_at "st"
    intro p hp
    refine lc_map l rowD (fun _ => true) (fun p => p.2.2.2.d) (by rw [sizeLine_eq]; omega) (by exact fun _ => trivial) (fun r hr' acc Ky Kn hh => ?_) ?_
    · walk_at "st"
      exact hh
    rw [filter_all]
    simp only [del_upd hp]
    refine rt_same ?_
    have e : (l.map fun p => p.2.2.2.d) = stmsD (kids (.alt l)) := by rw [stmsD_eq, kids, List.map_map]; rfl
    rw [e]
    exact h
  | _ =>
    walk_at "st"
    exact ⟨_, rfl, _, n, T, C, rfl, W, fun l z => Stm.noConfusion z, rt_same h⟩
def spMany (d : Nat) : SpD := sp1 fun a M Q => ∃ (s : Stm) (n T C : Nat), a = s.d ∧ s.wf n T C ∧ s.dep < d ∧ Q (N s.cnt) M
abbrev n_law_many : List Str := ["_law_s", "_law_many_here", "_law_part"]
theorem sc_law_many : FnScope n_law_many ["_law_s"] (defScope s_law_many) := ⟨rfl, rfl, rfl, by decide +kernel, rfl, by decide +kernel, by decide +kernel⟩
/-- _law_many; slots 0 _law_s, 1 _law_many_here, 2 _law_part; cells []; calls ['_law_parts', '_law_many'] -/
theorem ok_law_many (B : Bl K mg) (Tx : Txt K mg "_law_many" s_law_many) {k d : Nat} (hk : 1 ≤ k) (c_law_parts : Have P w K mg base "_law_parts" ["_law_s"] 1 spKids) (c_law_many : Have P w K mg base "_law_many" ["_law_s"] k (spMany d)) : Have P w K mg base "_law_many" ["_law_s"] (k + 1) (spMany (d + 1)) := by
  refine have_of Tx sc_law_many (fun _ _ _ _ _ _ us hl => match us, hl with | [_], _ => rfl) len1 fun cdv f A outer s H E hr => ⟨_, (dss_cons (ds_set (i := 1) sc_law_many.nd rfl (Or.inl rfl) (de_ifExp (dt_cmp (op_eq_d (hu2 hr)) (de_ix (dv 0) de_int) de_str (nomark _)) (de_callB call_len_d rfl B.len PySem.boot_len (da_cons (de_ix (dv 0) de_int) da_nil)) de_int))
    (dss_cons (ds_for (vs := [2]) PassesOwn.never rfl (di_list (de_callH c_law_parts (hr.mono (by omega)) rfl (da_cons (dv 0) da_nil))) (dg_name (i := 2) (by decide) sc_law_many.nd rfl (Or.inl rfl)) (dss_one (ds_set (i := 1) sc_law_many.nd rfl (Or.inl rfl) (de_op op_add_d (dv 1) (de_callH c_law_many (hr.mono (by omega)) rfl (da_cons (dv 2) da_nil))))))
    (dss_one (ds_ret (dv 1))))), ?_⟩
  rintro _ M Q ⟨_, rfl, s, n, T, C, rfl, W, hd, h⟩
  have loop : ∀ (x1 x2 : D) (E : EndsD) (x3 : Option D), E = endsOf Q → x1 = s.d → x2 = N (ownCnt s) → loopD (dName 2) (dAsg (dOp rAdd (dV 1) (dCall (spMany d) (dCons (dV 2) dNil))) (dName 1)) ⟨fun σ M => dRet (dV 1) (endsOf Q) σ M, rtOf Q, fun _ _ => False, fun _ _ => False⟩ (fun _ => True) (stmsD (kids s)) [some x1, some x2, x3] M := by
    intro x1 x2 E x3 _ e1 e2
    subst e1 e2
    rw [stmsD_eq]
    refine loop_by (fun i σ M' => ∃ x3, σ = [some s.d, some (N (ownCnt s + cnts ((kids s).take i))), x3] ∧ M' = M) (fun _ _ _ _ _ => trivial) ?_ ?_ ⟨x3, by simp [cnts], rfl⟩
    · rintro i d' σ M' nx hdd ⟨x3, rfl, rfl⟩ hnx
      have hi : i < (kids s).length := by
        have := (List.getElem?_eq_some_iff.mp hdd).1
        rw [List.length_map] at this
        exact this
      have hr := List.getElem?_eq_getElem hi
      generalize (kids s)[i] = r at hr
      have e : d' = r.d := by rw [List.getElem?_map, hr] at hdd; exact (Option.some.inj hdd).symm
      subst e
      have hm := List.mem_of_getElem? hr
      have hdep := kids_dep hm
      walk_at "st"
      refine ⟨_, rfl, r, n, T, C, rfl, kids_wf W hm, by omega, ?_⟩
      refine hnx _ _ ⟨some r.d, ?_, rfl⟩
      rw [cnts_take hr, ← Nat.add_assoc]
      rfl
    · rintro σ M' ⟨x3, rfl, rfl⟩
      rw [List.length_map, List.take_length, ← cnt_kids]
      walk_at "st"
      exact rt_same h
  walk_at "s0"
  cases s with
  | par l =>
    walk_at "st"
    refine ⟨_, .lst, ?_⟩
    walk_at "st"
    refine ⟨_, rfl, _, n, T, C, rfl, W, ?_⟩
    have el : (brsD l).length = l.length := by rw [brsD_map, List.length_map]
    rw [el]
    exact loop _ _ _ none rfl rfl rfl
  | _ =>
    walk_at "st"
    refine ⟨_, rfl, _, n, T, C, rfl, W, ?_⟩
    exact loop _ _ _ none rfl rfl rfl
theorem many_ok (B : Bl K mg) (Tx : Txt K mg "_law_many" s_law_many) (c_law_parts : Have P w K mg base "_law_parts" ["_law_s"] 1 spKids) : ∀ d, Have P w K mg base "_law_many" ["_law_s"] (d + 1) (spMany d)
  | 0 => (have_none Tx (fun _ _ _ _ _ _ us hl => match us, hl with | [_], _ => rfl) fun ds M Q ⟨_, _, _, _, _, _, _, _, h, _⟩ => absurd h (Nat.not_lt_zero _)).mono (Nat.zero_le _)
  | d + 1 => ok_law_many B Tx (by omega) c_law_parts (many_ok B Tx c_law_parts d)
def isRow (r : D) : Prop := ∃ n p x, r = .tup [.int n, p, x]
def spBr (d : Nat) : SpD := sp2 fun a b M Q => ∃ (s : Stm) (n T C : Nat), a = s.d ∧ s.wf n T C ∧ s.dep < d ∧ s.cnt ≤ 1000 ∧ ∀ ds : List D, ds.length = s.cnt → (∀ r ∈ ds, isRow r) → Q (.lst ds) M
abbrev n_branches : List Str := ["s", "parent", "found", "thread", "statement", "part"]
theorem sc_branches : FnScope n_branches ["s", "parent"] (defScope s_branches) := ⟨rfl, rfl, rfl, by decide +kernel, rfl, by decide +kernel, by decide +kernel⟩
/-- branches; slots 0 s, 1 parent, 2 found, 3 thread, 4 statement, 5 part; cells []; calls ['inner_statements', 'branches'] -/
theorem ok_branches (B : Bl K mg) (Tx : Txt K mg "branches" s_branches) {k d : Nat} (hk : 2 ≤ k) (c_inner_statements : Have P w K mg base "inner_statements" ["s"] 2 spKids) (c_branches : Have P w K mg base "branches" ["s", "parent"] k (spBr d)) : Have P w K mg base "branches" ["s", "parent"] (k + 1) (spBr (d + 1)) := by
  refine have_of Tx sc_branches (fun _ _ _ _ _ _ us hl => match us, hl with | [_, _], _ => rfl) len2 fun cdv f A outer s H E hr => ⟨_, (dss_cons (ds_set (i := 2) sc_branches.nd rfl (Or.inl rfl) (de_lstM da_nil))
    (dss_cons (ds_if (dt_cmp (op_eq_d (hu2 hr)) (de_ix (dv 0) de_int) de_str (nomark _)) (dss_cons (ds_for (vs := [3, 4]) PassesOwn.never rfl (di_list (de_ix (dv 0) de_int)) (dg_tup (n := 2) rfl (dgs_cons (dg_name (i := 3) (by decide) sc_branches.nd rfl (Or.inl rfl)) (dgs_cons (dg_name (i := 4) (by decide) sc_branches.nd rfl (Or.inl rfl)) dgs_nil))) (dss_cons (ds_expr (de_bm PySem.F.slot_list_append PySem.F.type_list_append mt_append_d (dv 2) (da_cons (de_tup (da_cons (dv 3) (da_cons (dv 1) (da_cons (dv 4) da_nil)))) da_nil)))
    (dss_one (ds_expr (de_bm PySem.F.slot_list_extend PySem.F.type_list_extend mt_extend_d (dv 2) (da_cons (de_callH c_branches (hr.mono (by omega)) rfl (da_cons (dv 4) (da_cons (dv 3) da_nil))) da_nil))))))
    (dss_one (ds_ret (de_frz (dv 2))))) dss_nil)
    (dss_cons (ds_for (vs := [5]) PassesOwn.never rfl (di_list (de_callH c_inner_statements (hr.mono (by omega)) rfl (da_cons (dv 0) da_nil))) (dg_name (i := 5) (by decide) sc_branches.nd rfl (Or.inl rfl)) (dss_one (ds_expr (de_bm PySem.F.slot_list_extend PySem.F.type_list_extend mt_extend_d (dv 2) (da_cons (de_callH c_branches (hr.mono (by omega)) rfl (da_cons (dv 5) (da_cons (dv 1) da_nil))) da_nil)))))
    (dss_one (ds_ret (de_frz (dv 2))))))), ?_⟩
  rintro _ M Q ⟨_, par, rfl, s, n, T, C, rfl, W, hd, hcn, h⟩
  walk_at "s0"
  by_cases hpar : ∃ l, s = .par l
  · obtain ⟨l, rfl⟩ := hpar
    have ed : (Stm.par l).d = .tup [S "par", .lst (l.map brD)] := by rw [← brsD_map]; rfl
    rw [ed]
    have hl : l.length ≤ 1000 := W.1
    have hw := bwf_iff.mp W.2
    walk_at "st"
    intro p hp
    walk_at "st"
    refine loop_by (fun i σ M' => ∃ x3 x4 ds, σ = [some (.tup [S "par", .lst (l.map brD)]), some par, some (.ref p), x3, x4, none] ∧ M' = mupd M p (.lst ds) ∧ ds.length = i + cnts ((l.take i).map (·.2)) ∧ ∀ r ∈ ds, isRow r) (fun _ _ _ _ _ => trivial) ?_ ?_ ⟨none, none, [], rfl, rfl, rfl, fun _ h => by cases h⟩
    · rintro i d' σ M' nx hdd ⟨x3, x4, ds, rfl, rfl, hds, hrow⟩ hnx
      have hi : i < l.length := by
        have := (List.getElem?_eq_some_iff.mp hdd).1
        rw [List.length_map] at this
        exact this
      have hr := List.getElem?_eq_getElem hi
      generalize l[i] = r at hr
      have e : d' = brD r := by rw [List.getElem?_map, hr] at hdd; exact (Option.some.inj hdd).symm
      subst e
      have hm : r.2 ∈ kids (.par l) := List.mem_map_of_mem (List.mem_of_getElem? hr)
      have hdep := kids_dep hm
      have hc1 := cnt_kids (.par l)
      have ek : ((l.take i).map (·.2)) = (kids (.par l)).take i := by rw [kids, List.map_take]
      have ek2 : ((l.take (i + 1)).map (·.2)) = (kids (.par l)).take (i + 1) := by rw [kids, List.map_take]
      have hrk : (kids (.par l))[i]? = some r.2 := by rw [kids, List.getElem?_map, hr]; rfl
      have hct := cnts_take hrk
      have hle : cnts ((kids (.par l)).take (i + 1)) ≤ cnts (kids (.par l)) := by
        have app : ∀ a b : List Stm, cnts (a ++ b) = cnts a + cnts b := by
          intro a b
          induction a with
          | nil => simp [cnts]
          | cons x a ih => simp only [List.cons_append, cnts, ih]; omega
        have := app ((kids (.par l)).take (i + 1)) ((kids (.par l)).drop (i + 1))
        rw [List.take_append_drop] at this
        omega
      simp only [ownCnt] at hc1
      rw [ek] at hds
      walk_at "st"
      refine ⟨⟨_, .ref mupd_same⟩, ?_⟩
      walk_at "st"
      refine ⟨_, _, rfl, mupd_same, by rw [sizeLine_eq]; omega, ?_⟩
      walk_at "st"
      refine ⟨⟨_, .ref mupd_same⟩, ?_⟩
      walk_at "st"
      refine ⟨_, _, rfl, r.2, n, T, C, rfl, kids_wf W hm, by omega, by omega, fun es he hrow2 => ?_⟩
      walk_at "st"
      refine ⟨_, _, _, rfl, mupd_same, .lst, by rw [sizeLine_eq, List.length_append]; simp only [List.length_cons, List.length_nil]; omega, ?_⟩
      refine hnx _ _ ⟨_, _, ds ++ [.tup [N r.1, par, r.2.d]] ++ es, rfl, by rw [mupd_mupd, mupd_mupd], ?_, fun x hx => ?_⟩
      · rw [ek2, hct, List.length_append, List.length_append, hds, he]
        simp only [List.length_cons, List.length_nil]
        omega
      · rcases List.mem_append.mp hx with hx | hx
        · rcases List.mem_append.mp hx with hx | hx
          · exact hrow x hx
          · rw [List.mem_singleton.mp hx]
            exact ⟨_, _, _, rfl⟩
        · exact hrow2 x hx
    · rintro σ M' ⟨x3, x4, ds, rfl, rfl, hds, hrow⟩
      walk_at "st"
      refine ⟨_, mupd_same, ?_⟩
      rw [del_upd hp]
      refine rt_same (h ds ?_ hrow)
      rw [hds, List.length_map, List.take_length, cnt_kids]
      rfl
  have hc1 := cnt_kids s
  have ho : ownCnt s = 0 := by
    cases s with
    | par l => exact absurd ⟨l, rfl⟩ hpar
    | _ => rfl
  have loop : ∀ (x0 : D) (p : Addr) (x3 x4 x5 : Option D), M p = none → x0 = s.d → loopD (dName 5) (dDrop (dBM rExt (dV 2) (dCons (dCall (spBr d) (dCons (dV 5) (dCons (dV 1) dNil))) dNil))) ⟨fun σ M => dRet (dFrz (dV 2)) (endsOf Q) σ M, rtOf Q, fun _ _ => False, fun _ _ => False⟩ (fun _ => True) (stmsD (kids s)) [some x0, some par, some (.ref p), x3, x4, x5] (mupd M p (.lst [])) := by
    intro x0 p x3 x4 x5 hp e0
    subst e0
    rw [stmsD_eq]
    refine loop_by (fun i σ M' => ∃ x5 ds, σ = [some s.d, some par, some (.ref p), x3, x4, x5] ∧ M' = mupd M p (.lst ds) ∧ ds.length = cnts ((kids s).take i) ∧ ∀ r ∈ ds, isRow r) (fun _ _ _ _ _ => trivial) ?_ ?_ ⟨x5, [], rfl, rfl, rfl, fun _ h => by cases h⟩
    · rintro i d' σ M' nx hdd ⟨x5, ds, rfl, rfl, hds, hrow⟩ hnx
      have hi : i < (kids s).length := by
        have := (List.getElem?_eq_some_iff.mp hdd).1
        rw [List.length_map] at this
        exact this
      have hr := List.getElem?_eq_getElem hi
      generalize (kids s)[i] = r at hr
      have e : d' = r.d := by rw [List.getElem?_map, hr] at hdd; exact (Option.some.inj hdd).symm
      subst e
      have hm := List.mem_of_getElem? hr
      have hdep := kids_dep hm
      have hct := cnts_take hr
      have hle : cnts ((kids s).take (i + 1)) ≤ cnts (kids s) := by
        have app : ∀ a b : List Stm, cnts (a ++ b) = cnts a + cnts b := by
          intro a b
          induction a with
          | nil => simp [cnts]
          | cons x a ih => simp only [List.cons_append, cnts, ih]; omega
        have := app ((kids s).take (i + 1)) ((kids s).drop (i + 1))
        rw [List.take_append_drop] at this
        omega
      walk_at "st"
      refine ⟨⟨_, .ref mupd_same⟩, ?_⟩
      walk_at "st"
      refine ⟨_, _, rfl, r, n, T, C, rfl, kids_wf W hm, by omega, by omega, fun es he hrow2 => ?_⟩
      walk_at "st"
      refine ⟨_, _, _, rfl, mupd_same, .lst, by rw [sizeLine_eq]; omega, ?_⟩
      refine hnx _ _ ⟨_, ds ++ es, rfl, by rw [mupd_mupd], ?_, fun x hx => ?_⟩
      · rw [hct, List.length_append, hds, he]
      · rcases List.mem_append.mp hx with hx | hx
        · exact hrow x hx
        · exact hrow2 x hx
    · rintro σ M' ⟨x5, ds, rfl, rfl, hds, hrow⟩
      walk_at "st"
      refine ⟨_, mupd_same, ?_⟩
      rw [del_upd hp]
      refine rt_same (h ds ?_ hrow)
      rw [hds, List.length_map, List.take_length, hc1, ho, Nat.zero_add]
  cases s with
  | par l => exact absurd ⟨l, rfl⟩ hpar
  | _ =>
    walk_at "st"
    intro p hp
    walk_at "st"
    refine ⟨_, rfl, _, n, T, C, rfl, W, ?_⟩
    exact loop _ p none none none hp rfl
theorem branches_ok (B : Bl K mg) (Tx : Txt K mg "branches" s_branches) (c_inner_statements : Have P w K mg base "inner_statements" ["s"] 2 spKids) : ∀ d, Have P w K mg base "branches" ["s", "parent"] (d + 2) (spBr d)
  | 0 => (have_none Tx (fun _ _ _ _ _ _ us hl => match us, hl with | [_, _], _ => rfl) fun ds M Q ⟨_, _, _, _, _, _, _, _, _, h, _⟩ => absurd h (Nat.not_lt_zero _)).mono (Nat.zero_le _)
  | d + 1 => ok_branches B Tx (by omega) c_inner_statements (branches_ok B Tx c_inner_statements d)
end
end Dl
namespace Dl
open PySem PySem.Spec PyProof.Rows L2 Mi
local macro_rules | `(tactic| walk_at "dl") => `(tactic| simp only [dRet, dOp, dSl, dV, dNoP, dPart, dLst, dLstM, dCons, dNil, dC, startD, rAdd, rAddM, rIx, rEq, rNe, rII, rII0, rIB0, rMul, rIsN, rNotN, isNon, dNeg, dTest, dAnd, dOr, dNot, dAndV, dOrV, dNotV, dIf, dTup, dFrz, dCB, rLen, rInt1, rAbs1, rMin2, rAll1, dBM, rApp, rExt, rPop0,
  dGet, dPut, dNext, dSeq, dDrop, dIfS, dName, dgNil, dgCons, dgTup, dAsg, dSub, rSet, dPar, dIL, dIT, dIR, dIE, dIZ, dFor, dYes, dCall, dLc, dLcM, dLcF, dPair, dGetT, dInT, dPutT, dNewT, wipeD,
  natsD, isL_lst, isL_ref, seqIn_tup, seqIn_lst, rIn, flatD, eqD, List.all_cons, List.all_nil, List.any_cons, List.any_nil, sizeLine_eq, Nat.reduceLeDiff, Nat.reduceLT, Bool.or_false, Bool.and_true, Bool.true_and, Bool.false_and, Bool.false_or, Bool.or_true, Bool.true_or, Bool.and_false, tupAt, optE, endsOf,
  List.map_cons, List.map_nil, List.length_cons, List.length_nil, List.cons_append, List.nil_append, List.append_nil, List.getElem?_cons_zero, List.getElem?_cons_succ, List.getElem?_nil, List.set_cons_zero, List.set_cons_succ, List.replicate_succ, List.replicate_zero, List.length_append, List.replicate,
  of_sE, String.reduceEq, decide_true, decide_false, Bool.false_eq_true, Bool.not_true, Bool.not_false, reduceIte, exists_eq_left, exists_eq_left', true_and, and_true, if_true, if_false, ite_true, ite_false, Nat.reduceAdd, Nat.reduceSub, Nat.reduceBEq, BEq.rfl, beq_self_eq_true, D.ref.injEq, D.int.injEq, D.str.injEq, D.lst.injEq, D.tup.injEq, List.cons.injEq, exists_and_left, exists_const, and_self])
local macro_rules | `(tactic| walk_at "s0") => `(tactic| (dsimp only [startD, List.length_cons, List.length_nil, List.map_cons, List.map_nil, List.cons_append, List.nil_append, Nat.reduceAdd, Nat.reduceSub, List.replicate_succ, List.replicate_zero]))
local macro_rules | `(tactic| walk_at "st") => `(tactic| ((conv => whnf); (try dsimp only [List.set_cons_zero, List.set_cons_succ]); repeat ((refine ⟨Nat.le_of_ble_eq_true rfl, ?_⟩); (conv => whnf); (try dsimp only [List.set_cons_zero, List.set_cons_succ]))))

section
variable {P : Program} {K : PySem.W.Frag} {mg : Str → Option Value} {w : World} {base : Heap}
/-- all that was told is told yet -/
def Sub (M0 M : Mh) : Prop := ∀ a mo, M0 a = some mo → M a = some mo
theorem Sub.refl {M : Mh} : Sub M M := fun _ _ e => e
theorem Sub.non {M0 M : Mh} (s : Sub M0 M) {p : Addr} (h : M p = none) : M0 p = none := by
  cases e : M0 p with
  | none => rfl
  | some o => rw [s p o e] at h; cases h
theorem Sub.upd {M0 M : Mh} (s : Sub M0 M) {p : Addr} (h : M0 p = none) (o : MO) : Sub M0 (mupd M p o) := fun a mo e => by
  rw [mupd_ne (mne_of e h)]; exact s a mo e
theorem Sub.del {M0 M : Mh} (s : Sub M0 M) {p : Addr} (h : M0 p = none) : Sub M0 (mdel M p) := fun a mo e => by
  rw [mdel_ne (mne_of e h)]; exact s a mo e
def spThr : SpD := sp1 fun a M Q => ∃ (co : Core) (n T C : Nat), a = co.d ∧ co.body.wf n T C ∧ co.body.dep < 60 ∧ co.body.cnt ≤ 1000 ∧ ∀ ds : List D, ds.length = 1 + co.body.cnt → Q (.lst ds) M
abbrev n_threads_of : List Str := ["core", "rows", "_", "parent", "statement"]
theorem sc_threads_of : FnScope n_threads_of ["core"] (defScope s_threads_of) := ⟨rfl, rfl, rfl, by decide +kernel, rfl, by decide +kernel, by decide +kernel⟩
/-- threads_of; slots 0 core, 1 rows, 2 _, 3 parent, 4 statement; cells []; calls ['branches'] -/
theorem ok_threads_of (B : Bl K mg) (Tx : Txt K mg "threads_of" s_threads_of) (t_thread_number : Txt K mg "thread_number" s_thread_number) (c_branches : Have P w K mg base "branches" ["s", "parent"] 62 (spBr 60)) : Have P w K mg base "threads_of" ["core"] 63 spThr := by
  refine have_of Tx sc_threads_of (fun _ _ _ _ _ _ us hl => match us, hl with | [_], _ => rfl) len1 fun cdv f A outer s H E hr => ⟨_, (dss_cons (ds_set (i := 1) sc_threads_of.nd rfl (Or.inl rfl) (de_sorted B t_thread_number hr rfl rfl (de_callH c_branches (hr.mono (by omega)) rfl (da_cons (de_ix (dv 0) de_int) (da_cons de_int da_nil)))))
    (dss_one (ds_ret (de_op op_add_d (de_lst (da_cons (de_tup (da_cons de_non (da_cons (de_ix (dv 0) de_int) da_nil))) da_nil)) (de_lc (own := [("_", 2), ("parent", 3), ("statement", 4)]) rfl sc_threads_of.nd (di_list (dv 1)) (blkOk_by (N := n_threads_of) (sc := defScope s_threads_of) (by decide +kernel)) (fun _ _ _ _ _ => (dg_tup (n := 3) rfl (dgs_cons (dg_name (i := 2) (by decide) sc_threads_of.nd rfl (Or.inl rfl)) (dgs_cons (dg_name (i := 3) (by decide) sc_threads_of.nd rfl (Or.inl rfl)) (dgs_cons (dg_name (i := 4) (by decide) sc_threads_of.nd rfl (Or.inl rfl)) dgs_nil))))) (fun _ _ _ _ _ => dts_nil) (fun _ _ _ _ _ => (de_tup (da_cons (dv 3) (da_cons (dv 4) da_nil))))))))), ?_⟩
  rintro _ M Q ⟨_, rfl, co, n, T, C, rfl, W, hd, hcn, h⟩
  walk_at "s0"
  walk_at "st"
  refine ⟨_, _, rfl, co.body, n, T, C, rfl, W, hd, hcn, fun ds hds hrow => ?_⟩
  walk_at "st"
  refine ⟨_, .lst, fun r hr' => ?_, fun es hes => ?_⟩
  · obtain ⟨k, p, x, e⟩ := hrow r hr'
    exact ⟨k, _, e⟩
  have hel := hes.length_eq
  have hrow2 : ∀ r ∈ es, isRow r := fun r hr' => hrow r (hes.mem_iff.mp hr')
  walk_at "st"
  intro p hp
  have em : es = es.map id := by rw [List.map_id]
  rw [em]
  refine lc_map es id (fun _ => true) (fun r => match r with | .tup [_, a, b] => .tup [a, b] | _ => .non) (by rw [sizeLine_eq]; omega) (by exact fun _ => trivial) (fun r hr' acc Ky Kn hh => ?_) ?_
  · obtain ⟨k, p', x, rfl⟩ := hrow2 r hr'
    walk_at "st"
    exact hh
  rw [filter_all]
  simp only [del_upd hp]
  refine ⟨_, _, .lst, .lst, by rw [sizeLine_eq, List.length_map]; simp only [List.length_cons, List.length_nil]; omega, ?_⟩
  exact rt_same (h _ (by rw [List.length_append, List.length_map, hel, hds]; rfl))
def spInit : SpD := sp1 fun a M Q => ∃ (co : Core) (n T C : Nat), a = co.d ∧ co.body.wf n T C ∧ co.body.dep < 60 ∧ co.body.cnt ≤ 999 ∧ co.n ≤ 1000 ∧ co.kinds.length ≤ 1000 ∧ Q (init co).d M
theorem kinds_cnt (x : Mi.Kind) : ∀ l : List Mi.Kind, (l.map kindD).countP (fun z => eqD z (S x.nm)) = l.countP (· == x)
  | [] => rfl
  | a :: l => by
    rw [List.map_cons, List.countP_cons, List.countP_cons, kinds_cnt x l]
    have e : eqD (kindD a) (S x.nm) = (a == x) := by
      show decide (Str.ofString a.nm = Str.ofString x.nm) = _
      rw [of_sE]
      cases a <;> cases x <;> rfl
    rw [e]
abbrev n_initial : List Str := ["core", "_", "cells", "channels", "body", "threads"]
theorem sc_initial : FnScope n_initial ["core"] (defScope s_initial) := ⟨rfl, rfl, rfl, by decide +kernel, rfl, by decide +kernel, by decide +kernel⟩
/-- initial; slots 0 core, 1 _, 2 cells, 3 channels, 4 body, 5 threads; cells []; calls ['at', 'threads_of'] -/
theorem ok_initial (B : Bl K mg) (Tx : Txt K mg "initial" s_initial) (c_at : Have P w K mg base "at" ["stack"] 1 spAt) (c_threads_of : Have P w K mg base "threads_of" ["core"] 63 spThr) : Have P w K mg base "initial" ["core"] 64 spInit := by
  refine have_of Tx sc_initial (fun _ _ _ _ _ _ us hl => match us, hl with | [_], _ => rfl) len1 fun cdv f A outer s H E hr => ⟨_, (dss_cons (ds_asg (vs := [1, 2, 3, 4]) (dv 0) (dg_tup (n := 4) rfl (dgs_cons (dg_name (i := 1) (by decide) sc_initial.nd rfl (Or.inl rfl)) (dgs_cons (dg_name (i := 2) (by decide) sc_initial.nd rfl (Or.inl rfl)) (dgs_cons (dg_name (i := 3) (by decide) sc_initial.nd rfl (Or.inl rfl)) (dgs_cons (dg_name (i := 4) (by decide) sc_initial.nd rfl (Or.inl rfl)) dgs_nil))))))
    (dss_cons (ds_setLcM (own := [("_", 1)]) (i := 5) rfl sc_initial.nd rfl rfl (sw_true rfl rfl rfl (by decide +kernel)) (di_list (de_callH c_threads_of (hr.mono (by omega)) rfl (da_cons (dv 0) da_nil))) (blkOk_by (N := n_initial) (sc := defScope s_initial) (by decide +kernel)) (fun _ _ _ _ _ => (dg_name (i := 1) (by decide) sc_initial.nd rfl (Or.inl rfl))) (fun _ _ _ _ _ => dts_nil) (fun _ _ _ _ _ => (de_tup (da_cons de_str da_nil))))
    (dss_cons (ds_asg (vs := []) (de_callH c_at (hr.mono (by omega)) rfl (da_cons (de_lst (da_cons (dv 4) da_nil)) da_nil)) (dg_sub (dv 5) de_int))
    (dss_one (ds_ret (de_tup (da_cons (de_op op_mul_d (de_lstM (da_cons de_int da_nil)) (dv 2)) (da_cons (de_frz (dv 5)) (da_cons (de_op op_mul_d (de_lstM (da_cons de_int da_nil)) (de_bm PySem.F.slot_list_count PySem.F.type_list_count mt_count_d (dv 3) (da_cons de_str da_nil))) (da_cons (de_lc (own := [("_", 1)]) rfl sc_initial.nd (di_range rfl B.range (da_cons (de_bm PySem.F.slot_list_count PySem.F.type_list_count mt_count_d (dv 3) (da_cons de_str da_nil)) da_nil)) (blkOk_by (N := n_initial) (sc := defScope s_initial) (by decide +kernel)) (fun _ _ _ _ _ => (dg_name (i := 1) (by decide) sc_initial.nd rfl (Or.inl rfl))) (fun _ _ _ _ _ => dts_nil) (fun _ _ _ _ _ => (de_lst da_nil))) da_nil)))))))))), ?_⟩
  rintro _ M Q ⟨_, rfl, co, n, T, C, rfl, W, hd, hcn, hn, hC, h⟩
  walk_at "s0"
  walk_at "st"
  refine ⟨_, rfl, co, n, T, C, rfl, W, hd, by omega, fun ds hds => ?_⟩
  walk_at "st"
  intro p hp
  have em : ds = ds.map id := by rw [List.map_id]
  rw [em]
  refine lc_map ds id (fun _ => true) (fun _ => .tup [S "idle"]) (by rw [sizeLine_eq]; omega) (by exact fun _ => trivial) (fun r hr' acc Ky Kn hh => ?_) ?_
  · walk_at "st"
    exact hh
  rw [filter_all]
  have et : (ds.map fun _ => D.tup [S "idle"]) = .tup [S "idle"] :: List.replicate co.body.cnt (.tup [S "idle"]) := by
    rw [List.map_const', hds, Nat.add_comm]; rfl
  rw [et]
  have c1 := kinds_cnt .inp co.kinds
  have c2 := kinds_cnt .out co.kinds
  have l1 : co.kinds.countP (· == .inp) ≤ co.kinds.length := List.countP_le_length
  have l2 : co.kinds.countP (· == .out) ≤ co.kinds.length := List.countP_le_length
  have cf : (co.kinds.map kindD).all flatD = true := by
    rw [List.all_map, List.all_eq_true]
    intro k _
    rfl
  walk_at "st"
  refine ⟨_, rfl, [co.body], rfl, ?_⟩
  walk_at "st"
  refine ⟨_, _, _, 0, rfl, rfl, mupd_same, ixN_nat (t := 0) (Nat.succ_pos _), ?_⟩
  walk_at "st"
  intro q hq
  walk_at "st"
  have nqp : p ≠ q := fun z => by rw [← z, mupd_same] at hq; cases hq
  refine ⟨_, mupd_same, by omega, by omega, ?_⟩
  walk_at "st"
  refine ⟨_, by rw [mupd_ne nqp, mupd_same], ?_⟩
  walk_at "st"
  intro q2 hq2
  walk_at "st"
  refine ⟨⟨_, .lst⟩, ?_⟩
  walk_at "st"
  refine ⟨_, .lst, rfl, cf, ?_⟩
  rw [show (co.kinds.map kindD).countP (fun z => eqD z (.str (Str.ofString "in"))) = _ from c1]
  walk_at "st"
  refine ⟨_, mupd_same, by omega, by omega, ?_⟩
  walk_at "st"
  refine ⟨⟨_, .lst⟩, ?_⟩
  walk_at "st"
  refine ⟨_, .lst, rfl, cf, ?_⟩
  rw [show (co.kinds.map kindD).countP (fun z => eqD z (.str (Str.ofString "out"))) = _ from c2]
  walk_at "st"
  refine ⟨by omega, ⟨by omega, ?_⟩⟩
  intro q3 hq3
  rw [Int.toNat_natCast, intsD_map]
  refine lc_map (G := fun _ => True) (List.range (co.kinds.countP (· == .out))) N (fun _ => true) (fun _ => .lst []) (by rw [sizeLine_eq, List.length_range]; omega) (by exact fun _ => trivial) (fun r hr' acc Ky Kn hh => ?_) ?_
  · walk_at "st"
    exact hh
  rw [filter_all]
  simp only [del_upd hq3]
  walk_at "st"
  have s1 : Sub M (mupd (mupd M p (.lst (.tup [S "idle"] :: List.replicate co.body.cnt (.tup [S "idle"])))) p (.lst ((onK [co.body]).d :: List.replicate co.body.cnt (.tup [S "idle"])))) := (Sub.refl.upd hp _).upd hp _
  have s2 := (s1.upd (s1.non hq) (.lst [D.int 0])).del hp
  refine ⟨M, s2.upd (s2.non hq2) _, ?_⟩
  have e1 : (init co).d = .tup [.lst (List.replicate co.n (.int 0)), .lst ((onK [co.body]).d :: List.replicate co.body.cnt (.tup [S "idle"])), .lst (List.replicate (co.kinds.countP (· == .inp)) (.int 0)), .lst ((List.range (co.kinds.countP (· == .out))).map fun _ => .lst [])] := by
    simp only [Sta.d, init, natsD, List.map_replicate, List.map_cons, List.map_const', List.length_range]
    rfl
  rw [e1] at h
  exact h
/-- [[] for .. in range(n)]: new lists -/
theorem lc_news {v p : Nat} {σ : Sd} {F : List D → Mh → Prop} {M : Mh} {n : Nat} (hp : M p = none) (hn : n ≤ 1000)
    (hF : ∀ (os : List Addr) (M' : Mh), os.length = n → os.Nodup → (∀ a ∈ os, M a = none ∧ a ≠ p ∧ M' a = some (.lst [])) → Sub M M' → M' p = some (.lst (os.map D.ref)) → F (os.map D.ref) M') : lcD (dName v) dYes (dLstM dNil) (fun _ => True) p σ F (intsD 0 n) (mupd M p (.lst [])) := by
  rw [intsD_map]
  have go : ∀ (r : List Nat) (os : List Addr) (M1 : Mh), os.length + r.length = n → os.Nodup → (∀ a ∈ os, M a = none ∧ a ≠ p ∧ M1 a = some (.lst [])) → Sub M M1 → M1 p = some (.lst (os.map D.ref)) → lcD (dName v) dYes (dLstM dNil) (fun _ => True) p σ F (r.map N) M1 := by
    intro r
    induction r with
    | nil =>
      intro os M1 hl nd ha hs hm
      exact ⟨trivial, _, hm, hF os M1 hl nd ha hs hm⟩
    | cons k r ih =>
      intro os M1 hl nd ha hs hm
      refine ⟨trivial, ?_⟩
      walk_at "st"
      intro q hq
      have npq : p ≠ q := mne_of hm hq
      refine ⟨_, by rw [mupd_ne npq]; exact hm, ?_, ?_⟩
      · rw [sizeLine_eq, List.length_map]
        simp only [List.length_cons] at hl
        omega
      · have em : os.map D.ref ++ [.ref q] = (os ++ [q]).map D.ref := by rw [List.map_append]; rfl
        rw [em]
        refine ih (os ++ [q]) _ (by rw [List.length_append]; simp only [List.length_cons, List.length_nil] at hl ⊢; omega) ?_ ?_ ((hs.upd (hs.non hq) _).upd hp _) mupd_same
        · rw [List.nodup_append]
          refine ⟨nd, by simp, fun a h1 b h2 e => ?_⟩
          rw [List.mem_singleton.mp h2] at e
          subst e
          rw [(ha a h1).2.2] at hq
          cases hq
        · intro a h1
          rcases List.mem_append.mp h1 with h1 | h1
          · obtain ⟨g1, g2, g3⟩ := ha a h1
            exact ⟨g1, g2, by rw [mupd_ne g2, mupd_ne (mne_of g3 hq)]; exact g3⟩
          · rw [List.mem_singleton.mp h1]
            exact ⟨hs.non hq, Ne.symm npq, by rw [mupd_ne (Ne.symm npq), mupd_same]⟩
  exact go (List.range n) [] _ (by simp) .nil (fun _ h => by cases h) (Sub.refl.upd hp _) mupd_same
def spLFirst : SpD := sp1 fun a M Q => ∃ (co : Core) (n T C : Nat), a = co.d ∧ co.body.wf n T C ∧ co.body.dep < 60 ∧ co.body.cnt ≤ 999 ∧ co.n ≤ 1000 ∧ co.kinds.length ≤ 1000 ∧ ∀ a0 a1 a2 os M', MAt a0 a1 a2 os (init co) M' → Q (mD a0 a1 a2 os) M'
theorem kinds_filter (x : Mi.Kind) (l : List Mi.Kind) : ((l.filter (· == x)).map kindD).length = l.countP (· == x) := by
  rw [List.length_map, List.countP_eq_length_filter]
abbrev n_law_first : List Str := ["_law_core_here", "_law_threads", "_law_k", "_law_ins", "_law_kind", "_law_outs"]
theorem sc_law_first : FnScope n_law_first ["_law_core_here"] (defScope s_law_first) := ⟨rfl, rfl, rfl, by decide +kernel, rfl, by decide +kernel, by decide +kernel⟩
/-- _law_first; slots 0 _law_core_here, 1 _law_threads, 2 _law_k, 3 _law_ins, 4 _law_kind, 5 _law_outs; cells []; calls ['_law_many'] -/
theorem ok_law_first (B : Bl K mg) (Tx : Txt K mg "_law_first" s_law_first) (c_law_many : Have P w K mg base "_law_many" ["_law_s"] 61 (spMany 60)) : Have P w K mg base "_law_first" ["_law_core_here"] 62 spLFirst := by
  refine have_of Tx sc_law_first (fun _ _ _ _ _ _ us hl => match us, hl with | [_], _ => rfl) len1 fun cdv f A outer s H E hr => ⟨_, (dss_cons (ds_set (i := 1) sc_law_first.nd rfl (Or.inl rfl) (de_op op_addM_d (de_lst (da_cons (de_tup (da_cons de_str (da_cons (de_lst (da_cons (de_ix (dv 0) de_int) da_nil)) da_nil))) da_nil)) (de_lc (own := [("_law_k", 2)]) rfl sc_law_first.nd (di_range rfl B.range (da_cons (de_callH c_law_many (hr.mono (by omega)) rfl (da_cons (de_ix (dv 0) de_int) da_nil)) da_nil)) (blkOk_by (N := n_law_first) (sc := defScope s_law_first) (by decide +kernel)) (fun _ _ _ _ _ => (dg_name (i := 2) (by decide) sc_law_first.nd rfl (Or.inl rfl))) (fun _ _ _ _ _ => dts_nil) (fun _ _ _ _ _ => (de_tup (da_cons de_str da_nil))))))
    (dss_cons (ds_set (i := 3) sc_law_first.nd rfl (Or.inl rfl) (de_callB call_len_d rfl B.len PySem.boot_len (da_cons (de_lc (own := [("_law_kind", 4)]) rfl sc_law_first.nd (di_list (de_ix (dv 0) de_int)) (blkOk_by (N := n_law_first) (sc := defScope s_law_first) (by decide +kernel)) (fun _ _ _ _ _ => (dg_name (i := 4) (by decide) sc_law_first.nd rfl (Or.inl rfl))) (fun _ _ _ _ _ => (dts_one (dt_cmp (op_eq_d (hu2 hr)) (dv 4) de_str (nomark _)))) (fun _ _ _ _ _ => (dv 4))) da_nil)))
    (dss_cons (ds_set (i := 5) sc_law_first.nd rfl (Or.inl rfl) (de_callB call_len_d rfl B.len PySem.boot_len (da_cons (de_lc (own := [("_law_kind", 4)]) rfl sc_law_first.nd (di_list (de_ix (dv 0) de_int)) (blkOk_by (N := n_law_first) (sc := defScope s_law_first) (by decide +kernel)) (fun _ _ _ _ _ => (dg_name (i := 4) (by decide) sc_law_first.nd rfl (Or.inl rfl))) (fun _ _ _ _ _ => (dts_one (dt_cmp (op_eq_d (hu2 hr)) (dv 4) de_str (nomark _)))) (fun _ _ _ _ _ => (dv 4))) da_nil)))
    (dss_one (ds_ret (de_lst (da_cons (de_lcM (own := [("_law_k", 2)]) rfl sc_law_first.nd (di_range rfl B.range (da_cons (de_ix (dv 0) de_int) da_nil)) (blkOk_by (N := n_law_first) (sc := defScope s_law_first) (by decide +kernel)) (fun _ _ _ _ _ => (dg_name (i := 2) (by decide) sc_law_first.nd rfl (Or.inl rfl))) (fun _ _ _ _ _ => dts_nil) (fun _ _ _ _ _ => de_int)) (da_cons (dv 1) (da_cons (de_lcM (own := [("_law_k", 2)]) rfl sc_law_first.nd (di_range rfl B.range (da_cons (dv 3) da_nil)) (blkOk_by (N := n_law_first) (sc := defScope s_law_first) (by decide +kernel)) (fun _ _ _ _ _ => (dg_name (i := 2) (by decide) sc_law_first.nd rfl (Or.inl rfl))) (fun _ _ _ _ _ => dts_nil) (fun _ _ _ _ _ => de_int)) (da_cons (de_lc (own := [("_law_k", 2)]) rfl sc_law_first.nd (di_range rfl B.range (da_cons (dv 5) da_nil)) (blkOk_by (N := n_law_first) (sc := defScope s_law_first) (by decide +kernel)) (fun _ _ _ _ _ => (dg_name (i := 2) (by decide) sc_law_first.nd rfl (Or.inl rfl))) (fun _ _ _ _ _ => dts_nil) (fun _ _ _ _ _ => (de_lstM da_nil))) da_nil)))))))))), ?_⟩
  rintro _ M Q ⟨_, rfl, co, n, T, C, rfl, W, hd, hcn, hn, hC, h⟩
  have l1 : co.kinds.countP (· == .inp) ≤ co.kinds.length := List.countP_le_length
  have l2 : co.kinds.countP (· == .out) ≤ co.kinds.length := List.countP_le_length
  walk_at "s0"
  walk_at "st"
  refine ⟨_, rfl, co.body, n, T, C, rfl, W, hd, ?_⟩
  walk_at "st"
  refine ⟨by omega, ⟨by omega, ?_⟩⟩
  intro p hp
  rw [Int.toNat_natCast, intsD_map]
  refine lc_map (G := fun _ => True) (List.range co.body.cnt) N (fun _ => true) (fun _ => .tup [S "idle"]) (by rw [sizeLine_eq, List.length_range]; omega) (by exact fun _ => trivial) (fun r hr' acc Ky Kn hh => ?_) ?_
  · walk_at "st"
    exact hh
  rw [filter_all]
  simp only [del_upd hp]
  refine ⟨_, _, .lst, .lst, by rw [sizeLine_eq, List.length_map, List.length_range]; simp only [List.length_cons, List.length_nil]; omega, ?_⟩
  intro p1 hp1
  walk_at "st"
  intro q hq
  refine lc_map (G := fun _ => True) co.kinds kindD (fun k => k == .inp) kindD (by rw [sizeLine_eq]; omega) (by exact fun _ => trivial) (fun r hr' acc Ky Kn hh => ?_) ?_
  · cases r <;> (walk_at "st"; exact hh)
  simp only [del_upd hq]
  walk_at "st"
  refine ⟨_, .lst, ?_⟩
  rw [kinds_filter]
  walk_at "st"
  intro q2 hq2
  refine lc_map (G := fun _ => True) co.kinds kindD (fun k => k == .out) kindD (by rw [sizeLine_eq]; omega) (by exact fun _ => trivial) (fun r hr' acc Ky Kn hh => ?_) ?_
  · cases r <;> (walk_at "st"; exact hh)
  simp only [del_upd hq2]
  walk_at "st"
  refine ⟨_, .lst, ?_⟩
  rw [kinds_filter]
  walk_at "st"
  refine ⟨by omega, ⟨by omega, ?_⟩⟩
  intro a0 ha0
  rw [Int.toNat_natCast, intsD_map]
  refine lc_map (G := fun _ => True) (List.range co.n) N (fun _ => true) (fun _ => N 0) (by rw [sizeLine_eq, List.length_range]; omega) (by exact fun _ => trivial) (fun r hr' acc Ky Kn hh => ?_) ?_
  · walk_at "st"
    exact hh
  rw [filter_all]
  walk_at "st"
  refine ⟨by omega, ⟨by omega, ?_⟩⟩
  intro a2 ha2
  rw [Int.toNat_natCast, intsD_map]
  refine lc_map (G := fun _ => True) (List.range (co.kinds.countP (· == .inp))) N (fun _ => true) (fun _ => N 0) (by rw [sizeLine_eq, List.length_range]; omega) (by exact fun _ => trivial) (fun r hr' acc Ky Kn hh => ?_) ?_
  · walk_at "st"
    exact hh
  rw [filter_all]
  walk_at "st"
  refine ⟨by omega, ⟨by omega, ?_⟩⟩
  intro a3 ha3
  rw [Int.toNat_natCast]
  refine lc_news ha3 (by omega) fun os M' hol nd hos hs hm => ?_
  walk_at "st"
  have n0 : p1 ≠ a0 := fun z => by rw [← z, mupd_same] at ha0; cases ha0
  have n1 : p1 ≠ a2 := fun z => by rw [← z, mupd_ne n0, mupd_same] at ha2; cases ha2
  have n2 : a0 ≠ a2 := fun z => by rw [← z, mupd_same] at ha2; cases ha2
  refine rt_same (h a0 p1 a2 os _ ?_)
  have g0 : ∀ a mo, a ≠ a3 → M' a = some mo → mdel M' a3 a = some mo := fun a mo ne e => by rw [mdel_ne ne]; exact e
  have k0 : M' a0 = some (.lst ((List.range co.n).map fun _ => N 0)) := hs _ _ (by rw [mupd_ne n2, mupd_same])
  have k1 : M' p1 = _ := hs p1 _ (by rw [mupd_ne n1, mupd_ne n0, mupd_same])
  have k2 : M' a2 = _ := hs a2 _ mupd_same
  have f0 : a0 ≠ a3 := fun z => by rw [← z, mupd_ne n2, mupd_same] at ha3; cases ha3
  have f1 : p1 ≠ a3 := fun z => by rw [← z, mupd_ne n1, mupd_ne n0, mupd_same] at ha3; cases ha3
  have f2 : a2 ≠ a3 := fun z => by rw [← z, mupd_same] at ha3; cases ha3
  refine ⟨?_, ?_, ?_, ?_, ?_, ?_⟩
  · rw [mdel_ne f0, k0]
    simp [init, List.map_const']
  · rw [mdel_ne f1, k1]
    simp only [init, List.map_cons, List.map_replicate, List.map_const', List.length_range]
    rfl
  · rw [mdel_ne f2, k2]
    simp [init, List.map_const']
  · rw [hol]
    simp [init]
  · intro i a e
    obtain ⟨_, g2, g3⟩ := hos a (List.mem_of_getElem? e)
    rw [mdel_ne g2, g3]
    have : (init co).outs.getD i [] = [] := by
      rw [List.getD_eq_getElem?_getD]
      simp only [init, List.getElem?_replicate]
      split <;> rfl
    rw [this]
    rfl
  · have no : ∀ a ∈ os, a ≠ a0 ∧ a ≠ p1 ∧ a ≠ a2 := fun a ha => by
      have g := (hos a ha).1
      refine ⟨fun z => ?_, fun z => ?_, fun z => ?_⟩
      · rw [z, mupd_ne n2, mupd_same] at g; cases g
      · rw [z, mupd_ne n1, mupd_ne n0, mupd_same] at g; cases g
      · rw [z, mupd_same] at g; cases g
    simp only [List.nodup_cons, List.mem_cons, not_or]
    exact ⟨⟨Ne.symm n0, n2, fun ha => (no _ ha).1 rfl⟩, ⟨n1, fun ha => (no _ ha).2.1 rfl⟩, fun ha => (no _ ha).2.2 rfl, nd⟩
end
end Dl
namespace Dl
open PySem PySem.Spec PyProof.Rows L2 Mi
local macro_rules | `(tactic| walk_at "dl") => `(tactic| simp only [dRet, dOp, dSl, dV, dNoP, dPart, dLst, dLstM, dCons, dNil, dC, startD, rAdd, rAddM, rIx, rEq, rNe, rII, rII0, rIB0, rMul, rIsN, rNotN, isNon, dNeg, dTest, dAnd, dOr, dNot, dAndV, dOrV, dNotV, dIf, dTup, dFrz, dCB, rLen, rInt1, rAbs1, rMin2, rAll1, dBM, rApp, rExt, rPop0,
  dGet, dPut, dNext, dSeq, dDrop, dIfS, dName, dgNil, dgCons, dgTup, dAsg, dSub, rSet, dPar, dIL, dIT, dIR, dIE, dIZ, dFor, dYes, dCall, dLc, dLcM, dLcF, dPair, dGetT, dInT, dPutT, dNewT, wipeD,
  natsD, isL_lst, isL_ref, seqIn_tup, seqIn_lst, rIn, flatD, eqD, List.all_cons, List.all_nil, List.any_cons, List.any_nil, sizeLine_eq, Nat.reduceLeDiff, Nat.reduceLT, Bool.or_false, Bool.and_true, Bool.true_and, Bool.false_and, Bool.false_or, Bool.or_true, Bool.true_or, Bool.and_false, tupAt, optE, endsOf,
  List.map_cons, List.map_nil, List.length_cons, List.length_nil, List.cons_append, List.nil_append, List.append_nil, List.getElem?_cons_zero, List.getElem?_cons_succ, List.getElem?_nil, List.set_cons_zero, List.set_cons_succ, List.replicate_succ, List.replicate_zero, List.length_append, List.replicate,
  of_sE, String.reduceEq, decide_true, decide_false, Bool.false_eq_true, Bool.not_true, Bool.not_false, reduceIte, exists_eq_left, exists_eq_left', true_and, and_true, if_true, if_false, ite_true, ite_false, Nat.reduceAdd, Nat.reduceSub, Nat.reduceBEq, BEq.rfl, beq_self_eq_true, D.ref.injEq, D.int.injEq, D.str.injEq, D.lst.injEq, D.tup.injEq, List.cons.injEq, exists_and_left, exists_const, and_self])
local macro_rules | `(tactic| walk_at "s0") => `(tactic| (dsimp only [startD, List.length_cons, List.length_nil, List.map_cons, List.map_nil, List.cons_append, List.nil_append, Nat.reduceAdd, Nat.reduceSub, List.replicate_succ, List.replicate_zero]))
local macro_rules | `(tactic| walk_at "st") => `(tactic| ((conv => whnf); (try dsimp only [List.set_cons_zero, List.set_cons_succ]); repeat ((refine ⟨Nat.le_of_ble_eq_true rfl, ?_⟩); (conv => whnf); (try dsimp only [List.set_cons_zero, List.set_cons_succ]))))

section
variable {P : Program} {K : PySem.W.Frag} {mg : Str → Option Value} {w : World} {base : Heap}
theorem hu3 {A : Around} {k : Nat} (hr : Room (k + 1) A) : A.units + 201 < cLine := by have := hr.un; omega
/-! ### what the law's generator promises -/
/-- the draws' state: a list of the script's numbers left over, and a seed -/
structure StAt (sa ca : Addr) (M : Mh) : Prop where
  ex : ∃ (cells : List Nat) (seed : Nat), M sa = some (.lst [.ref ca, N seed]) ∧ M ca = some (.lst (cells.map N))
  ne : sa ≠ ca
/-- all others are as before -/
def Fr2 (sa ca : Addr) (M M' : Mh) : Prop := ∀ x mo, x ≠ sa → x ≠ ca → M x = some mo → M' x = some mo
def spState (K : PySem.W.Frag) : SpD := sp1 fun a M Q => ∃ ns : List Int, IsScr K a ns ∧ ns.length ≤ 63 ∧ ∀ sa ca M', StAt sa ca M' → Q (.ref sa) M'
def spDraw : SpD := sp2 fun a b M Q => ∃ (sa ca : Addr) (n : Nat), a = .ref sa ∧ b = N n ∧ 0 < n ∧ n ≤ 1000000 ∧ StAt sa ca M ∧ ∀ i M', i < n → StAt sa ca M' → Fr2 sa ca M M' → Q (N i) M'
def spCore : SpD := sp2 fun a b M Q => ∃ (sa ca : Addr) (x : Bool), a = .ref sa ∧ b = .bl x ∧ StAt sa ca M ∧ ∀ (co : Core) (C : CoreOk co) M', StAt sa ca M' → Q co.d M'
def spInputs : SpD := sp2 fun a b M Q => ∃ (sa ca : Addr) (co : Core) (C : CoreOk co), a = .ref sa ∧ b = co.d ∧ StAt sa ca M ∧ ∀ (inp : List (List Nat)) M', InpOk C.ins inp → StAt sa ca M' → Q (inpD inp) M'
def spChoices : SpD := sp1 fun a M Q => ∃ (sa ca : Addr), a = .ref sa ∧ StAt sa ca M ∧ ∀ (l : List Nat) M', l.length ≤ 1000 → Q (natsD l) M'
def spLaw (K : PySem.W.Frag) : SpD := sp1 fun a M Q => ∃ ns : List Int, IsScr K a ns ∧ ns.length ≤ 63 ∧ ∀ M', Q (.bl true) M'
theorem mapRef_dat {M : Mh} {os : List Addr} {outs : List (List Nat)} (hl : os.length = outs.length) (ho : ∀ i a, os[i]? = some a → M a = some (.lst ((outs.getD i []).map N))) : Dats M (os.map D.ref) (pys (outs.map natsD)) := by
  induction os generalizing outs with
  | nil =>
    cases outs with
    | nil => exact .nil
    | cons _ _ => simp at hl
  | cons a os ih =>
    cases outs with
    | nil => simp at hl
    | cons o outs =>
      refine .cons (.ref (ho 0 a rfl) (dats_py _ ?_)) (ih (by simpa using hl) fun i b e => ho (i + 1) b (by simpa using e))
      exact pureDs_map fun _ _ => rfl
theorem mat_dat {a0 a1 a2 : Addr} {os : List Addr} {s : Sta} {M : Mh} (R : MAt a0 a1 a2 os s M) : Dat M (.tup [.ref a0, .ref a1, .ref a2, .lst (os.map D.ref)]) (py s.d) :=
  .tup (.cons (.ref R.c (dats_py _ (pureDs_map fun _ _ => rfl))) (.cons (.ref R.t (dats_py _ (pureDs_map fun c _ => pure_cond c))) (.cons (.ref R.k (dats_py _ (pureDs_map fun _ _ => rfl))) (.cons (.lst (mapRef_dat R.ol R.o)) .nil))))
theorem rNe_evnt {e : Option (Nat × Nat)} {M : Mh} {Q : KD} (h : Q (.bl false) M) : rNe (evntD e) (evntD e) M Q := by
  have pe : pureD (evntD e) = true := by cases e <;> rfl
  have go : datEq true (evntD e) (evntD e) M Q := by
    refine ⟨_, _, dat_py _ pe, dat_py _ pe, canLay_py _ pe, canLay_py _ pe, .inl (by cases e <;> exact Nat.le_of_ble_eq_true rfl), ?_⟩
    rw [if_pos rfl, eqv_self]
    exact h
  cases e with
  | none => first | exact go | exact h
  | some p => exact go
abbrev n_law : List Str := ["_law_script", "_law_state_here", "_law_core_here", "_law_inputs_here", "_law_choices_here", "_law_before", "_law_m", "_law_now", "_law_k", "_law_rows", "_law_redex", "_law_kept", "_law_made", "_law_later"]
theorem sc_law : FnScope n_law ["_law_script"] (defScope s_law) := ⟨rfl, rfl, rfl, by decide +kernel, rfl, by decide +kernel, by decide +kernel⟩
/-- law; slots 0 _law_script, 1 _law_state_here, 2 _law_core_here, 3 _law_inputs_here, 4 _law_choices_here, 5 _law_before, 6 _law_m, 7 _law_now, 8 _law_k, 9 _law_rows, 10 _law_redex, 11 _law_kept, 12 _law_made, 13 _law_later; cells []; calls ['_law_do', 'perform', 'event', '_law_choice', '_law_ready', 'redexes', 'initial', '_law_first', '_law_choices', '_law_inputs', '_law_core', '_law_draw', '_law_state'] -/
theorem law_body (B : Bl K mg) (c_law_state : Have P w K mg base "_law_state" ["_law_script"] 1 (spState K)) (c_law_draw : Have P w K mg base "_law_draw" ["_law_state_here", "_law_many_here"] 1 spDraw) (c_law_core : Have P w K mg base "_law_core" ["_law_state_here", "_law_alts"] 140 spCore)
    (c_law_inputs : Have P w K mg base "_law_inputs" ["_law_state_here", "_law_core_here"] 3 spInputs) (c_law_choices : Have P w K mg base "_law_choices" ["_law_state_here"] 3 spChoices) (c_law_first : Have P w K mg base "_law_first" ["_law_core_here"] 62 spLFirst)
    (c_initial : Have P w K mg base "initial" ["core"] 64 spInit) (c_redexes : Have P w K mg base "redexes" ["core", "inputs", "state"] 4 spRedexes) (c_law_ready : Have P w K mg base "_law_ready" ["_law_core_here", "_law_inputs_here", "_law_m"] 1 spLReady)
    (c_law_choice : Have P w K mg base "_law_choice" ["_law_choices_here", "_law_k", "_law_many_here"] 1 spLChoice) (c_event : Have P w K mg base "event" ["core", "inputs", "state", "redex"] 1 spEvent) (c_perform : Have P w K mg base "perform" ["core", "inputs", "state", "redex"] 19 spPerform)
    (c_law_do : Have P w K mg base "_law_do" ["_law_core_here", "_law_inputs_here", "_law_m", "_law_redex"] 12 spLDo)
    (cdv : Value) (f : Addr) (A : Around) (outer : List Env) (s : Shared) (H : Hp) (E : XK) (hr : Room 149 (A.deeper (envOfC "law" (defScope s_law) s.heap.objs.size f cdv))) (hgd : (A.deeper (envOfC "law" (defScope s_law) s.heap.objs.size f cdv)).guards = some []) :
    ∃ t, DSs (cxOf CX0 P w K mg base n_law "law" (defScope s_law) f cdv A outer s H E).nox (defBody s_law) t ∧ ∀ ds M Q, spLaw K ds M Q → t (endsOf Q) (startD n_law.length ds) M := by
  refine ⟨_, (dss_cons (ds_set (i := 1) sc_law.nd rfl (Or.inl rfl) (de_callH c_law_state (hr.mono (by omega)) rfl (da_cons (dv 0) da_nil)))
    (dss_cons (ds_set (i := 2) sc_law.nd rfl (Or.inl rfl) (de_callH c_law_core (hr.mono (by omega)) rfl (da_cons (dv 1) (da_cons (de_cmp (op_eq_d (hu2 hr)) (de_callH c_law_draw (hr.mono (by omega)) rfl (da_cons (dv 1) (da_cons de_int da_nil))) de_int (nomark _)) da_nil))))
    (dss_cons (ds_set (i := 3) sc_law.nd rfl (Or.inl rfl) (de_callH c_law_inputs (hr.mono (by omega)) rfl (da_cons (dv 1) (da_cons (dv 2) da_nil))))
    (dss_cons (ds_set (i := 4) sc_law.nd rfl (Or.inl rfl) (de_callH c_law_choices (hr.mono (by omega)) rfl (da_cons (dv 1) da_nil)))
    (dss_cons (ds_set (i := 5) sc_law.nd rfl (Or.inl rfl) (de_callB (call_repr_d hgd (hu3 hr)) rfl B.repr (by decide +kernel) (da_cons (de_lst (da_cons (dv 2) (da_cons (dv 3) da_nil))) da_nil)))
    (dss_cons (ds_set (i := 6) sc_law.nd rfl (Or.inl rfl) (de_callH c_law_first (hr.mono (by omega)) rfl (da_cons (dv 2) da_nil)))
    (dss_cons (ds_set (i := 7) sc_law.nd rfl (Or.inl rfl) (de_callH c_initial (hr.mono (by omega)) rfl (da_cons (dv 2) da_nil)))
    (dss_cons (ds_for (vs := [8]) PassesOwn.never rfl (di_range rfl B.range (da_cons de_int da_nil)) (dg_name (i := 8) (by decide) sc_law.nd rfl (Or.inl rfl)) (dss_cons (ds_if (dt_w (dw_or (dt_not (dt_val (de_isTup B rfl rfl (dv 7)))) (dw_or1 (dt_cmp (op_ne_d (hu2 hr)) (dv 7) (de_tup (da_cons (de_ix (dv 6) de_int) (da_cons (de_ix (dv 6) de_int) (da_cons (de_ix (dv 6) de_int) (da_cons (de_ix (dv 6) de_int) da_nil))))) (nomark _))))) (dss_one (ds_ret de_bl)) dss_nil)
    (dss_cons (ds_set (i := 9) sc_law.nd rfl (Or.inl rfl) (de_callH c_redexes (hr.mono (by omega)) rfl (da_cons (dv 2) (da_cons (dv 3) (da_cons (dv 7) da_nil)))))
    (dss_cons (ds_if (dt_w (dw_or (dt_not (dt_val (de_isLst B rfl rfl (dv 9)))) (dw_or1 (dt_cmp (op_ne_d (hu2 hr)) (dv 9) (de_callH c_law_ready (hr.mono (by omega)) rfl (da_cons (dv 2) (da_cons (dv 3) (da_cons (dv 6) da_nil)))) (nomark _))))) (dss_one (ds_ret de_bl)) dss_nil)
    (dss_cons (ds_if (dt_cmp (op_eq_d (hu2 hr)) (de_callB call_len_d rfl B.len PySem.boot_len (da_cons (dv 9) da_nil)) de_int (nomark _)) (dss_one (ds_ret (de_cmp (op_eq_d (hu2 hr)) (de_callB (call_repr_d hgd (hu3 hr)) rfl B.repr (by decide +kernel) (da_cons (de_lst (da_cons (dv 2) (da_cons (dv 3) da_nil))) da_nil)) (dv 5) (nomark _)))) dss_nil)
    (dss_cons (ds_set (i := 10) sc_law.nd rfl (Or.inl rfl) (de_ix (dv 9) (de_callH c_law_choice (hr.mono (by omega)) rfl (da_cons (dv 4) (da_cons (dv 8) (da_cons (de_callB call_len_d rfl B.len PySem.boot_len (da_cons (dv 9) da_nil)) da_nil))))))
    (dss_cons (ds_expr (de_bm PySem.F.slot_list_append PySem.F.type_list_append mt_append_d (dv 9) (da_cons (de_tup (da_cons de_str (da_cons de_int da_nil))) da_nil)))
    (dss_cons (ds_set (i := 11) sc_law.nd rfl (Or.inl rfl) (de_ifExp (dt_cmp (op_eq_d (hu2 hr)) (de_op op_mod_d (de_callTy call_int_d rfl B.int (by decide +kernel) (da_cons (dv 8) da_nil)) de_int) de_int (nomark _)) (de_callB (call_repr_d hgd (hu3 hr)) rfl B.repr (by decide +kernel) (da_cons (dv 7) da_nil)) de_str))
    (dss_cons (ds_set (i := 12) sc_law.nd rfl (Or.inl rfl) (de_callH c_event (hr.mono (by omega)) rfl (da_cons (dv 2) (da_cons (dv 3) (da_cons (dv 7) (da_cons (dv 10) da_nil))))))
    (dss_cons (ds_set (i := 13) sc_law.nd rfl (Or.inl rfl) (de_callH c_perform (hr.mono (by omega)) rfl (da_cons (dv 2) (da_cons (dv 3) (da_cons (dv 7) (da_cons (dv 10) da_nil))))))
    (dss_cons (ds_if (dt_w (dw_and (dt_cmp (op_ne_d (hu2 hr)) (dv 11) de_str (nomark _)) (dw_and1 (dt_cmp (op_ne_d (hu2 hr)) (de_callB (call_repr_d hgd (hu3 hr)) rfl B.repr (by decide +kernel) (da_cons (dv 7) da_nil)) (dv 11) (nomark _))))) (dss_one (ds_ret de_bl)) dss_nil)
    (dss_cons (ds_if (dt_cmp (op_ne_d (hu2 hr)) (dv 12) (de_callH c_law_do (hr.mono (by omega)) rfl (da_cons (dv 2) (da_cons (dv 3) (da_cons (dv 6) (da_cons (dv 10) da_nil))))) (nomark _)) (dss_one (ds_ret de_bl)) dss_nil)
    (dss_one (ds_set (i := 7) sc_law.nd rfl (Or.inl rfl) (dv 13)))))))))))))))
    (dss_one (ds_ret de_bl)))))))))), ?_⟩
  rintro _ M Q ⟨scr, rfl, ns, hl, hz, h⟩
  walk_at "s0"
  walk_at "st"
  refine ⟨_, rfl, ns, hl, hz, fun sa ca M1 S1 => ?_⟩
  walk_at "st"
  refine ⟨_, _, rfl, sa, ca, 2, rfl, rfl, by decide, by decide, S1, fun i M2 _ S2 _ => ?_⟩
  walk_at "st"
  refine ⟨_, _, rfl, sa, ca, _, rfl, rfl, S2, fun co C M3 S3 => ?_⟩
  walk_at "st"
  refine ⟨_, _, rfl, sa, ca, co, C, rfl, rfl, S3, fun inp M4 I S4 => ?_⟩
  walk_at "st"
  refine ⟨_, rfl, sa, ca, rfl, S4, fun chs M5 hch => ?_⟩
  have pc : pureD (.lst [co.d, inpD inp]) = true := by
    have h1 := pure_core co
    have h2 := pure_inp inp
    simp only [pureD, pureDs, h1, h2, Bool.and_self]
  have dc : (py (.lst [co.d, inpD inp])).depth ≤ 199 := Nat.le_trans (dp_core C (inp := inp)) (by decide)
  have lc : (py (.lst [co.d, inpD inp])).shown.length ≤ sizeLine := by rw [sizeLine_eq]; exact Nat.le_trans (len_core C I) (by decide)
  walk_at "st"
  refine ⟨⟨_, .inr rfl⟩, pc, shw_core C I, dc, lc, ?_⟩
  generalize hbs : (py (.lst [co.d, inpD inp])).shown = bs
  walk_at "st"
  have C1 := C.wf
  refine ⟨_, rfl, co, _, _, _, rfl, C1, C.dep, C.cnt, C.n2, C.k2, fun a0 a1 a2 os M6 R0 => ?_⟩
  walk_at "st"
  refine ⟨_, rfl, co, _, _, _, rfl, C1, C.dep, C.cnt, C.n2, C.k2, ?_⟩
  walk_at "st"
  have hrun := run_init C I
  refine ⟨by decide, by decide, ?_⟩
  refine loop_by (fun i σ M' => ∃ s x8 x9 x10 x11 x12 x13, σ = [some scr, some (.ref sa), some co.d, some (inpD inp), some (natsD chs), some (.str bs), some (mD a0 a1 a2 os), some s.d, x8, x9, x10, x11, x12, x13] ∧
    Run (fixOf C I) 14100000 s ∧ AllS (fun s => s.dep < 60) s.thr ∧ s.meas + i ≤ 3000 ∧ MAt a0 a1 a2 os s M')
    (fun _ _ _ _ _ => trivial) ?_ ?_ ⟨init co, none, none, none, none, none, none, rfl, hrun, all_init C, by have := hrun.wf.meas; omega, R0⟩
  · rintro i d σ M' nx hd ⟨s, x8, x9, x10, x11, x12, x13, rfl, R, hall, hm, RM⟩ hnx
    have e : d = N i := by
      have h2 : (intsD 0 (3001 : Int).toNat)[i]? = some d := hd
      have hi := (List.getElem?_eq_some_iff.mp h2).1
      rw [intsD_len] at hi
      rw [intsD_map, List.getElem?_map, List.getElem?_range hi] at h2
      exact (Option.some.inj h2).symm
    subst e
    have ps := pure_sta s
    have ds := dp_sta R.wf hall
    have ds2 : (py s.d).depth ≤ 199 := Nat.le_trans ds (by decide)
    have ls : (py s.d).shown.length ≤ sizeLine := by rw [sizeLine_eq]; exact Nat.le_trans (len_sta R) (by decide)
    have ss := shw_sta R (by decide)
    walk_at "st"
    refine ⟨_, rfl, ?_⟩
    walk_at "st"
    refine ⟨_, rfl, ?_⟩
    walk_at "st"
    refine ⟨_, rfl, ?_⟩
    walk_at "st"
    refine ⟨_, rfl, ?_⟩
    walk_at "st"
    refine ⟨_, rfl, ?_⟩
    walk_at "st"
    refine ⟨_, _, dat_py _ ps, mat_dat RM, canLay_py _ ps, canLay_py _ ps, .inl ds2, ?_⟩
    simp only [if_true, eqv_self, Bool.not_true]
    walk_at "st"
    refine ⟨_, _, _, rfl, co, inp, _, fixOf C I, s, rfl, rfl, rfl, R.wf, fun p hp => ?_⟩
    have RM1 : MAt a0 a1 a2 os s (mupd M' p (.lst ((rdxs co inp s).map Rdx.d))) := RM.new hp
    walk_at "st"
    refine ⟨_, .ref mupd_same, ?_⟩
    walk_at "st"
    have pr : pureD (.lst ((rdxs co inp s).map Rdx.d)) = true := by
      simp only [pureD]
      exact pureDs_map fun r _ => pure_rdx r
    have pr2 : pureDs ((rdxs co inp s).map Rdx.d) = true := pureDs_map fun r _ => pure_rdx r
    have dr : (py (.lst ((rdxs co inp s).map Rdx.d))).depth ≤ 199 := by
      have h1 : dps ((rdxs co inp s).map Rdx.d) ≤ 1 := dps_map fun r _ => by cases r <;> exact Nat.le_refl _
      have h2 : dp (.lst ((rdxs co inp s).map Rdx.d)) ≤ 2 := by rw [dp_lst]; omega
      exact Nat.le_trans h2 (by decide)
    refine ⟨_, _, _, rfl, co, inp, _, fixOf C I, s, a0, a1, a2, os, rfl, rfl, rfl, R.wf, RM1, ?_⟩
    refine ⟨_, py (.lst ((rdxs co inp s).map Rdx.d)), .ref mupd_same (dats_py _ pr2), dat_py _ pr, canLay_py _ pr, canLay_py _ pr, .inr dr, ?_⟩
    have es : PyData.eqv (.list (pys ((rdxs co inp s).map Rdx.d))) (py (.lst ((rdxs co inp s).map Rdx.d))) = true := eqv_self (.lst ((rdxs co inp s).map Rdx.d))
    simp only [if_true, es, Bool.not_true]
    walk_at "st"
    refine ⟨_, .ref mupd_same, ?_⟩
    rw [List.length_map]
    refine iteP (fun c => ?_) (fun c => ?_)
    · walk_at "st"
      refine ⟨⟨_, .inr rfl⟩, pc, shw_core C I, dc, lc, ?_⟩
      rw [hbs]
      walk_at "st"
      refine rt_same ?_
      rw [decide_eq_true rfl]
      exact h _
    have hn : 0 < (rdxs co inp s).length := by omega
    walk_at "st"
    refine ⟨_, .ref mupd_same, ?_⟩
    rw [List.length_map]
    refine ⟨_, _, _, rfl, chs, i, (rdxs co inp s).length, rfl, rfl, rfl, hn, hch, by omega, fun j hj => ?_⟩
    have hjr := List.getElem?_eq_getElem hj
    generalize (rdxs co inp s)[j] = r at hjr
    have Rk := rdx_ok R (List.mem_of_getElem? hjr)
    obtain ⟨R2, hlt⟩ := run_perf R Rk
    have hall2 := perf_all (down_dep 60) hall Rk
    refine ⟨_, _, mupd_same, map_get hjr, ?_⟩
    walk_at "st"
    refine ⟨⟨_, .ref mupd_same⟩, ?_⟩
    walk_at "st"
    have hrl : (rdxs co inp s).length ≤ 1000000 := by
      have fl0 : ∀ l : List Nat, (l.flatMap fun t => thrRdx co inp s t).length ≤ l.length * 1000 := by
        intro l
        induction l with
        | nil => simp
        | cons a l ih =>
          have := thrRdx_len co inp (fixOf C I) s R.wf a
          rw [List.flatMap_cons, List.length_append, List.length_cons]
          omega
      have h1 := fl0 (List.range s.thr.length)
      have h2 : s.thr.length ≤ 1000 := by rw [R.wf.thr]; exact (fixOf C I).T2
      rw [List.length_range] at h1
      exact Nat.le_trans h1 (by omega)
    refine ⟨_, _, rfl, mupd_same, by rw [sizeLine_eq, List.length_map]; omega, ?_⟩
    rw [mupd_mupd]
    have RM2 : MAt a0 a1 a2 os s (mupd M' p (.lst ((rdxs co inp s).map Rdx.d ++ [.tup [.str (Str.ofString "step"), .int 0]]))) := RM.new hp
    generalize hMM : mupd M' p (.lst ((rdxs co inp s).map Rdx.d ++ [.tup [.str (Str.ofString "step"), .int 0]])) = MM at RM2 ⊢
    walk_at "st"
    refine ⟨by decide, ?_⟩
    walk_at "st"
    refine iteP (fun c => ?_) (fun c => ?_)
    · walk_at "st"
      refine ⟨⟨_, .inl rfl⟩, ps, ss, ds2, ls, ?_⟩
      generalize hsh : (py s.d).shown = sh
      walk_at "st"
      refine ⟨_, _, _, _, rfl, co, inp, _, fixOf C I, s, r, rfl, rfl, rfl, rfl, R.wf, Rk, ?_⟩
      walk_at "st"
      refine ⟨_, _, _, _, rfl, co, inp, _, fixOf C I, s, r, rfl, rfl, rfl, rfl, R.wf, Rk, ?_⟩
      walk_at "st"
      refine iteN (fun c2 => ?_) (fun c2 => ?_)
      · walk_at "st"
        refine ⟨⟨_, .inl rfl⟩, ps, ss, ds2, ls, ?_⟩
        rw [hsh]
        walk_at "st"
        refine iteN (fun c3 => absurd rfl c3) (fun c3 => ?_)
        walk_at "st"
        refine ⟨_, _, _, _, rfl, co, inp, _, fixOf C I, s, r, a0, a1, a2, os, rfl, rfl, rfl, rfl, R.wf, Rk, RM2, fun M7 RM7 => ?_⟩
        refine rNe_evnt ?_
        walk_at "st"
        exact hnx _ _ ⟨perf inp s r, _, _, _, _, _, _, rfl, R2, hall2, by omega, RM7⟩
      · walk_at "st"
        refine ⟨_, _, _, _, rfl, co, inp, _, fixOf C I, s, r, a0, a1, a2, os, rfl, rfl, rfl, rfl, R.wf, Rk, RM2, fun M7 RM7 => ?_⟩
        refine rNe_evnt ?_
        walk_at "st"
        exact hnx _ _ ⟨perf inp s r, _, _, _, _, _, _, rfl, R2, hall2, by omega, RM7⟩
    · walk_at "st"
      refine ⟨_, _, _, _, rfl, co, inp, _, fixOf C I, s, r, rfl, rfl, rfl, rfl, R.wf, Rk, ?_⟩
      walk_at "st"
      refine ⟨_, _, _, _, rfl, co, inp, _, fixOf C I, s, r, rfl, rfl, rfl, rfl, R.wf, Rk, ?_⟩
      walk_at "st"
      refine ⟨_, _, _, _, rfl, co, inp, _, fixOf C I, s, r, a0, a1, a2, os, rfl, rfl, rfl, rfl, R.wf, Rk, RM2, fun M7 RM7 => ?_⟩
      refine rNe_evnt ?_
      walk_at "st"
      exact hnx _ _ ⟨perf inp s r, _, _, _, _, _, _, rfl, R2, hall2, by omega, RM7⟩
  · rintro σ M' ⟨s, x8, x9, x10, x11, x12, x13, rfl, R, hall, hm, RM⟩
    exfalso
    rw [intsD_len] at hm
    have : (3001 : Int).toNat = 3001 := rfl
    omega
end
end Dl
namespace Dl
open PySem PySem.Spec PyProof.Rows L2 Mi
local macro_rules | `(tactic| walk_at "dl") => `(tactic| simp only [dRet, dOp, dSl, dV, dNoP, dPart, dLst, dLstM, dCons, dNil, dC, startD, rAdd, rAddM, rIx, rEq, rNe, rII, rII0, rIB0, rMul, rIsN, rNotN, isNon, dNeg, dTest, dAnd, dOr, dNot, dAndV, dOrV, dNotV, dIf, dTup, dFrz, dCB, rLen, rInt1, rAbs1, rMin2, rAll1, dBM, rApp, rExt, rPop0,
  dGet, dPut, dNext, dSeq, dDrop, dIfS, dName, dgNil, dgCons, dgTup, dAsg, dSub, rSet, dPar, dIL, dIT, dIR, dIE, dIZ, dFor, dYes, dCall, dLc, dLcM, dLcF, dPair, dGetT, dInT, dPutT, dNewT, wipeD,
  natsD, isL_lst, isL_ref, seqIn_tup, seqIn_lst, rIn, flatD, eqD, List.all_cons, List.all_nil, List.any_cons, List.any_nil, sizeLine_eq, Nat.reduceLeDiff, Nat.reduceLT, Bool.or_false, Bool.and_true, Bool.true_and, Bool.false_and, Bool.false_or, Bool.or_true, Bool.true_or, Bool.and_false, tupAt, optE, endsOf,
  List.map_cons, List.map_nil, List.length_cons, List.length_nil, List.cons_append, List.nil_append, List.append_nil, List.getElem?_cons_zero, List.getElem?_cons_succ, List.getElem?_nil, List.set_cons_zero, List.set_cons_succ, List.replicate_succ, List.replicate_zero, List.length_append, List.replicate,
  of_sE, String.reduceEq, decide_true, decide_false, Bool.false_eq_true, Bool.not_true, Bool.not_false, reduceIte, exists_eq_left, exists_eq_left', true_and, and_true, if_true, if_false, ite_true, ite_false, Nat.reduceAdd, Nat.reduceSub, Nat.reduceBEq, BEq.rfl, beq_self_eq_true, D.ref.injEq, D.int.injEq, D.str.injEq, D.lst.injEq, D.tup.injEq, List.cons.injEq, exists_and_left, exists_const, and_self])
local macro_rules | `(tactic| walk_at "s0") => `(tactic| (dsimp only [startD, List.length_cons, List.length_nil, List.map_cons, List.map_nil, List.cons_append, List.nil_append, Nat.reduceAdd, Nat.reduceSub, List.replicate_succ, List.replicate_zero]))
local macro_rules | `(tactic| walk_at "st") => `(tactic| ((conv => whnf); (try dsimp only [List.set_cons_zero, List.set_cons_succ]); repeat ((refine ⟨Nat.le_of_ble_eq_true rfl, ?_⟩); (conv => whnf); (try dsimp only [List.set_cons_zero, List.set_cons_succ]))))

section
variable {P : Program} {K : PySem.W.Frag} {mg : Str → Option Value} {w : World} {base : Heap}
/-! ### the generator: draws -/
theorem absN (c : Int) : (D.int (if c < 0 then -c else c)) = N c.natAbs := by
  show D.int _ = D.int _
  congr 1
  split <;> omega
abbrev n_law_state : List Str := ["_law_script", "_law_seed", "_law_cell"]
theorem sc_law_state : FnScope n_law_state ["_law_script"] (defScope s_law_state) := ⟨rfl, rfl, rfl, by decide +kernel, rfl, by decide +kernel, by decide +kernel⟩
/-- _law_state; slots 0 _law_script, 1 _law_seed, 2 _law_cell; cells []; calls [] -/
theorem ok_law_state (B : Bl K mg) (Tx : Txt K mg "_law_state" s_law_state) : Have P w K mg base "_law_state" ["_law_script"] 1 (spState K) := by
  refine have_of Tx sc_law_state (fun _ _ _ _ _ _ us hl => match us, hl with | [_], _ => rfl) len1 fun cdv f A outer s H E hr => ⟨_, (dss_cons (ds_set (i := 1) sc_law_state.nd rfl (Or.inl rfl) de_int)
    (dss_cons (ds_for (vs := [2]) PassesOwn.never rfl (di_scr (dv 0)) (dg_name (i := 2) (by decide) sc_law_state.nd rfl (Or.inl rfl)) (dss_one (ds_set (i := 1) sc_law_state.nd rfl (Or.inl rfl) (de_op op_mod_d (de_callTy call_int_d rfl B.int (by decide +kernel) (da_cons (de_op op_add_d (de_op op_mul_d (dv 1) de_int) (dv 2)) da_nil)) de_int))))
    (dss_one (ds_ret (de_lstM (da_cons (de_lcM (own := [("_law_cell", 2)]) rfl sc_law_state.nd (di_scr (dv 0)) (blkOk_by (N := n_law_state) (sc := defScope s_law_state) (by decide +kernel)) (fun _ _ _ _ _ => (dg_name (i := 2) (by decide) sc_law_state.nd rfl (Or.inl rfl))) (fun _ _ _ _ _ => dts_nil) (fun _ _ _ _ _ => (de_callB call_abs_d rfl B.abs (by decide +kernel) (da_cons (dv 2) da_nil)))) (da_cons (de_op op_add_d (dv 1) de_int) da_nil))))))), ?_⟩
  rintro _ M Q ⟨scr, rfl, ns, hl, hz, h⟩
  walk_at "s0"
  walk_at "st"
  refine ⟨ns, hl, ?_⟩
  refine loop_by (fun i σ M' => ∃ sd x2, σ = [some scr, some (N sd), x2] ∧ sd < 1000003 ∧ M' = M) (fun _ _ _ _ _ => trivial) ?_ ?_ ⟨7, _, rfl, by decide, rfl⟩
  · rintro i d σ M' nx hd ⟨sd, x2, rfl, hs, rfl⟩ hnx
    have e : ∃ c : Int, d = .int c := by
      obtain ⟨c, _, rfl⟩ := List.mem_map.mp (List.mem_of_getElem? hd)
      exact ⟨c, rfl⟩
    obtain ⟨c, rfl⟩ := e
    walk_at "st"
    refine ⟨.inl ⟨by omega, by omega⟩, ?_⟩
    walk_at "st"
    refine ⟨by decide, ?_⟩
    have h1 : 0 ≤ ((sd : Int) * 31 + c).fmod 1000003 := Int.fmod_nonneg_of_pos _ (by decide)
    have h2 : ((sd : Int) * 31 + c).fmod 1000003 < 1000003 := Int.fmod_lt_of_pos _ (by decide)
    refine hnx _ _ ⟨(((sd : Int) * 31 + c).fmod 1000003).toNat, some (.int c), ?_, by omega, rfl⟩
    have e2 : (N (((sd : Int) * 31 + c).fmod 1000003).toNat) = .int (((sd : Int) * 31 + c).fmod 1000003) := by
      show D.int _ = D.int _
      rw [Int.toNat_of_nonneg h1]
    rw [e2]
    rfl
  · rintro σ M' ⟨sd, x2, rfl, hs, rfl⟩
    walk_at "st"
    refine ⟨ns, hl, ?_⟩
    intro ca hca
    refine lc_map (G := fun _ => True) ns D.int (fun _ => true) (fun c => N c.natAbs) (by rw [sizeLine_eq]; omega) (by exact fun _ => trivial) (fun r hr' acc Ky Kn hh => ?_) ?_
    · walk_at "st"
      rw [absN]
      exact hh
    rw [filter_all]
    walk_at "st"
    intro sa hsa
    have ne : sa ≠ ca := fun z => by rw [z, mupd_same] at hsa; cases hsa
    refine rt_same (h sa ca _ ⟨⟨ns.map Int.natAbs, sd + 1, by rw [mupd_same]; rfl, ?_⟩, ne⟩)
    rw [mupd_ne (Ne.symm ne), mupd_same, List.map_map]
    rfl
abbrev n_law_draw : List Str := ["_law_state_here", "_law_many_here", "_law_cells", "_law_number_here", "_law_mixed"]
theorem sc_law_draw : FnScope n_law_draw ["_law_state_here", "_law_many_here"] (defScope s_law_draw) := ⟨rfl, rfl, rfl, by decide +kernel, rfl, by decide +kernel, by decide +kernel⟩
/-- _law_draw; slots 0 _law_state_here, 1 _law_many_here, 2 _law_cells, 3 _law_number_here, 4 _law_mixed; cells []; calls [] -/
theorem ok_law_draw (B : Bl K mg) (Tx : Txt K mg "_law_draw" s_law_draw) : Have P w K mg base "_law_draw" ["_law_state_here", "_law_many_here"] 1 spDraw := by
  refine have_of Tx sc_law_draw (fun _ _ _ _ _ _ us hl => match us, hl with | [_, _], _ => rfl) len2 fun cdv f A outer s H E hr => ⟨_, (dss_cons (ds_set (i := 2) sc_law_draw.nd rfl (Or.inl rfl) (de_ix (dv 0) de_int))
    (dss_cons (ds_while PassesOwn.never (dt_w (dw_and (dt_cmp op_gt_d (de_callB call_len_d rfl B.len PySem.boot_len (da_cons (dv 2) da_nil)) de_int (nomark _)) (dw_and1 (dt_cmp (op_eq_d (hu2 hr)) (de_ix (dv 2) de_int) de_int (nomark _))))) (dss_one (ds_expr (de_bm PySem.F.slot_list_pop PySem.F.type_list_pop mt_pop0_d (dv 2) (da_cons de_int da_nil)))))
    (dss_cons (ds_if (dt_cmp op_gt_d (de_callB call_len_d rfl B.len PySem.boot_len (da_cons (dv 2) da_nil)) de_int (nomark _)) (dss_cons (ds_set (i := 3) sc_law_draw.nd rfl (Or.inl rfl) (de_ix (dv 2) de_int))
    (dss_cons (ds_asg (vs := []) (de_op op_fdiv_d (dv 3) (dv 1)) (dg_sub (dv 2) de_int))
    (dss_one (ds_ret (de_op op_mod_d (de_callTy call_int_d rfl B.int (by decide +kernel) (da_cons (dv 3) da_nil)) (dv 1)))))) dss_nil)
    (dss_cons (ds_set (i := 4) sc_law_draw.nd rfl (Or.inl rfl) (de_op op_mod_d (de_callTy call_int_d rfl B.int (by decide +kernel) (da_cons (de_op op_add_d (de_op op_mul_d (de_ix (dv 0) de_int) de_int) de_int) da_nil)) de_int))
    (dss_cons (ds_asg (vs := []) (dv 4) (dg_sub (dv 0) de_int))
    (dss_one (ds_ret (de_op op_mod_d (de_callTy call_int_d rfl B.int (by decide +kernel) (da_cons (de_op op_fdiv_d (dv 4) de_int) da_nil)) (dv 1))))))))), ?_⟩
  rintro _ M Q ⟨_, _, rfl, sa, ca, n, rfl, rfl, hn, hn2, S, h⟩
  obtain ⟨⟨cells, seed, m1, m2⟩, ne⟩ := S
  walk_at "s0"
  walk_at "st"
  refine ⟨_, _, m1, rfl, ?_⟩
  walk_at "st"
  refine ⟨fun m σ M' => ∃ cells : List Nat, m = cells.length ∧ σ = [some (.ref sa), some (N n), some (.ref ca), none, none] ∧ M' sa = some (.lst [.ref ca, N seed]) ∧ M' ca = some (.lst (cells.map N)) ∧ Fr2 sa ca M M', ⟨_, cells, rfl, rfl, m1, m2, fun _ _ _ _ e => e⟩, ?_⟩
  rintro m σ M' ⟨cells, rfl, rfl, m1, m2, fr⟩
  cases cells with
  | nil =>
    walk_at "st"
    refine ⟨_, .ref m2, ?_⟩
    walk_at "st"
    refine ⟨_, .ref m2, ?_⟩
    walk_at "st"
    refine ⟨_, _, m1, rfl, ?_⟩
    walk_at "st"
    refine ⟨.inr ⟨by decide, by decide⟩, ?_⟩
    walk_at "st"
    refine ⟨by decide, ?_⟩
    walk_at "st"
    have h1 : 0 ≤ ((seed : Int) * 48271 + 12345).fmod 2147483647 := Int.fmod_nonneg_of_pos _ (by decide)
    obtain ⟨mx, hmx⟩ : ∃ mx : Nat, ((seed : Int) * 48271 + 12345).fmod 2147483647 = (mx : Int) := ⟨_, (Int.toNat_of_nonneg h1).symm⟩
    rw [hmx]
    refine ⟨_, _, _, 1, rfl, rfl, m1, rfl, ?_⟩
    walk_at "st"
    refine ⟨⟨by decide, by decide⟩, ?_⟩
    walk_at "st"
    refine ⟨by omega, ?_⟩
    have e1 : ((mx : Int).fdiv 64) = ((mx / 64 : Nat) : Int) := by rw [Int.fdiv_eq_ediv_of_nonneg _ (by decide)]; rfl
    have e2 : (((mx / 64 : Nat) : Int)).fmod (n : Int) = ((mx / 64 % n : Nat) : Int) := by rw [Int.fmod_eq_emod_of_nonneg _ (by omega), Int.natCast_emod]
    rw [e1, e2]
    refine rt_same (h _ _ (Nat.mod_lt _ hn) ⟨⟨[], mx, by rw [mupd_same], by rw [mupd_ne (Ne.symm ne)]; exact m2⟩, ne⟩ fun x mo n1 n2 e => ?_)
    rw [mupd_ne n1]
    exact fr x mo n1 n2 e
  | cons c cs =>
    walk_at "st"
    refine ⟨_, .ref m2, ?_⟩
    refine iteP (fun _ => ?_) (fun z => absurd (by simp only [List.length_map, List.length_cons]; omega) z)
    walk_at "st"
    refine ⟨_, _, m2, at0 _ _, ?_⟩
    walk_at "st"
    refine iteP (fun hc => ?_) (fun hc => ?_)
    · walk_at "st"
      refine ⟨⟨_, .ref m2⟩, ?_⟩
      walk_at "st"
      refine ⟨_, _, _, rfl, rfl, m2, ?_⟩
      refine ⟨cs.length, by simp, cs, rfl, rfl, by rw [mupd_ne ne]; exact m1, mupd_same, fun x mo n1 n2 e => ?_⟩
      rw [mupd_ne n2]
      exact fr x mo n1 n2 e
    · walk_at "st"
      refine ⟨_, .ref m2, ?_⟩
      refine iteP (fun _ => ?_) (fun z => absurd (by simp only [List.length_map, List.length_cons]; omega) z)
      walk_at "st"
      refine ⟨_, _, m2, at0 _ _, ?_⟩
      walk_at "st"
      refine ⟨⟨by omega, by omega⟩, ?_⟩
      have e1 : ((c : Int).fdiv (n : Int)) = ((c / n : Nat) : Int) := by rw [Int.fdiv_eq_ediv_of_nonneg _ (by omega)]; rfl
      have e2 : ((c : Int)).fmod (n : Int) = ((c % n : Nat) : Int) := by rw [Int.fmod_eq_emod_of_nonneg _ (by omega), Int.natCast_emod]
      rw [e1]
      walk_at "st"
      refine ⟨_, _, _, 0, rfl, rfl, m2, ixN_nat (t := 0) (Nat.succ_pos _), ?_⟩
      walk_at "st"
      refine ⟨by omega, ?_⟩
      rw [e2]
      refine rt_same (h _ _ (Nat.mod_lt _ hn) ⟨⟨c / n :: cs, seed, by rw [mupd_ne ne]; exact m1, mupd_same⟩, ne⟩ fun x mo n1 n2 e => ?_)
      rw [mupd_ne n2]
      exact fr x mo n1 n2 e
abbrev n_law_pick : List Str := ["_law_state_here", "_law_row"]
theorem sc_law_pick : FnScope n_law_pick ["_law_state_here", "_law_row"] (defScope s_law_pick) := ⟨rfl, rfl, rfl, by decide +kernel, rfl, by decide +kernel, by decide +kernel⟩
/-- _law_pick; slots 0 _law_state_here, 1 _law_row; cells []; calls ['_law_draw'] -/
def spPick : SpD := sp2 fun a b M Q => ∃ (sa ca : Addr) (ds : List D), a = .ref sa ∧ (b = .lst ds ∨ ∃ x, b = .ref x ∧ x ≠ sa ∧ x ≠ ca ∧ M x = some (.lst ds)) ∧ 0 < ds.length ∧ ds.length ≤ 1000000 ∧ StAt sa ca M ∧ ∀ d M', d ∈ ds → StAt sa ca M' → Fr2 sa ca M M' → Q d M'
theorem ok_law_pick (B : Bl K mg) (Tx : Txt K mg "_law_pick" s_law_pick) (c_law_draw : Have P w K mg base "_law_draw" ["_law_state_here", "_law_many_here"] 1 spDraw) : Have P w K mg base "_law_pick" ["_law_state_here", "_law_row"] 2 spPick := by
  refine have_of Tx sc_law_pick (fun _ _ _ _ _ _ us hl => match us, hl with | [_, _], _ => rfl) len2 fun cdv f A outer s H E hr => ⟨_, (dss_one (ds_ret (de_ix (dv 1) (de_callH c_law_draw (hr.mono (by omega)) rfl (da_cons (dv 0) (da_cons (de_callB call_len_d rfl B.len PySem.boot_len (da_cons (dv 1) da_nil)) da_nil)))))), ?_⟩
  rintro _ M Q ⟨_, _, rfl, sa, ca, ds, rfl, hb, hn, hn2, S, h⟩
  have go : ∀ i M', i < ds.length → StAt sa ca M' → Fr2 sa ca M M' → ∃ d, atI ds (i : Int) = some d ∧ Q d M' := fun i M' hi S' fr =>
    ⟨_, atI_nat (List.getElem?_eq_getElem hi), h _ _ (List.getElem_mem hi) S' fr⟩
  rcases hb with rfl | ⟨x, rfl, n1, n2, hx⟩
  · walk_at "s0"
    walk_at "st"
    refine ⟨_, .lst, ?_⟩
    refine ⟨_, _, rfl, sa, ca, ds.length, rfl, rfl, hn, hn2, S, fun i M' hi S' fr => ?_⟩
    obtain ⟨d, e, q⟩ := go i M' hi S' fr
    exact ⟨d, e, rt_same q⟩
  · walk_at "s0"
    walk_at "st"
    refine ⟨_, .ref hx, ?_⟩
    refine ⟨_, _, rfl, sa, ca, ds.length, rfl, rfl, hn, hn2, S, fun i M' hi S' fr => ?_⟩
    obtain ⟨d, e, q⟩ := go i M' hi S' fr
    exact ⟨_, d, fr x _ n1 n2 hx, e, rt_same q⟩
end
end Dl
namespace Dl
open PySem PySem.Spec PyProof.Rows L2 Mi
local macro_rules | `(tactic| walk_at "dl") => `(tactic| simp only [dRet, dOp, dSl, dV, dNoP, dPart, dLst, dLstM, dCons, dNil, dC, startD, rAdd, rAddM, rIx, rEq, rNe, rII, rII0, rIB0, rMul, rIsN, rNotN, isNon, dNeg, dTest, dAnd, dOr, dNot, dAndV, dOrV, dNotV, dIf, dTup, dFrz, dCB, rLen, rInt1, rAbs1, rMin2, rAll1, dBM, rApp, rExt, rPop0,
  dGet, dPut, dNext, dSeq, dDrop, dIfS, dName, dgNil, dgCons, dgTup, dAsg, dSub, rSet, dPar, dIL, dIT, dIR, dIE, dIZ, dFor, dYes, dCall, dLc, dLcM, dLcF, dPair, dGetT, dInT, dPutT, dNewT, wipeD,
  natsD, isL_lst, isL_ref, seqIn_tup, seqIn_lst, rIn, flatD, eqD, List.all_cons, List.all_nil, List.any_cons, List.any_nil, sizeLine_eq, Nat.reduceLeDiff, Nat.reduceLT, Bool.or_false, Bool.and_true, Bool.true_and, Bool.false_and, Bool.false_or, Bool.or_true, Bool.true_or, Bool.and_false, tupAt, optE, endsOf,
  List.map_cons, List.map_nil, List.length_cons, List.length_nil, List.cons_append, List.nil_append, List.append_nil, List.getElem?_cons_zero, List.getElem?_cons_succ, List.getElem?_nil, List.set_cons_zero, List.set_cons_succ, List.replicate_succ, List.replicate_zero, List.length_append, List.replicate,
  of_sE, String.reduceEq, decide_true, decide_false, Bool.false_eq_true, Bool.not_true, Bool.not_false, reduceIte, exists_eq_left, exists_eq_left', true_and, and_true, if_true, if_false, ite_true, ite_false, Nat.reduceAdd, Nat.reduceSub, Nat.reduceBEq, BEq.rfl, beq_self_eq_true, D.ref.injEq, D.int.injEq, D.str.injEq, D.lst.injEq, D.tup.injEq, List.cons.injEq, exists_and_left, exists_const, and_self])
local macro_rules | `(tactic| walk_at "s0") => `(tactic| (dsimp only [startD, List.length_cons, List.length_nil, List.map_cons, List.map_nil, List.cons_append, List.nil_append, Nat.reduceAdd, Nat.reduceSub, List.replicate_succ, List.replicate_zero]))
local macro_rules | `(tactic| walk_at "st") => `(tactic| ((conv => whnf); (try dsimp only [List.set_cons_zero, List.set_cons_succ]); repeat ((refine ⟨Nat.le_of_ble_eq_true rfl, ?_⟩); (conv => whnf); (try dsimp only [List.set_cons_zero, List.set_cons_succ]))))

section
variable {P : Program} {K : PySem.W.Frag} {mg : Str → Option Value} {w : World} {base : Heap}
/-! ### the generator: expressions and plain statements -/
def LstAt (R : List Addr) (M : Mh) (x : D) (ds : List D) : Prop := x = .lst ds ∨ ∃ a, x = .ref a ∧ a ∉ R ∧ M a = some (.lst ds)
structure Ev where
  xc : D
  xr : D
  xs : D
  xg : D
  xt : D
  cs : List Nat
  rs : List Nat
  sp : List (Nat × Nat)
  gs : List Nat
  ts : List Nat
def Ev.kvs (v : Ev) : List (Key × D) := [(.inr (Str.ofString "cells"), v.xc), (.inr (Str.ofString "reads"), v.xr), (.inr (Str.ofString "spans"), v.xs), (.inr (Str.ofString "gives"), v.xg), (.inr (Str.ofString "takes"), v.xt)]
def spanD (p : Nat × Nat) : D := .tup [N p.1, N p.2]
structure EnvAt (R : List Addr) (M : Mh) (ea : Addr) (v : Ev) : Prop where
  rc : M ea = some (.dK v.kvs)
  nr : ea ∉ R
  c : LstAt R M v.xc (v.cs.map N)
  r : LstAt R M v.xr (v.rs.map N)
  s : LstAt R M v.xs (v.sp.map spanD)
  g : LstAt R M v.xg (v.gs.map N)
  t : LstAt R M v.xt (v.ts.map N)
structure Ev.ok (v : Ev) (n C : Nat) : Prop where
  c0 : v.cs ≠ []
  c : ∀ x ∈ v.cs, x < n
  r : ∀ x ∈ v.rs, x < n
  r0 : v.rs ≠ []
  s : ∀ p ∈ v.sp, p.1 + p.2 ≤ n ∧ p.2 ≤ 1000
  g : ∀ x ∈ v.gs, x < C
  t : ∀ x ∈ v.ts, x < C
  lc : v.cs.length ≤ 1000000
  lr : v.rs.length ≤ 1000000
  ls : v.sp.length ≤ 1000000
  lg : v.gs.length ≤ 1000000
  lt : v.ts.length ≤ 1000000
  n2 : n ≤ 1000
section
variable {R : List Addr} {M M' : Mh} {sa ca ea : Addr} {v : Ev}
theorem LstAt.fr {x : D} {ds : List D} (h : LstAt R M x ds) (hs : sa ∈ R) (hc : ca ∈ R) (f : Fr2 sa ca M M') : LstAt R M' x ds := by
  rcases h with h | ⟨a, e, n, h⟩
  · exact .inl h
  · exact .inr ⟨a, e, n, f a _ (fun z => n (z ▸ hs)) (fun z => n (z ▸ hc)) h⟩
theorem EnvAt.fr (E : EnvAt R M ea v) (hs : sa ∈ R) (hc : ca ∈ R) (f : Fr2 sa ca M M') : EnvAt R M' ea v :=
  ⟨f ea _ (fun z => E.nr (z ▸ hs)) (fun z => E.nr (z ▸ hc)) E.rc, E.nr, E.c.fr hs hc f, E.r.fr hs hc f, E.s.fr hs hc f, E.g.fr hs hc f, E.t.fr hs hc f⟩
theorem LstAt.isL {x : D} {ds : List D} (h : LstAt R M x ds) : IsL M x ds := by
  rcases h with h | ⟨a, e, n, h⟩
  · rw [h]; exact .lst
  · rw [e]; exact .ref h
theorem LstAt.pick {x : D} {ds : List D} (h : LstAt R M x ds) (hs : sa ∈ R) (hc : ca ∈ R) : x = .lst ds ∨ ∃ a, x = .ref a ∧ a ≠ sa ∧ a ≠ ca ∧ M a = some (.lst ds) := by
  rcases h with h | ⟨a, e, n, h⟩
  · exact .inl h
  · exact .inr ⟨a, e, fun z => n (z ▸ hs), fun z => n (z ▸ hc), h⟩
theorem Fr2.trans {M1 M2 M3 : Mh} (a : Fr2 sa ca M1 M2) (b : Fr2 sa ca M2 M3) : Fr2 sa ca M1 M3 := fun x mo n1 n2 e => b x mo n1 n2 (a x mo n1 n2 e)
theorem Fr2.refl {M1 : Mh} : Fr2 sa ca M1 M1 := fun _ _ _ _ e => e
end
theorem len2_le {x : String} (h : len (S x) ≤ 9) {n : Nat} (hn : n < 100000) : len (.tup [S x, N n]) ≤ 22 := by
  have h1 := len_tup [S x, N n]
  have h2 := len_N hn
  simp only [lens] at h1
  omega
def spNumber : SpD := sp1 fun a M Q => ∃ (sa ca : Addr), a = .ref sa ∧ StAt sa ca M ∧ ∀ k M', k < 65536 → StAt sa ca M' → Fr2 sa ca M M' → Q (Exp.num k).d M'
abbrev n_law_number : List Str := ["_law_state_here"]
theorem sc_law_number : FnScope n_law_number ["_law_state_here"] (defScope s_law_number) := ⟨rfl, rfl, rfl, by decide +kernel, rfl, by decide +kernel, by decide +kernel⟩
/-- _law_number; slots 0 _law_state_here; cells []; calls ['_law_pick', '_law_draw'] -/
theorem ok_law_number (B : Bl K mg) (Tx : Txt K mg "_law_number" s_law_number) (c_law_draw : Have P w K mg base "_law_draw" ["_law_state_here", "_law_many_here"] 1 spDraw) (c_law_pick : Have P w K mg base "_law_pick" ["_law_state_here", "_law_row"] 2 spPick) : Have P w K mg base "_law_number" ["_law_state_here"] 3 spNumber := by
  refine have_of Tx sc_law_number (fun _ _ _ _ _ _ us hl => match us, hl with | [_], _ => rfl) len1 fun cdv f A outer s H E hr => ⟨_, (dss_one (ds_ret (de_tup (da_cons de_str (da_cons (de_callH c_law_pick (hr.mono (by omega)) rfl (da_cons (dv 0) (da_cons (de_lst (da_cons de_int (da_cons de_int (da_cons de_int (da_cons de_int (da_cons (de_callH c_law_draw (hr.mono (by omega)) rfl (da_cons (dv 0) (da_cons de_int da_nil))) (da_cons de_int (da_cons (de_callH c_law_draw (hr.mono (by omega)) rfl (da_cons (dv 0) (da_cons de_int da_nil))) da_nil)))))))) da_nil))) da_nil))))), ?_⟩
  rintro _ M Q ⟨_, rfl, sa, ca, rfl, S0, h⟩
  walk_at "s0"
  walk_at "st"
  refine ⟨_, _, rfl, sa, ca, 10, rfl, rfl, by decide, by decide, S0, fun i M1 hi S1 f1 => ?_⟩
  walk_at "st"
  refine ⟨_, _, rfl, sa, ca, 65536, rfl, rfl, by decide, by decide, S1, fun j M2 hj S2 f2 => ?_⟩
  walk_at "st"
  refine ⟨_, _, rfl, sa, ca, [N 0, N 1, N 2, N 3, N i, N 65535, N j], rfl, .inl rfl, Nat.succ_pos _, Nat.le_of_ble_eq_true rfl, S2, fun d M3 hd S3 f3 => ?_⟩
  obtain ⟨k, hk, rfl⟩ : ∃ k, k < 65536 ∧ d = N k := by
    simp only [List.mem_cons, List.not_mem_nil, or_false] at hd
    rcases hd with rfl | rfl | rfl | rfl | rfl | rfl | rfl
    · exact ⟨0, by decide, rfl⟩
    · exact ⟨1, by decide, rfl⟩
    · exact ⟨2, by decide, rfl⟩
    · exact ⟨3, by decide, rfl⟩
    · exact ⟨i, by omega, rfl⟩
    · exact ⟨65535, by decide, rfl⟩
    · exact ⟨j, hj, rfl⟩
  walk_at "st"
  exact rt_same (h k _ hk S3 ((f1.trans f2).trans f3))
def spOp : SpD := sp1 fun a M Q => ∃ (sa ca : Addr), a = .ref sa ∧ StAt sa ca M ∧ ∀ (o : Bop) M', StAt sa ca M' → Fr2 sa ca M M' → Q (S o.nm) M'
abbrev n_law_operator : List Str := ["_law_state_here"]
theorem sc_law_operator : FnScope n_law_operator ["_law_state_here"] (defScope s_law_operator) := ⟨rfl, rfl, rfl, by decide +kernel, rfl, by decide +kernel, by decide +kernel⟩
/-- _law_operator; slots 0 _law_state_here; cells []; calls ['_law_pick'] -/
theorem ok_law_operator (B : Bl K mg) (Tx : Txt K mg "_law_operator" s_law_operator) (c_law_pick : Have P w K mg base "_law_pick" ["_law_state_here", "_law_row"] 2 spPick) : Have P w K mg base "_law_operator" ["_law_state_here"] 3 spOp := by
  refine have_of Tx sc_law_operator (fun _ _ _ _ _ _ us hl => match us, hl with | [_], _ => rfl) len1 fun cdv f A outer s H E hr => ⟨_, (dss_one (ds_ret (de_callH c_law_pick (hr.mono (by omega)) rfl (da_cons (dv 0) (da_cons (de_lst (da_cons de_str (da_cons de_str (da_cons de_str (da_cons de_str (da_cons de_str (da_cons de_str (da_cons de_str (da_cons de_str (da_cons de_str (da_cons de_str (da_cons de_str (da_cons de_str (da_cons (de_callH c_law_pick (hr.mono (by omega)) rfl (da_cons (dv 0) (da_cons (de_lst (da_cons de_str (da_cons de_str da_nil))) da_nil))) da_nil)))))))))))))) da_nil))))), ?_⟩
  rintro _ M Q ⟨_, rfl, sa, ca, rfl, S0, h⟩
  walk_at "s0"
  walk_at "st"
  refine ⟨_, _, rfl, sa, ca, [S "/", S "mod"], rfl, .inl rfl, by decide, by decide, S0, fun d M1 hd S1 f1 => ?_⟩
  obtain ⟨o1, rfl⟩ : ∃ o : Bop, d = S o.nm := by
    simp only [List.mem_cons, List.not_mem_nil, or_false] at hd
    rcases hd with rfl | rfl
    · exact ⟨.div, rfl⟩
    · exact ⟨.mod, rfl⟩
  walk_at "st"
  refine ⟨_, _, rfl, sa, ca, [S "+", S "-", S "*", S "+", S "-", S "and", S "or", S "==", S "!=", S "<", S "<=", S "+", S o1.nm], rfl, .inl rfl, by simp, by simp, S1, fun d M2 hd S2 f2 => ?_⟩
  obtain ⟨o2, rfl⟩ : ∃ o : Bop, d = S o.nm := by
    simp only [List.mem_cons, List.not_mem_nil, or_false] at hd
    rcases hd with rfl | rfl | rfl | rfl | rfl | rfl | rfl | rfl | rfl | rfl | rfl | rfl | rfl
    · exact ⟨.add, rfl⟩
    · exact ⟨.sub, rfl⟩
    · exact ⟨.mul, rfl⟩
    · exact ⟨.add, rfl⟩
    · exact ⟨.sub, rfl⟩
    · exact ⟨.and, rfl⟩
    · exact ⟨.or, rfl⟩
    · exact ⟨.eq, rfl⟩
    · exact ⟨.ne, rfl⟩
    · exact ⟨.lt, rfl⟩
    · exact ⟨.le, rfl⟩
    · exact ⟨.add, rfl⟩
    · exact ⟨o1, rfl⟩
  exact rt_same (h o2 _ S2 (f1.trans f2))
def EOk (n d l : Nat) (e : Exp) : Prop := e.ok n ∧ e.dep ≤ d ∧ len e.d ≤ l
def spIndex : SpD := sp3 fun a b c M Q => ∃ (sa ca ea : Addr) (R : List Addr) (v : Ev) (n C z : Nat), a = .ref sa ∧ b = .ref ea ∧ c = N z ∧ z ≤ 1000 ∧ StAt sa ca M ∧ sa ∈ R ∧ ca ∈ R ∧ EnvAt R M ea v ∧ v.ok n C ∧
  ∀ e M', EOk n 1 64 e → StAt sa ca M' → Fr2 sa ca M M' → Q e.d M'
theorem mem_N {l : List Nat} {d : D} (h : d ∈ l.map N) : ∃ k, k ∈ l ∧ d = N k := by
  obtain ⟨k, hk, rfl⟩ := List.mem_map.mp h
  exact ⟨k, hk, rfl⟩
abbrev n_law_index : List Str := ["_law_state_here", "_law_env_here", "_law_size", "_law_cell"]
theorem sc_law_index : FnScope n_law_index ["_law_state_here", "_law_env_here", "_law_size"] (defScope s_law_index) := ⟨rfl, rfl, rfl, by decide +kernel, rfl, by decide +kernel, by decide +kernel⟩
/-- _law_index; slots 0 _law_state_here, 1 _law_env_here, 2 _law_size, 3 _law_cell; cells []; calls ['_law_draw', '_law_pick'] -/
theorem ok_law_index (B : Bl K mg) (Tx : Txt K mg "_law_index" s_law_index) (c_law_draw : Have P w K mg base "_law_draw" ["_law_state_here", "_law_many_here"] 1 spDraw) (c_law_pick : Have P w K mg base "_law_pick" ["_law_state_here", "_law_row"] 2 spPick) : Have P w K mg base "_law_index" ["_law_state_here", "_law_env_here", "_law_size"] 3 spIndex := by
  refine have_of Tx sc_law_index (fun _ _ _ _ _ _ us hl => match us, hl with | [_, _, _], _ => rfl) len3 fun cdv f A outer s H E hr => ⟨_, (dss_cons (ds_set (i := 3) sc_law_index.nd rfl (Or.inl rfl) (de_tup (da_cons de_str (da_cons (de_callH c_law_pick (hr.mono (by omega)) rfl (da_cons (dv 0) (da_cons (de_dget (hu_of hr) (dv 1) (fun _ _ => rfl)) da_nil))) da_nil))))
    (dss_one (ds_ret (de_ifExp (dt_cmp (op_eq_d (hu2 hr)) (de_callH c_law_draw (hr.mono (by omega)) rfl (da_cons (dv 0) (da_cons de_int da_nil))) de_int (nomark _)) (dv 3) (de_tup (da_cons de_str (da_cons (dv 3) (da_cons (de_tup (da_cons de_str (da_cons (dv 2) da_nil))) da_nil)))))))), ?_⟩
  rintro _ M Q ⟨_, _, _, rfl, sa, ca, ea, R, v, n, C, z, rfl, rfl, rfl, hz, S0, hs, hc, E0, V, h⟩
  walk_at "s0"
  walk_at "st"
  refine ⟨_, _, _, rfl, E0.rc, rfl, ?_⟩
  have hl : 0 < (v.rs.map N).length := by
    have := V.r0
    cases e : v.rs with
    | nil => exact absurd e this
    | cons _ _ => simp
  refine ⟨_, _, rfl, sa, ca, v.rs.map N, rfl, E0.r.pick hs hc, hl, by rw [List.length_map]; have := V.lr; omega, S0, fun d M1 hd S1 f1 => ?_⟩
  obtain ⟨k, hk, rfl⟩ := mem_N hd
  have hkn := V.r k hk
  have hn := V.n2
  walk_at "st"
  refine ⟨_, _, rfl, sa, ca, 8, rfl, rfl, by decide, by decide, S1, fun i M2 hi S2 f2 => ?_⟩
  have l1 : len (Exp.cell k).d ≤ 22 := len2_le tag_le (by omega)
  have l2 : len (Exp.num z).d ≤ 22 := len2_le tag_le (by omega)
  walk_at "st"
  refine iteP (fun c => ?_) (fun c => ?_)
  · walk_at "st"
    exact rt_same (h (.cell k) _ ⟨hkn, Nat.zero_le _, by omega⟩ S2 (f1.trans f2))
  · walk_at "st"
    refine rt_same (h (.bin .mod (.cell k) (.num z)) _ ⟨⟨hkn, by show z < 65536; omega⟩, Nat.le_refl _, ?_⟩ S2 (f1.trans f2))
    have l3 := len_tup [S "mod", (Exp.cell k).d, (Exp.num z).d]
    have l4 : len (S "mod") ≤ 9 := tag_le
    simp only [lens] at l3
    show len (.tup [S "mod", (Exp.cell k).d, (Exp.num z).d]) ≤ 64
    omega
end
end Dl
namespace Dl
open PySem PySem.Spec PyProof.Rows L2 Mi
local macro_rules | `(tactic| walk_at "dl") => `(tactic| simp only [dRet, dOp, dSl, dV, dNoP, dPart, dLst, dLstM, dCons, dNil, dC, startD, rAdd, rAddM, rIx, rEq, rNe, rII, rII0, rIB0, rMul, rIsN, rNotN, isNon, dNeg, dTest, dAnd, dOr, dNot, dAndV, dOrV, dNotV, dIf, dTup, dFrz, dCB, rLen, rInt1, rAbs1, rMin2, rAll1, dBM, rApp, rExt, rPop0,
  dGet, dPut, dNext, dSeq, dDrop, dIfS, dName, dgNil, dgCons, dgTup, dAsg, dSub, rSet, dPar, dIL, dIT, dIR, dIE, dIZ, dFor, dYes, dCall, dLc, dLcM, dLcF, dPair, dGetT, dInT, dPutT, dNewT, wipeD,
  natsD, isL_lst, isL_ref, seqIn_tup, seqIn_lst, rIn, flatD, eqD, List.all_cons, List.all_nil, List.any_cons, List.any_nil, sizeLine_eq, Nat.reduceLeDiff, Nat.reduceLT, Bool.or_false, Bool.and_true, Bool.true_and, Bool.false_and, Bool.false_or, Bool.or_true, Bool.true_or, Bool.and_false, tupAt, optE, endsOf,
  List.map_cons, List.map_nil, List.length_cons, List.length_nil, List.cons_append, List.nil_append, List.append_nil, List.getElem?_cons_zero, List.getElem?_cons_succ, List.getElem?_nil, List.set_cons_zero, List.set_cons_succ, List.replicate_succ, List.replicate_zero, List.length_append, List.replicate,
  of_sE, String.reduceEq, decide_true, decide_false, Bool.false_eq_true, Bool.not_true, Bool.not_false, reduceIte, exists_eq_left, exists_eq_left', true_and, and_true, if_true, if_false, ite_true, ite_false, Nat.reduceAdd, Nat.reduceSub, Nat.reduceBEq, BEq.rfl, beq_self_eq_true, D.ref.injEq, D.int.injEq, D.str.injEq, D.lst.injEq, D.tup.injEq, List.cons.injEq, exists_and_left, exists_const, and_self])
local macro_rules | `(tactic| walk_at "s0") => `(tactic| (dsimp only [startD, List.length_cons, List.length_nil, List.map_cons, List.map_nil, List.cons_append, List.nil_append, Nat.reduceAdd, Nat.reduceSub, List.replicate_succ, List.replicate_zero]))
local macro_rules | `(tactic| walk_at "st") => `(tactic| ((conv => whnf); (try dsimp only [List.set_cons_zero, List.set_cons_succ]); repeat ((refine ⟨Nat.le_of_ble_eq_true rfl, ?_⟩); (conv => whnf); (try dsimp only [List.set_cons_zero, List.set_cons_succ]))))

section
variable {P : Program} {K : PySem.W.Frag} {mg : Str → Option Value} {w : World} {base : Heap}
def spEnvE (p : Nat → Exp → Prop) : SpD := sp2 fun a b M Q => ∃ (sa ca ea : Addr) (R : List Addr) (v : Ev) (n C : Nat), a = .ref sa ∧ b = .ref ea ∧ StAt sa ca M ∧ sa ∈ R ∧ ca ∈ R ∧ EnvAt R M ea v ∧ v.ok n C ∧
  ∀ e M', p n e → StAt sa ca M' → Fr2 sa ca M M' → Q e.d M'
theorem mem_span {l : List (Nat × Nat)} {d : D} (h : d ∈ l.map spanD) : ∃ p, p ∈ l ∧ d = spanD p := by
  obtain ⟨k, hk, rfl⟩ := List.mem_map.mp h
  exact ⟨k, hk, rfl⟩
theorem pos_map {α : Type} {f : α → D} {l : List α} (h : l ≠ []) : 0 < (l.map f).length := by
  cases l with
  | nil => exact absurd rfl h
  | cons _ _ => simp
theorem len_idx {f z : Nat} {e : Exp} {b : Nat} (hf : f < 100000) (hz : z < 100000) (he : len e.d ≤ b) : len (Exp.idx f z e).d ≤ b + 34 := by
  have h := len_tup [S "at", N f, N z, e.d]
  have h1 : len (S "at") ≤ 9 := tag_le
  have h2 := len_N hf
  have h3 := len_N hz
  simp only [lens] at h
  show len (.tup [S "at", N f, N z, e.d]) ≤ _
  omega
theorem rLen_at {R : List Addr} {M : Mh} {x : D} {ds : List D} {Q : KD} (h : LstAt R M x ds) (q : Q (.int ds.length) M) : rLen [x] M Q := by
  rcases h with rfl | ⟨a, rfl, _, e⟩
  · exact ⟨ds, .lst, q⟩
  · exact ⟨ds, .ref e, q⟩
abbrev n_law_read : List Str := ["_law_state_here", "_law_env_here", "_law_first_here", "_law_size"]
theorem sc_law_read : FnScope n_law_read ["_law_state_here", "_law_env_here"] (defScope s_law_read) := ⟨rfl, rfl, rfl, by decide +kernel, rfl, by decide +kernel, by decide +kernel⟩
/-- _law_read; slots 0 _law_state_here, 1 _law_env_here, 2 _law_first_here, 3 _law_size; cells []; calls ['_law_pick', '_law_draw', '_law_index'] -/
theorem ok_law_read (B : Bl K mg) (Tx : Txt K mg "_law_read" s_law_read) (c_law_draw : Have P w K mg base "_law_draw" ["_law_state_here", "_law_many_here"] 1 spDraw) (c_law_pick : Have P w K mg base "_law_pick" ["_law_state_here", "_law_row"] 2 spPick)
    (c_law_index : Have P w K mg base "_law_index" ["_law_state_here", "_law_env_here", "_law_size"] 3 spIndex) : Have P w K mg base "_law_read" ["_law_state_here", "_law_env_here"] 4 (spEnvE fun n e => EOk n 2 98 e) := by
  refine have_of Tx sc_law_read (fun _ _ _ _ _ _ us hl => match us, hl with | [_, _], _ => rfl) len2 fun cdv f A outer s H E hr => ⟨_, (dss_cons (ds_if (dt_w (dw_and (dt_cmp op_gt_d (de_callB call_len_d rfl B.len PySem.boot_len (da_cons (de_dget (hu_of hr) (dv 1) (fun _ _ => rfl)) da_nil)) de_int (nomark _)) (dw_and1 (dt_cmp (op_eq_d (hu2 hr)) (de_callH c_law_draw (hr.mono (by omega)) rfl (da_cons (dv 0) (da_cons de_int da_nil))) de_int (nomark _))))) (dss_cons (ds_asg (vs := [2, 3]) (de_callH c_law_pick (hr.mono (by omega)) rfl (da_cons (dv 0) (da_cons (de_dget (hu_of hr) (dv 1) (fun _ _ => rfl)) da_nil))) (dg_tup (n := 2) rfl (dgs_cons (dg_name (i := 2) (by decide) sc_law_read.nd rfl (Or.inl rfl)) (dgs_cons (dg_name (i := 3) (by decide) sc_law_read.nd rfl (Or.inl rfl)) dgs_nil))))
    (dss_one (ds_ret (de_tup (da_cons de_str (da_cons (dv 2) (da_cons (dv 3) (da_cons (de_callH c_law_index (hr.mono (by omega)) rfl (da_cons (dv 0) (da_cons (dv 1) (da_cons (dv 3) da_nil)))) da_nil)))))))) dss_nil)
    (dss_one (ds_ret (de_tup (da_cons de_str (da_cons (de_callH c_law_pick (hr.mono (by omega)) rfl (da_cons (dv 0) (da_cons (de_dget (hu_of hr) (dv 1) (fun _ _ => rfl)) da_nil))) da_nil)))))), ?_⟩
  rintro _ M Q ⟨_, _, rfl, sa, ca, ea, R, v, n, C, rfl, rfl, S0, hs, hc, E0, V, h⟩
  have hn := V.n2
  have tail : ∀ (M1 : Mh) (x2 x3 : Option D), StAt sa ca M1 → Fr2 sa ca M M1 → dRet (dTup (dCons (dC (D.str (Str.ofString "cell"))) (dCons (dCall spPick (dCons (dV 0) (dCons (dGet (dV 1) (Str.ofString "reads")) dNil))) dNil))) (endsOf Q) [some (.ref sa), some (.ref ea), x2, x3] M1 := by
    intro M1 x2 x3 S1 f1
    have E1 := E0.fr hs hc f1
    walk_at "st"
    refine ⟨_, _, _, rfl, E1.rc, rfl, ?_⟩
    refine ⟨_, _, rfl, sa, ca, v.rs.map N, rfl, E1.r.pick hs hc, pos_map V.r0, by rw [List.length_map]; have := V.lr; omega, S1, fun d M2 hd S2 f2 => ?_⟩
    obtain ⟨k, hk, rfl⟩ := mem_N hd
    have hkn := V.r k hk
    have l1 : len (Exp.cell k).d ≤ 22 := len2_le tag_le (by omega)
    walk_at "st"
    exact rt_same (h (.cell k) _ ⟨hkn, Nat.zero_le _, by omega⟩ S2 (f1.trans f2))
  walk_at "s0"
  walk_at "st"
  refine ⟨_, _, _, rfl, E0.rc, rfl, ?_⟩
  dsimp only [dNil]
  refine rLen_at E0.s ?_
  rw [List.length_map]
  walk_at "st"
  refine iteP (fun c => ?_) (fun c => ?_)
  · walk_at "st"
    refine ⟨_, _, rfl, sa, ca, 4, rfl, rfl, by decide, by decide, S0, fun i M1 hi S1 f1 => ?_⟩
    walk_at "st"
    refine iteP (fun c2 => ?_) (fun c2 => ?_)
    · have E1 := E0.fr hs hc f1
      walk_at "st"
      refine ⟨_, _, _, rfl, E1.rc, rfl, ?_⟩
      refine ⟨_, _, rfl, sa, ca, v.sp.map spanD, rfl, E1.s.pick hs hc, by rw [List.length_map]; omega, by rw [List.length_map]; have := V.ls; omega, S1, fun d M2 hd S2 f2 => ?_⟩
      obtain ⟨p, hp, rfl⟩ := mem_span hd
      obtain ⟨p1, p2⟩ := V.s p hp
      have E2 := E1.fr hs hc f2
      walk_at "st"
      refine ⟨_, _, _, rfl, sa, ca, ea, R, v, n, C, p.2, rfl, rfl, rfl, by omega, S2, hs, hc, E2, V, fun e M3 he S3 f3 => ?_⟩
      walk_at "st"
      exact rt_same (h (.idx p.1 p.2 e) _ ⟨⟨p1, he.1⟩, Nat.succ_le_succ he.2.1, Nat.le_trans (len_idx (by omega) (by omega) he.2.2) (by decide)⟩ S3 ((f1.trans f2).trans f3))
    · exact tail M1 none none S1 f1
  · exact tail M none none S0 Fr2.refl
abbrev n_law_target : List Str := ["_law_state_here", "_law_env_here", "_law_first_here", "_law_size"]
theorem sc_law_target : FnScope n_law_target ["_law_state_here", "_law_env_here"] (defScope s_law_target) := ⟨rfl, rfl, rfl, by decide +kernel, rfl, by decide +kernel, by decide +kernel⟩
/-- _law_target; slots 0 _law_state_here, 1 _law_env_here, 2 _law_first_here, 3 _law_size; cells []; calls ['_law_pick', '_law_draw', '_law_index'] -/
theorem ok_law_target (B : Bl K mg) (Tx : Txt K mg "_law_target" s_law_target) (c_law_draw : Have P w K mg base "_law_draw" ["_law_state_here", "_law_many_here"] 1 spDraw) (c_law_pick : Have P w K mg base "_law_pick" ["_law_state_here", "_law_row"] 2 spPick)
    (c_law_index : Have P w K mg base "_law_index" ["_law_state_here", "_law_env_here", "_law_size"] 3 spIndex) : Have P w K mg base "_law_target" ["_law_state_here", "_law_env_here"] 4 (spEnvE fun n e => e.tgt = true ∧ EOk n 2 98 e) := by
  refine have_of Tx sc_law_target (fun _ _ _ _ _ _ us hl => match us, hl with | [_, _], _ => rfl) len2 fun cdv f A outer s H E hr => ⟨_, (dss_cons (ds_if (dt_w (dw_and (dt_cmp op_gt_d (de_callB call_len_d rfl B.len PySem.boot_len (da_cons (de_dget (hu_of hr) (dv 1) (fun _ _ => rfl)) da_nil)) de_int (nomark _)) (dw_and1 (dt_cmp (op_eq_d (hu2 hr)) (de_callH c_law_draw (hr.mono (by omega)) rfl (da_cons (dv 0) (da_cons de_int da_nil))) de_int (nomark _))))) (dss_cons (ds_asg (vs := [2, 3]) (de_callH c_law_pick (hr.mono (by omega)) rfl (da_cons (dv 0) (da_cons (de_dget (hu_of hr) (dv 1) (fun _ _ => rfl)) da_nil))) (dg_tup (n := 2) rfl (dgs_cons (dg_name (i := 2) (by decide) sc_law_target.nd rfl (Or.inl rfl)) (dgs_cons (dg_name (i := 3) (by decide) sc_law_target.nd rfl (Or.inl rfl)) dgs_nil))))
    (dss_one (ds_ret (de_tup (da_cons de_str (da_cons (dv 2) (da_cons (dv 3) (da_cons (de_callH c_law_index (hr.mono (by omega)) rfl (da_cons (dv 0) (da_cons (dv 1) (da_cons (dv 3) da_nil)))) da_nil)))))))) dss_nil)
    (dss_one (ds_ret (de_tup (da_cons de_str (da_cons (de_callH c_law_pick (hr.mono (by omega)) rfl (da_cons (dv 0) (da_cons (de_dget (hu_of hr) (dv 1) (fun _ _ => rfl)) da_nil))) da_nil)))))), ?_⟩
  rintro _ M Q ⟨_, _, rfl, sa, ca, ea, R, v, n, C, rfl, rfl, S0, hs, hc, E0, V, h⟩
  have hn := V.n2
  have tail : ∀ (M1 : Mh) (x2 x3 : Option D), StAt sa ca M1 → Fr2 sa ca M M1 → dRet (dTup (dCons (dC (D.str (Str.ofString "cell"))) (dCons (dCall spPick (dCons (dV 0) (dCons (dGet (dV 1) (Str.ofString "cells")) dNil))) dNil))) (endsOf Q) [some (.ref sa), some (.ref ea), x2, x3] M1 := by
    intro M1 x2 x3 S1 f1
    have E1 := E0.fr hs hc f1
    walk_at "st"
    refine ⟨_, _, _, rfl, E1.rc, rfl, ?_⟩
    refine ⟨_, _, rfl, sa, ca, v.cs.map N, rfl, E1.c.pick hs hc, pos_map V.c0, by rw [List.length_map]; have := V.lc; omega, S1, fun d M2 hd S2 f2 => ?_⟩
    obtain ⟨k, hk, rfl⟩ := mem_N hd
    have hkn := V.c k hk
    have l1 : len (Exp.cell k).d ≤ 22 := len2_le tag_le (by omega)
    walk_at "st"
    exact rt_same (h (.cell k) _ ⟨rfl, hkn, Nat.zero_le _, by omega⟩ S2 (f1.trans f2))
  walk_at "s0"
  walk_at "st"
  refine ⟨_, _, _, rfl, E0.rc, rfl, ?_⟩
  dsimp only [dNil]
  refine rLen_at E0.s ?_
  rw [List.length_map]
  walk_at "st"
  refine iteP (fun c => ?_) (fun c => ?_)
  · walk_at "st"
    refine ⟨_, _, rfl, sa, ca, 4, rfl, rfl, by decide, by decide, S0, fun i M1 hi S1 f1 => ?_⟩
    walk_at "st"
    refine iteP (fun c2 => ?_) (fun c2 => ?_)
    · have E1 := E0.fr hs hc f1
      walk_at "st"
      refine ⟨_, _, _, rfl, E1.rc, rfl, ?_⟩
      refine ⟨_, _, rfl, sa, ca, v.sp.map spanD, rfl, E1.s.pick hs hc, by rw [List.length_map]; omega, by rw [List.length_map]; have := V.ls; omega, S1, fun d M2 hd S2 f2 => ?_⟩
      obtain ⟨p, hp, rfl⟩ := mem_span hd
      obtain ⟨p1, p2⟩ := V.s p hp
      have E2 := E1.fr hs hc f2
      walk_at "st"
      refine ⟨_, _, _, rfl, sa, ca, ea, R, v, n, C, p.2, rfl, rfl, rfl, by omega, S2, hs, hc, E2, V, fun e M3 he S3 f3 => ?_⟩
      walk_at "st"
      exact rt_same (h (.idx p.1 p.2 e) _ ⟨rfl, ⟨p1, he.1⟩, Nat.succ_le_succ he.2.1, Nat.le_trans (len_idx (by omega) (by omega) he.2.2) (by decide)⟩ S3 ((f1.trans f2).trans f3))
    · exact tail M1 none none S1 f1
  · exact tail M none none S0 Fr2.refl
end
end Dl
namespace Dl
open PySem PySem.Spec PyProof.Rows L2 Mi
local macro_rules | `(tactic| walk_at "dl") => `(tactic| simp only [dRet, dOp, dSl, dV, dNoP, dPart, dLst, dLstM, dCons, dNil, dC, startD, rAdd, rAddM, rIx, rEq, rNe, rII, rII0, rIB0, rMul, rIsN, rNotN, isNon, dNeg, dTest, dAnd, dOr, dNot, dAndV, dOrV, dNotV, dIf, dTup, dFrz, dCB, rLen, rInt1, rAbs1, rMin2, rAll1, dBM, rApp, rExt, rPop0,
  dGet, dPut, dNext, dSeq, dDrop, dIfS, dName, dgNil, dgCons, dgTup, dAsg, dSub, rSet, dPar, dIL, dIT, dIR, dIE, dIZ, dFor, dYes, dCall, dLc, dLcM, dLcF, dPair, dGetT, dInT, dPutT, dNewT, wipeD,
  natsD, isL_lst, isL_ref, seqIn_tup, seqIn_lst, rIn, flatD, eqD, List.all_cons, List.all_nil, List.any_cons, List.any_nil, sizeLine_eq, Nat.reduceLeDiff, Nat.reduceLT, Bool.or_false, Bool.and_true, Bool.true_and, Bool.false_and, Bool.false_or, Bool.or_true, Bool.true_or, Bool.and_false, tupAt, optE, endsOf,
  List.map_cons, List.map_nil, List.length_cons, List.length_nil, List.cons_append, List.nil_append, List.append_nil, List.getElem?_cons_zero, List.getElem?_cons_succ, List.getElem?_nil, List.set_cons_zero, List.set_cons_succ, List.replicate_succ, List.replicate_zero, List.length_append, List.replicate,
  of_sE, String.reduceEq, decide_true, decide_false, Bool.false_eq_true, Bool.not_true, Bool.not_false, reduceIte, exists_eq_left, exists_eq_left', true_and, and_true, if_true, if_false, ite_true, ite_false, Nat.reduceAdd, Nat.reduceSub, Nat.reduceBEq, BEq.rfl, beq_self_eq_true, D.ref.injEq, D.int.injEq, D.str.injEq, D.lst.injEq, D.tup.injEq, List.cons.injEq, exists_and_left, exists_const, and_self])
local macro_rules | `(tactic| walk_at "s0") => `(tactic| (dsimp only [startD, List.length_cons, List.length_nil, List.map_cons, List.map_nil, List.cons_append, List.nil_append, Nat.reduceAdd, Nat.reduceSub, List.replicate_succ, List.replicate_zero]))
local macro_rules | `(tactic| walk_at "st") => `(tactic| ((conv => whnf); (try dsimp only [List.set_cons_zero, List.set_cons_succ]); repeat ((refine ⟨Nat.le_of_ble_eq_true rfl, ?_⟩); (conv => whnf); (try dsimp only [List.set_cons_zero, List.set_cons_succ]))))

section
variable {P : Program} {K : PySem.W.Frag} {mg : Str → Option Value} {w : World} {base : Heap}
/-- how long an expression's text may be -/
def eb : Nat → Nat
  | 0 => 98
  | k + 1 => 2 * eb k + 18
theorem eb_mono : ∀ k : Nat, 98 ≤ eb k
  | 0 => Nat.le_refl _
  | k + 1 => by have := eb_mono k; simp only [eb]; omega
def spExpr (d : Nat) : SpD := sp3 fun a b c M Q => ∃ (sa ca ea : Addr) (R : List Addr) (v : Ev) (n C k : Nat), a = .ref sa ∧ b = .ref ea ∧ c = N k ∧ k < d ∧ StAt sa ca M ∧ sa ∈ R ∧ ca ∈ R ∧ EnvAt R M ea v ∧ v.ok n C ∧
  ∀ e M', EOk n (2 + k) (eb k) e → StAt sa ca M' → Fr2 sa ca M M' → Q e.d M'
abbrev n_law_expression : List Str := ["_law_state_here", "_law_env_here", "_law_deep", "_law_kind", "_law_first_here"]
theorem sc_law_expression : FnScope n_law_expression ["_law_state_here", "_law_env_here", "_law_deep"] (defScope s_law_expression) := ⟨rfl, rfl, rfl, by decide +kernel, rfl, by decide +kernel, by decide +kernel⟩
/-- _law_expression; slots 0 _law_state_here, 1 _law_env_here, 2 _law_deep, 3 _law_kind, 4 _law_first_here; cells []; calls ['_law_expression', '_law_operator', '_law_pick', '_law_number', '_law_draw', '_law_read'] -/
theorem ok_law_expression (B : Bl K mg) (Tx : Txt K mg "_law_expression" s_law_expression) {l d : Nat} (hl : 4 ≤ l) (c_law_draw : Have P w K mg base "_law_draw" ["_law_state_here", "_law_many_here"] 1 spDraw) (c_law_pick : Have P w K mg base "_law_pick" ["_law_state_here", "_law_row"] 2 spPick)
    (c_law_number : Have P w K mg base "_law_number" ["_law_state_here"] 3 spNumber) (c_law_operator : Have P w K mg base "_law_operator" ["_law_state_here"] 3 spOp) (c_law_read : Have P w K mg base "_law_read" ["_law_state_here", "_law_env_here"] 4 (spEnvE fun n e => EOk n 2 98 e))
    (c_law_expression : Have P w K mg base "_law_expression" ["_law_state_here", "_law_env_here", "_law_deep"] l (spExpr d)) : Have P w K mg base "_law_expression" ["_law_state_here", "_law_env_here", "_law_deep"] (l + 1) (spExpr (d + 1)) := by
  refine have_of Tx sc_law_expression (fun _ _ _ _ _ _ us hl => match us, hl with | [_, _, _], _ => rfl) len3 fun cdv f A outer s H E hr => ⟨_, (dss_cons (ds_set (i := 3) sc_law_expression.nd rfl (Or.inl rfl) (de_callH c_law_draw (hr.mono (by omega)) rfl (da_cons (dv 0) (da_cons de_int da_nil))))
    (dss_cons (ds_if (dt_w (dw_or (dt_cmp (op_eq_d (hu2 hr)) (dv 2) de_int (nomark _)) (dw_or1 (dt_cmp op_lt_d (dv 3) de_int (nomark _))))) (dss_cons (ds_if (dt_w (dw_and (dt_cmp op_gt_d (de_callB call_len_d rfl B.len PySem.boot_len (da_cons (de_dget (hu_of hr) (dv 1) (fun _ _ => rfl)) da_nil)) de_int (nomark _)) (dw_and1 (dt_cmp op_gt_d (de_callH c_law_draw (hr.mono (by omega)) rfl (da_cons (dv 0) (da_cons de_int da_nil))) de_int (nomark _))))) (dss_one (ds_ret (de_callH c_law_read (hr.mono (by omega)) rfl (da_cons (dv 0) (da_cons (dv 1) da_nil))))) dss_nil)
    (dss_one (ds_ret (de_callH c_law_number (hr.mono (by omega)) rfl (da_cons (dv 0) da_nil))))) dss_nil)
    (dss_cons (ds_if (dt_cmp (op_eq_d (hu2 hr)) (dv 3) de_int (nomark _)) (dss_one (ds_ret (de_tup (da_cons (de_callH c_law_pick (hr.mono (by omega)) rfl (da_cons (dv 0) (da_cons (de_lst (da_cons de_str (da_cons de_str da_nil))) da_nil))) (da_cons (de_callH c_law_expression (hr.mono (by omega)) rfl (da_cons (dv 0) (da_cons (dv 1) (da_cons (de_op op_sub_d (dv 2) de_int) da_nil)))) da_nil))))) dss_nil)
    (dss_cons (ds_set (i := 4) sc_law_expression.nd rfl (Or.inl rfl) (de_callH c_law_expression (hr.mono (by omega)) rfl (da_cons (dv 0) (da_cons (dv 1) (da_cons (de_op op_sub_d (dv 2) de_int) da_nil)))))
    (dss_one (ds_ret (de_tup (da_cons (de_callH c_law_operator (hr.mono (by omega)) rfl (da_cons (dv 0) da_nil)) (da_cons (dv 4) (da_cons (de_callH c_law_expression (hr.mono (by omega)) rfl (da_cons (dv 0) (da_cons (dv 1) (da_cons (de_op op_sub_d (dv 2) de_int) da_nil)))) da_nil)))))))))), ?_⟩
  rintro _ M Q ⟨_, _, _, rfl, sa, ca, ea, R, v, n, C, k, rfl, rfl, rfl, hk, S0, hs, hc, E0, V, h⟩
  have hn := V.n2
  have hlr : (0 : Int) < ((v.rs.length : Nat) : Int) := by
    have := V.r0
    cases e : v.rs with
    | nil => exact absurd e this
    | cons _ _ => rw [List.length_cons]; omega
  walk_at "s0"
  walk_at "st"
  refine ⟨_, _, rfl, sa, ca, 7, rfl, rfl, by decide, by decide, S0, fun q M1 hq S1 f1 => ?_⟩
  have E1 := E0.fr hs hc f1
  walk_at "st"
  refine iteP (fun c => ?_) (fun c => ?_)
  · skip
    walk_at "st"
    refine ⟨_, _, _, rfl, E1.rc, rfl, ?_⟩
    dsimp only [dNil]
    refine rLen_at E1.r ?_
    rw [List.length_map]
    walk_at "st"
    refine iteP (fun _ => ?_) (fun z => absurd hlr z)
    walk_at "st"
    refine ⟨_, _, rfl, sa, ca, 3, rfl, rfl, by decide, by decide, S1, fun i M2 hi S2 f2 => ?_⟩
    have E2 := E1.fr hs hc f2
    walk_at "st"
    refine iteP (fun c3 => ?_) (fun c3 => ?_)
    · walk_at "st"
      refine ⟨_, _, rfl, sa, ca, ea, R, v, n, C, rfl, rfl, S2, hs, hc, E2, V, fun e M3 he S3 f3 => ?_⟩
      exact rt_same (h e _ ⟨he.1, Nat.le_trans he.2.1 (by omega), Nat.le_trans he.2.2 (eb_mono k)⟩ S3 ((f1.trans f2).trans f3))
    · walk_at "st"
      refine ⟨_, rfl, sa, ca, rfl, S2, fun j M3 hj S3 f3 => ?_⟩
      have l1 : len (Exp.num j).d ≤ 22 := len2_le tag_le (by omega)
      exact rt_same (h (.num j) _ ⟨hj, Nat.zero_le _, Nat.le_trans (Nat.le_trans l1 (by decide)) (eb_mono k)⟩ S3 ((f1.trans f2).trans f3))
  walk_at "st"
  refine iteP (fun c2 => ?_) (fun c2 => ?_)
  · skip
    walk_at "st"
    refine ⟨_, _, _, rfl, E1.rc, rfl, ?_⟩
    dsimp only [dNil]
    refine rLen_at E1.r ?_
    rw [List.length_map]
    walk_at "st"
    refine iteP (fun _ => ?_) (fun z => absurd hlr z)
    walk_at "st"
    refine ⟨_, _, rfl, sa, ca, 3, rfl, rfl, by decide, by decide, S1, fun i M2 hi S2 f2 => ?_⟩
    have E2 := E1.fr hs hc f2
    walk_at "st"
    refine iteP (fun c3 => ?_) (fun c3 => ?_)
    · walk_at "st"
      refine ⟨_, _, rfl, sa, ca, ea, R, v, n, C, rfl, rfl, S2, hs, hc, E2, V, fun e M3 he S3 f3 => ?_⟩
      exact rt_same (h e _ ⟨he.1, Nat.le_trans he.2.1 (by omega), Nat.le_trans he.2.2 (eb_mono k)⟩ S3 ((f1.trans f2).trans f3))
    · walk_at "st"
      refine ⟨_, rfl, sa, ca, rfl, S2, fun j M3 hj S3 f3 => ?_⟩
      have l1 : len (Exp.num j).d ≤ 22 := len2_le tag_le (by omega)
      exact rt_same (h (.num j) _ ⟨hj, Nat.zero_le _, Nat.le_trans (Nat.le_trans l1 (by decide)) (eb_mono k)⟩ S3 ((f1.trans f2).trans f3))
  obtain ⟨k', rfl⟩ : ∃ k', k = k' + 1 := ⟨k - 1, by omega⟩
  have ek : (((k' + 1 : Nat) : Int) - 1) = ((k' : Nat) : Int) := by omega
  walk_at "st"
  refine iteP (fun c3 => ?_) (fun c3 => ?_)
  · walk_at "st"
    refine ⟨_, _, rfl, sa, ca, [S "neg", S "not"], rfl, .inl rfl, by decide, by decide, S1, fun dd M2 hd S2 f2 => ?_⟩
    have E2 := E1.fr hs hc f2
    walk_at "st"
    rw [ek]
    refine ⟨_, _, _, rfl, sa, ca, ea, R, v, n, C, k', rfl, rfl, rfl, by omega, S2, hs, hc, E2, V, fun e M3 he S3 f3 => ?_⟩
    walk_at "st"
    have l3 := len_tup [S "neg", e.d]
    have l4 : len (S "neg") ≤ 9 := tag_le
    have l5 := len_tup [S "not", e.d]
    have l6 : len (S "not") ≤ 9 := tag_le
    have l7 := he.2.2
    simp only [lens] at l3 l5
    simp only [List.mem_cons, List.not_mem_nil, or_false] at hd
    rcases hd with rfl | rfl
    · exact rt_same (h (.neg e) _ ⟨he.1, by have := he.2.1; simp only [Exp.dep]; omega, by show len (.tup [S "neg", e.d]) ≤ 2 * eb k' + 18; omega⟩ S3 ((f1.trans f2).trans f3))
    · exact rt_same (h (.not e) _ ⟨he.1, by have := he.2.1; simp only [Exp.dep]; omega, by show len (.tup [S "not", e.d]) ≤ 2 * eb k' + 18; omega⟩ S3 ((f1.trans f2).trans f3))
  · walk_at "st"
    rw [ek]
    refine ⟨_, _, _, rfl, sa, ca, ea, R, v, n, C, k', rfl, rfl, rfl, by omega, S1, hs, hc, E1, V, fun e1 M2 he1 S2 f2 => ?_⟩
    have E2 := E1.fr hs hc f2
    walk_at "st"
    refine ⟨_, rfl, sa, ca, rfl, S2, fun o M3 S3 f3 => ?_⟩
    have E3 := E2.fr hs hc f3
    walk_at "st"
    rw [ek]
    refine ⟨_, _, _, rfl, sa, ca, ea, R, v, n, C, k', rfl, rfl, rfl, by omega, S3, hs, hc, E3, V, fun e2 M4 he2 S4 f4 => ?_⟩
    walk_at "st"
    refine rt_same (h (.bin o e1 e2) _ ⟨⟨he1.1, he2.1⟩, by have := he1.2.1; have := he2.2.1; simp only [Exp.dep]; omega, ?_⟩ S4 (((f1.trans f2).trans f3).trans f4))
    have l3 := len_tup [S o.nm, e1.d, e2.d]
    have l4 : len (S o.nm) ≤ 9 := by cases o <;> exact tag_le
    have l5 := he1.2.2
    have l6 := he2.2.2
    simp only [lens] at l3
    show len (.tup [S o.nm, e1.d, e2.d]) ≤ 2 * eb k' + 18
    omega
theorem expr_ok (B : Bl K mg) (Tx : Txt K mg "_law_expression" s_law_expression) (c_law_draw : Have P w K mg base "_law_draw" ["_law_state_here", "_law_many_here"] 1 spDraw) (c_law_pick : Have P w K mg base "_law_pick" ["_law_state_here", "_law_row"] 2 spPick)
    (c_law_number : Have P w K mg base "_law_number" ["_law_state_here"] 3 spNumber) (c_law_operator : Have P w K mg base "_law_operator" ["_law_state_here"] 3 spOp) (c_law_read : Have P w K mg base "_law_read" ["_law_state_here", "_law_env_here"] 4 (spEnvE fun n e => EOk n 2 98 e)) :
    ∀ d, Have P w K mg base "_law_expression" ["_law_state_here", "_law_env_here", "_law_deep"] (d + 4) (spExpr d)
  | 0 => (have_none Tx (fun _ _ _ _ _ _ us hl => match us, hl with | [_, _, _], _ => rfl) fun ds M Q ⟨_, _, _, _, _, _, _, _, _, _, _, _, _, _, _, h, _⟩ => absurd h (Nat.not_lt_zero _)).mono (Nat.zero_le _)
  | d + 1 => ok_law_expression B Tx (by omega) c_law_draw c_law_pick c_law_number c_law_operator c_law_read (expr_ok B Tx c_law_draw c_law_pick c_law_number c_law_operator c_law_read d)
end
end Dl
namespace Dl
open PySem PySem.Spec PyProof.Rows L2 Mi
local macro_rules | `(tactic| walk_at "dl") => `(tactic| simp only [dRet, dOp, dSl, dV, dNoP, dPart, dLst, dLstM, dCons, dNil, dC, startD, rAdd, rAddM, rIx, rEq, rNe, rII, rII0, rIB0, rMul, rIsN, rNotN, isNon, dNeg, dTest, dAnd, dOr, dNot, dAndV, dOrV, dNotV, dIf, dTup, dFrz, dCB, rLen, rInt1, rAbs1, rMin2, rAll1, dBM, rApp, rExt, rPop0,
  dGet, dPut, dNext, dSeq, dDrop, dIfS, dName, dgNil, dgCons, dgTup, dAsg, dSub, rSet, dPar, dIL, dIT, dIR, dIE, dIZ, dFor, dYes, dCall, dLc, dLcM, dLcF, dPair, dGetT, dInT, dPutT, dNewT, wipeD,
  natsD, isL_lst, isL_ref, seqIn_tup, seqIn_lst, rIn, flatD, eqD, List.all_cons, List.all_nil, List.any_cons, List.any_nil, sizeLine_eq, Nat.reduceLeDiff, Nat.reduceLT, Bool.or_false, Bool.and_true, Bool.true_and, Bool.false_and, Bool.false_or, Bool.or_true, Bool.true_or, Bool.and_false, tupAt, optE, endsOf,
  List.map_cons, List.map_nil, List.length_cons, List.length_nil, List.cons_append, List.nil_append, List.append_nil, List.getElem?_cons_zero, List.getElem?_cons_succ, List.getElem?_nil, List.set_cons_zero, List.set_cons_succ, List.replicate_succ, List.replicate_zero, List.length_append, List.replicate,
  of_sE, String.reduceEq, decide_true, decide_false, Bool.false_eq_true, Bool.not_true, Bool.not_false, reduceIte, exists_eq_left, exists_eq_left', true_and, and_true, if_true, if_false, ite_true, ite_false, Nat.reduceAdd, Nat.reduceSub, Nat.reduceBEq, BEq.rfl, beq_self_eq_true, D.ref.injEq, D.int.injEq, D.str.injEq, D.lst.injEq, D.tup.injEq, List.cons.injEq, exists_and_left, exists_const, and_self])
local macro_rules | `(tactic| walk_at "s0") => `(tactic| (dsimp only [startD, List.length_cons, List.length_nil, List.map_cons, List.map_nil, List.cons_append, List.nil_append, Nat.reduceAdd, Nat.reduceSub, List.replicate_succ, List.replicate_zero]))
local macro_rules | `(tactic| walk_at "st") => `(tactic| ((conv => whnf); (try dsimp only [List.set_cons_zero, List.set_cons_succ]); repeat ((refine ⟨Nat.le_of_ble_eq_true rfl, ?_⟩); (conv => whnf); (try dsimp only [List.set_cons_zero, List.set_cons_succ]))))

section
variable {P : Program} {K : PySem.W.Frag} {mg : Str → Option Value} {w : World} {base : Heap}
def SOk (n C wk dp wt : Nat) (s : Stm) : Prop := (∀ T, s.wf n T C) ∧ s.work ≤ wk ∧ s.dep ≤ dp ∧ s.cnt = 0 ∧ s.wt ≤ wt
def spEnvS (p : Nat → Nat → Stm → Prop) : SpD := sp2 fun a b M Q => ∃ (sa ca ea : Addr) (R : List Addr) (v : Ev) (n C : Nat), a = .ref sa ∧ b = .ref ea ∧ StAt sa ca M ∧ sa ∈ R ∧ ca ∈ R ∧ EnvAt R M ea v ∧ v.ok n C ∧
  ∀ s M', p n C s → StAt sa ca M' → Fr2 sa ca M M' → Q s.d M'
abbrev n_law_set : List Str := ["_law_state_here", "_law_env_here"]
theorem sc_law_set : FnScope n_law_set ["_law_state_here", "_law_env_here"] (defScope s_law_set) := ⟨rfl, rfl, rfl, by decide +kernel, rfl, by decide +kernel, by decide +kernel⟩
/-- _law_set; slots 0 _law_state_here, 1 _law_env_here; cells []; calls ['_law_expression', '_law_target'] -/
theorem ok_law_set (B : Bl K mg) (Tx : Txt K mg "_law_set" s_law_set) (c_law_target : Have P w K mg base "_law_target" ["_law_state_here", "_law_env_here"] 4 (spEnvE fun n e => e.tgt = true ∧ EOk n 2 98 e))
    (c_law_expression : Have P w K mg base "_law_expression" ["_law_state_here", "_law_env_here", "_law_deep"] 7 (spExpr 3)) : Have P w K mg base "_law_set" ["_law_state_here", "_law_env_here"] 8 (spEnvS fun n C s => SOk n C 1 0 604 s) := by
  refine have_of Tx sc_law_set (fun _ _ _ _ _ _ us hl => match us, hl with | [_, _], _ => rfl) len2 fun cdv f A outer s H E hr => ⟨_, (dss_one (ds_ret (de_tup (da_cons de_str (da_cons (de_callH c_law_target (hr.mono (by omega)) rfl (da_cons (dv 0) (da_cons (dv 1) da_nil))) (da_cons (de_callH c_law_expression (hr.mono (by omega)) rfl (da_cons (dv 0) (da_cons (dv 1) (da_cons de_int da_nil)))) da_nil)))))), ?_⟩
  rintro _ M Q ⟨_, _, rfl, sa, ca, ea, R, v, n, C, rfl, rfl, S0, hs, hc, E0, V, h⟩
  walk_at "s0"
  walk_at "st"
  refine ⟨_, _, rfl, sa, ca, ea, R, v, n, C, rfl, rfl, S0, hs, hc, E0, V, fun t M1 ht S1 f1 => ?_⟩
  have E1 := E0.fr hs hc f1
  walk_at "st"
  refine ⟨_, _, _, rfl, sa, ca, ea, R, v, n, C, 2, rfl, rfl, rfl, by decide, S1, hs, hc, E1, V, fun e M2 he S2 f2 => ?_⟩
  walk_at "st"
  refine rt_same (h (.set t e) _ ⟨fun T => ⟨⟨ht.1, ht.2.1, by have := ht.2.2.1; omega⟩, ⟨he.1, by have := he.2.1; omega⟩⟩, Nat.le_refl _, Nat.le_refl _, rfl, ?_⟩ S2 (f1.trans f2))
  have h1 := ht.2.2.2
  have h2 : len e.d ≤ 446 := he.2.2
  simp only [Stm.wt]
  omega
abbrev n_law_simple : List Str := ["_law_state_here", "_law_env_here", "_law_kind", "_law_cell", "_law_more"]
theorem sc_law_simple : FnScope n_law_simple ["_law_state_here", "_law_env_here"] (defScope s_law_simple) := ⟨rfl, rfl, rfl, by decide +kernel, rfl, by decide +kernel, by decide +kernel⟩
/-- _law_simple; slots 0 _law_state_here, 1 _law_env_here, 2 _law_kind, 3 _law_cell, 4 _law_more; cells []; calls ['_law_set', '_law_draw', '_law_pick', '_law_expression'] -/
theorem ok_law_simple (B : Bl K mg) (Tx : Txt K mg "_law_simple" s_law_simple) (c_law_draw : Have P w K mg base "_law_draw" ["_law_state_here", "_law_many_here"] 1 spDraw) (c_law_pick : Have P w K mg base "_law_pick" ["_law_state_here", "_law_row"] 2 spPick)
    (c_law_set : Have P w K mg base "_law_set" ["_law_state_here", "_law_env_here"] 8 (spEnvS fun n C s => SOk n C 1 0 604 s)) (c_law_expression : Have P w K mg base "_law_expression" ["_law_state_here", "_law_env_here", "_law_deep"] 7 (spExpr 3)) :
    Have P w K mg base "_law_simple" ["_law_state_here", "_law_env_here"] 9 (spEnvS fun n C s => SOk n C 7 2 2150 s) := by
  refine have_of Tx sc_law_simple (fun _ _ _ _ _ _ us hl => match us, hl with | [_, _], _ => rfl) len2 fun cdv f A outer s H E hr => ⟨_, (dss_cons (ds_set (i := 2) sc_law_simple.nd rfl (Or.inl rfl) (de_callH c_law_draw (hr.mono (by omega)) rfl (da_cons (dv 0) (da_cons de_int da_nil))))
    (dss_cons (ds_if (dt_cmp (op_eq_d (hu2 hr)) (dv 2) de_int (nomark _)) (dss_one (ds_ret (de_tup (da_cons de_str da_nil)))) dss_nil)
    (dss_cons (ds_if (dt_w (dw_and (dt_cmp (op_eq_d (hu2 hr)) (dv 2) de_int (nomark _)) (dw_and1 (dt_cmp (op_eq_d (hu2 hr)) (de_callH c_law_draw (hr.mono (by omega)) rfl (da_cons (dv 0) (da_cons de_int da_nil))) de_int (nomark _))))) (dss_one (ds_ret (de_tup (da_cons de_str da_nil)))) dss_nil)
    (dss_cons (ds_if (dt_cmp (op_eq_d (hu2 hr)) (dv 2) de_int (nomark _)) (dss_one (ds_ret (de_tup (da_cons de_str (da_cons (de_callH c_law_expression (hr.mono (by omega)) rfl (da_cons (dv 0) (da_cons (dv 1) (da_cons de_int da_nil)))) (da_cons (de_callH c_law_set (hr.mono (by omega)) rfl (da_cons (dv 0) (da_cons (dv 1) da_nil))) (da_cons (de_tup (da_cons de_str (da_cons (de_lst (da_cons (de_callH c_law_set (hr.mono (by omega)) rfl (da_cons (dv 0) (da_cons (dv 1) da_nil))) (da_cons (de_callH c_law_set (hr.mono (by omega)) rfl (da_cons (dv 0) (da_cons (dv 1) da_nil))) da_nil))) da_nil))) da_nil))))))) dss_nil)
    (dss_cons (ds_if (dt_cmp (op_eq_d (hu2 hr)) (dv 2) de_int (nomark _)) (dss_cons (ds_set (i := 3) sc_law_simple.nd rfl (Or.inl rfl) (de_tup (da_cons de_str (da_cons (de_callH c_law_pick (hr.mono (by omega)) rfl (da_cons (dv 0) (da_cons (de_dget (hu_of hr) (dv 1) (fun _ _ => rfl)) da_nil))) da_nil))))
    (dss_cons (ds_set (i := 4) sc_law_simple.nd rfl (Or.inl rfl) (de_tup (da_cons de_str (da_cons (dv 3) (da_cons (de_tup (da_cons de_str (da_cons (dv 3) (da_cons (de_tup (da_cons de_str (da_cons (de_op op_add_d de_int (de_callH c_law_draw (hr.mono (by omega)) rfl (da_cons (dv 0) (da_cons de_int da_nil)))) da_nil))) da_nil)))) da_nil)))))
    (dss_one (ds_ret (de_tup (da_cons de_str (da_cons (de_tup (da_cons de_str (da_cons (dv 3) (da_cons (de_tup (da_cons de_str (da_cons (de_callH c_law_draw (hr.mono (by omega)) rfl (da_cons (dv 0) (da_cons de_int da_nil))) da_nil))) da_nil)))) (da_cons (de_callH c_law_draw (hr.mono (by omega)) rfl (da_cons (dv 0) (da_cons de_int da_nil))) (da_cons (dv 4) da_nil))))))))) dss_nil)
    (dss_one (ds_ret (de_callH c_law_set (hr.mono (by omega)) rfl (da_cons (dv 0) (da_cons (dv 1) da_nil)))))))))), ?_⟩
  rintro _ M Q ⟨_, _, rfl, sa, ca, ea, R, v, n, C, rfl, rfl, S0, hs, hc, E0, V, h⟩
  have hn := V.n2
  walk_at "s0"
  walk_at "st"
  refine ⟨_, _, rfl, sa, ca, 14, rfl, rfl, by decide, by decide, S0, fun q M1 hq S1 f1 => ?_⟩
  have E1 := E0.fr hs hc f1
  have up : ∀ {s : Stm}, SOk n C 1 0 604 s → SOk n C 7 2 2150 s := fun z => ⟨z.1, by have := z.2.1; omega, by have := z.2.2.1; omega, z.2.2.2.1, by have := z.2.2.2.2; omega⟩
  by_cases q4 : 4 ≤ q
  · walk_at "st"
    refine iteP (fun z => absurd z (by omega)) (fun _ => ?_)
    walk_at "st"
    refine iteP (fun z => absurd z (by omega)) (fun _ => ?_)
    walk_at "st"
    refine iteP (fun z => absurd z (by omega)) (fun _ => ?_)
    walk_at "st"
    refine iteP (fun z => absurd z (by omega)) (fun _ => ?_)
    walk_at "st"
    refine ⟨_, _, rfl, sa, ca, ea, R, v, n, C, rfl, rfl, S1, hs, hc, E1, V, fun s M3 hs3 S3 f3 => ?_⟩
    exact rt_same (h s _ (up hs3) S3 (f1.trans f3))
  match q, q4 with
  | 0, q4 =>
    walk_at "st"
    exact rt_same (h .skip _ ⟨fun T => trivial, by decide, by decide, rfl, by decide⟩ S1 f1)
  | 1, q4 =>
    walk_at "st"
    refine ⟨_, _, rfl, sa, ca, 6, rfl, rfl, by decide, by decide, S1, fun i M2 hi S2 f2 => ?_⟩
    have E2 := E1.fr hs hc f2
    walk_at "st"
    refine iteP (fun c => ?_) (fun c => ?_)
    · walk_at "st"
      exact rt_same (h .stop _ ⟨fun T => trivial, by decide, by decide, rfl, by decide⟩ S2 (f1.trans f2))
    · walk_at "st"
      refine ⟨_, _, rfl, sa, ca, ea, R, v, n, C, rfl, rfl, S2, hs, hc, E2, V, fun s M3 hs3 S3 f3 => ?_⟩
      exact rt_same (h s _ (up hs3) S3 ((f1.trans f2).trans f3))
  | 2, q4 =>
    walk_at "st"
    refine ⟨_, _, _, rfl, sa, ca, ea, R, v, n, C, 1, rfl, rfl, rfl, by decide, S1, hs, hc, E1, V, fun e M2 he S2 f2 => ?_⟩
    have E2 := E1.fr hs hc f2
    walk_at "st"
    refine ⟨_, _, rfl, sa, ca, ea, R, v, n, C, rfl, rfl, S2, hs, hc, E2, V, fun s1 M3 h1 S3 f3 => ?_⟩
    have E3 := E2.fr hs hc f3
    walk_at "st"
    refine ⟨_, _, rfl, sa, ca, ea, R, v, n, C, rfl, rfl, S3, hs, hc, E3, V, fun s2 M4 h2 S4 f4 => ?_⟩
    have E4 := E3.fr hs hc f4
    walk_at "st"
    refine ⟨_, _, rfl, sa, ca, ea, R, v, n, C, rfl, rfl, S4, hs, hc, E4, V, fun s3 M5 h3 S5 f5 => ?_⟩
    walk_at "st"
    refine rt_same (h (.ite e s1 (.seq [s2, s3])) _ ⟨fun T => ⟨⟨he.1, by have := he.2.1; omega⟩, h1.1 T, h2.1 T, h3.1 T, trivial⟩, ?_, ?_, ?_, ?_⟩ S5 ((((f1.trans f2).trans f3).trans f4).trans f5))
    · have a1 := h1.2.1
      have a2 := h2.2.1
      have a3 := h3.2.1
      simp only [Stm.work, works]
      omega
    · have a1 := h1.2.2.1
      have a2 := h2.2.2.1
      have a3 := h3.2.2.1
      simp only [Stm.dep, deps]
      omega
    · simp only [Stm.cnt, cnts, h1.2.2.2.1, h2.2.2.2.1, h3.2.2.2.1]
    · have a1 := h1.2.2.2.2
      have a2 := h2.2.2.2.2
      have a3 := h3.2.2.2.2
      have a4 : len e.d ≤ 214 := he.2.2
      simp only [Stm.wt, wts]
      omega
  | 3, q4 =>
    walk_at "st"
    refine ⟨_, _, _, rfl, E1.rc, rfl, ?_⟩
    refine ⟨_, _, rfl, sa, ca, v.cs.map N, rfl, E1.c.pick hs hc, pos_map V.c0, by rw [List.length_map]; have := V.lc; omega, S1, fun d M2 hd S2 f2 => ?_⟩
    obtain ⟨k, hk, rfl⟩ := mem_N hd
    have hkn := V.c k hk
    walk_at "st"
    refine ⟨_, _, rfl, sa, ca, 3, rfl, rfl, by decide, by decide, S2, fun i M3 hi S3 f3 => ?_⟩
    walk_at "st"
    refine ⟨_, _, rfl, sa, ca, 9, rfl, rfl, by decide, by decide, S3, fun j M4 hj S4 f4 => ?_⟩
    walk_at "st"
    refine ⟨_, _, rfl, sa, ca, 4, rfl, rfl, by decide, by decide, S4, fun r M5 hr5 S5 f5 => ?_⟩
    walk_at "st"
    have ei : (1 : Int) + ((i : Nat) : Int) = ((1 + i : Nat) : Int) := by omega
    rw [ei]
    have l1 : len (Exp.cell k).d ≤ 22 := len2_le tag_le (by omega)
    have l2 : len (Exp.num (1 + i)).d ≤ 22 := len2_le tag_le (by omega)
    have l3 : len (Exp.num j).d ≤ 22 := len2_le tag_le (by omega)
    have l4 := len_tup [S "+", (Exp.cell k).d, (Exp.num (1 + i)).d]
    have l5 := len_tup [S "<", (Exp.cell k).d, (Exp.num j).d]
    have l6 : len (S "+") ≤ 9 := tag_le
    have l7 : len (S "<") ≤ 9 := tag_le
    simp only [lens] at l4 l5
    have l8 : len (Exp.bin .add (.cell k) (.num (1 + i))).d ≤ 62 := by
      show len (.tup [S "+", (Exp.cell k).d, (Exp.num (1 + i)).d]) ≤ 62
      omega
    have l9 : len (Exp.bin .lt (.cell k) (.num j)).d ≤ 62 := by
      show len (.tup [S "<", (Exp.cell k).d, (Exp.num j).d]) ≤ 62
      omega
    refine rt_same (h (.rep (.bin .lt (.cell k) (.num j)) r (.set (.cell k) (.bin .add (.cell k) (.num (1 + i))))) _
      ⟨fun T => ⟨⟨⟨hkn, by show j < 65536; omega⟩, Nat.le_of_ble_eq_true rfl⟩, ⟨rfl, hkn, Nat.le_of_ble_eq_true rfl⟩, ⟨hkn, by show 1 + i < 65536; omega⟩, Nat.le_of_ble_eq_true rfl⟩, ?_, ?_, rfl, ?_⟩ S5 ((((f1.trans f2).trans f3).trans f4).trans f5))
    · simp only [Stm.work]
      omega
    · simp only [Stm.dep]
      omega
    · simp only [Stm.wt]
      have : (r + 1) * (60 + len (Exp.bin .lt (.cell k) (.num j)).d + (len (Exp.cell k).d + len (Exp.bin .add (.cell k) (.num (1 + i))).d + 60)) ≤ 4 * 300 := Nat.mul_le_mul (by omega) (by omega)
      omega
  | q + 4, q4 => exact absurd (Nat.le_add_left 4 q) q4
end
end Dl
namespace Dl
open PySem PySem.Spec PyProof.Rows L2 Mi
local macro_rules | `(tactic| walk_at "dl") => `(tactic| simp only [dRet, dOp, dSl, dV, dNoP, dPart, dLst, dLstM, dCons, dNil, dC, startD, rAdd, rAddM, rIx, rEq, rNe, rII, rII0, rIB0, rMul, rIsN, rNotN, isNon, dNeg, dTest, dAnd, dOr, dNot, dAndV, dOrV, dNotV, dIf, dTup, dFrz, dCB, rLen, rInt1, rAbs1, rMin2, rAll1, dBM, rApp, rExt, rPop0,
  dGet, dPut, dNext, dSeq, dDrop, dIfS, dName, dgNil, dgCons, dgTup, dAsg, dSub, rSet, dPar, dIL, dIT, dIR, dIE, dIZ, dFor, dYes, dCall, dLc, dLcM, dLcF, dPair, dGetT, dInT, dPutT, dNewT, wipeD,
  natsD, isL_lst, isL_ref, seqIn_tup, seqIn_lst, rIn, flatD, eqD, List.all_cons, List.all_nil, List.any_cons, List.any_nil, sizeLine_eq, Nat.reduceLeDiff, Nat.reduceLT, Bool.or_false, Bool.and_true, Bool.true_and, Bool.false_and, Bool.false_or, Bool.or_true, Bool.true_or, Bool.and_false, tupAt, optE, endsOf,
  List.map_cons, List.map_nil, List.length_cons, List.length_nil, List.cons_append, List.nil_append, List.append_nil, List.getElem?_cons_zero, List.getElem?_cons_succ, List.getElem?_nil, List.set_cons_zero, List.set_cons_succ, List.replicate_succ, List.replicate_zero, List.length_append, List.replicate,
  of_sE, String.reduceEq, decide_true, decide_false, Bool.false_eq_true, Bool.not_true, Bool.not_false, reduceIte, exists_eq_left, exists_eq_left', true_and, and_true, if_true, if_false, ite_true, ite_false, Nat.reduceAdd, Nat.reduceSub, Nat.reduceBEq, BEq.rfl, beq_self_eq_true, D.ref.injEq, D.int.injEq, D.str.injEq, D.lst.injEq, D.tup.injEq, List.cons.injEq, exists_and_left, exists_const, and_self])
local macro_rules | `(tactic| walk_at "s0") => `(tactic| (dsimp only [startD, List.length_cons, List.length_nil, List.map_cons, List.map_nil, List.cons_append, List.nil_append, Nat.reduceAdd, Nat.reduceSub, List.replicate_succ, List.replicate_zero]))
local macro_rules | `(tactic| walk_at "st") => `(tactic| ((conv => whnf); (try dsimp only [List.set_cons_zero, List.set_cons_succ]); repeat ((refine ⟨Nat.le_of_ble_eq_true rfl, ?_⟩); (conv => whnf); (try dsimp only [List.set_cons_zero, List.set_cons_succ]))))

section
variable {P : Program} {K : PySem.W.Frag} {mg : Str → Option Value} {w : World} {base : Heap}
theorem nodup_lt : ∀ (C : Nat) (l : List Nat), l.Nodup → (∀ x ∈ l, x < C) → l.length ≤ C
  | 0, l, _, h => by
    cases l with
    | nil => exact Nat.le_refl _
    | cons a l => exact absurd (h a (List.mem_cons_self ..)) (Nat.not_lt_zero _)
  | C + 1, l, nd, h => by
    by_cases hm : C ∈ l
    · have ih := nodup_lt C (l.erase C) (nd.erase C) fun x hx => by
        have h1 := (nd.mem_erase_iff).mp hx
        have := h x h1.2
        have := h1.1
        omega
      rw [List.length_erase_of_mem hm] at ih
      omega
    · have ih := nodup_lt C l nd fun x hx => by
        have := h x hx
        have : x ≠ C := fun z => hm (z ▸ hx)
        omega
      omega
/-- iterating over a list of an env -/
theorem dIL_at {R : List Addr} {M : Mh} {x : D} {ds : List D} {sa ca : Addr} {σ : Sd} {W : List D → (Mh → Prop) → Mh → Prop} (h : LstAt R M x ds) (hs : sa ∈ R) (hc : ca ∈ R) (q : ∀ G : Mh → Prop, (∀ M', Fr2 sa ca M M' → G M') → W ds G M) : dIL (fun _ M Q => Q x M) σ M W := by
  rcases h with rfl | ⟨a, rfl, n, e⟩
  · exact q _ fun _ _ => trivial
  · exact ⟨ds, e, q _ fun M' f => f a _ (fun z => n (z ▸ hs)) (fun z => n (z ▸ hc)) e⟩
/-- a row of an alternation -/
structure RowOk (n C : Nat) (r : ARow) : Prop where
  g : owf n r.1
  gl : len (optE r.1) ≤ 214
  c : r.2.1 < C
  t : r.2.2.1.tgt = true ∧ EOk n 2 98 r.2.2.1
  s : SOk n C 7 2 2150 r.2.2.2
structure RowsOk (n C : Nat) (rows : List ARow) : Prop where
  ne : rows ≠ []
  nd : (rows.map fun r => r.2.1).Nodup
  r : ∀ x ∈ rows, RowOk n C x
theorem RowsOk.len {n C : Nat} {rows : List ARow} (h : RowsOk n C rows) : rows.length ≤ C := by
  have := nodup_lt C (rows.map fun r => r.2.1) h.nd fun x hx => by
    obtain ⟨r, hr, rfl⟩ := List.mem_map.mp hx
    exact (h.r r hr).c
  rwa [List.length_map] at this
def spAlt : SpD := sp3 fun a b c M Q => ∃ (sa ca ea : Addr) (R : List Addr) (v : Ev) (n C k : Nat), a = .ref sa ∧ b = .ref ea ∧ c = N k ∧ k < C ∧ C ≤ 1000 ∧ StAt sa ca M ∧ sa ∈ R ∧ ca ∈ R ∧ EnvAt R M ea v ∧ v.ok n C ∧
  ∀ rows M', RowsOk n C rows → StAt sa ca M' → Fr2 sa ca M M' → Q (Stm.alt rows).d M'
abbrev n_law_alt : List Str := ["_law_state_here", "_law_env_here", "_law_c", "_law_rows", "_law_other", "_law_row", "_law_guard"]
theorem sc_law_alt : FnScope n_law_alt ["_law_state_here", "_law_env_here", "_law_c"] (defScope s_law_alt) := ⟨rfl, rfl, rfl, by decide +kernel, rfl, by decide +kernel, by decide +kernel⟩
/-- _law_alt; slots 0 _law_state_here, 1 _law_env_here, 2 _law_c, 3 _law_rows, 4 _law_other, 5 _law_row, 6 _law_guard; cells ['_law_other']; calls ['_law_draw', '_law_simple', '_law_target', '_law_expression'] -/
theorem ok_law_alt (B : Bl K mg) (Tx : Txt K mg "_law_alt" s_law_alt) (c_law_draw : Have P w K mg base "_law_draw" ["_law_state_here", "_law_many_here"] 1 spDraw) (c_law_simple : Have P w K mg base "_law_simple" ["_law_state_here", "_law_env_here"] 9 (spEnvS fun n C s => SOk n C 7 2 2150 s))
    (c_law_target : Have P w K mg base "_law_target" ["_law_state_here", "_law_env_here"] 4 (spEnvE fun n e => e.tgt = true ∧ EOk n 2 98 e)) (c_law_expression : Have P w K mg base "_law_expression" ["_law_state_here", "_law_env_here", "_law_deep"] 7 (spExpr 3)) :
    Have P w K mg base "_law_alt" ["_law_state_here", "_law_env_here", "_law_c"] 10 spAlt := by
  refine have_of Tx sc_law_alt (fun _ _ _ _ _ _ us hl => match us, hl with | [_, _, _], _ => rfl) len3 fun cdv f A outer s H E hr => ⟨_, (dss_cons (ds_set (i := 3) sc_law_alt.nd rfl (Or.inl rfl) (de_lst (da_cons (de_tup (da_cons de_non (da_cons (dv 2) (da_cons (de_callH c_law_target (hr.mono (by omega)) rfl (da_cons (dv 0) (da_cons (dv 1) da_nil))) (da_cons (de_callH c_law_simple (hr.mono (by omega)) rfl (da_cons (dv 0) (da_cons (dv 1) da_nil))) da_nil))))) da_nil)))
    (dss_cons (ds_for (vs := [4]) PassesOwn.never rfl (di_list (de_dget (hu_of hr) (dv 1) (fun _ _ => rfl))) (dg_name (i := 4) (by decide) sc_law_alt.nd rfl (Or.inr rfl)) (dss_one (ds_if (dt_w (dw_and (dt_cmp (op_eq_d (hu2 hr)) (de_callB call_len_d rfl B.len PySem.boot_len (da_cons (de_lc (own := [("_law_row", 5)]) rfl sc_law_alt.nd (di_list (dv 3)) (blkOk_by (N := n_law_alt) (sc := defScope s_law_alt) (by decide +kernel)) (fun _ _ _ _ _ => (dg_name (i := 5) (by decide) sc_law_alt.nd rfl (Or.inl rfl))) (fun _ _ _ _ _ => (dts_one (dt_cmp (op_eq_d (hu2 hr)) (de_ix (dv 5) de_int) (dv 4) (nomark _)))) (fun _ _ _ _ _ => (dv 5))) da_nil)) de_int (nomark _)) (dw_and1 (dt_cmp (op_eq_d (hu2 hr)) (de_callH c_law_draw (hr.mono (by omega)) rfl (da_cons (dv 0) (da_cons de_int da_nil))) de_int (nomark _))))) (dss_cons (ds_set (i := 6) sc_law_alt.nd rfl (Or.inl rfl) (de_ifExp (dt_cmp (op_eq_d (hu2 hr)) (de_callH c_law_draw (hr.mono (by omega)) rfl (da_cons (dv 0) (da_cons de_int da_nil))) de_int (nomark _)) de_non (de_callH c_law_expression (hr.mono (by omega)) rfl (da_cons (dv 0) (da_cons (dv 1) (da_cons de_int da_nil))))))
    (dss_cons (ds_set (i := 5) sc_law_alt.nd rfl (Or.inl rfl) (de_tup (da_cons (dv 6) (da_cons (dv 4) (da_cons (de_callH c_law_target (hr.mono (by omega)) rfl (da_cons (dv 0) (da_cons (dv 1) da_nil))) (da_cons (de_callH c_law_simple (hr.mono (by omega)) rfl (da_cons (dv 0) (da_cons (dv 1) da_nil))) da_nil))))))
    (dss_one (ds_set (i := 3) sc_law_alt.nd rfl (Or.inl rfl) (de_ifExp (dt_cmp (op_eq_d (hu2 hr)) (de_callH c_law_draw (hr.mono (by omega)) rfl (da_cons (dv 0) (da_cons de_int da_nil))) de_int (nomark _)) (de_op op_add_d (dv 3) (de_lst (da_cons (dv 5) da_nil))) (de_op op_add_d (de_lst (da_cons (dv 5) da_nil)) (dv 3))))))) dss_nil)))
    (dss_one (ds_ret (de_tup (da_cons de_str (da_cons (dv 3) da_nil))))))), ?_⟩
  rintro _ M Q ⟨_, _, _, rfl, sa, ca, ea, R, v, n, C, k, rfl, rfl, rfl, hk, hC, S0, hs, hc, E0, V, h⟩
  walk_at "s0"
  walk_at "st"
  refine ⟨_, _, rfl, sa, ca, ea, R, v, n, C, rfl, rfl, S0, hs, hc, E0, V, fun t M1 ht S1 f1 => ?_⟩
  have E1 := E0.fr hs hc f1
  walk_at "st"
  refine ⟨_, _, rfl, sa, ca, ea, R, v, n, C, rfl, rfl, S1, hs, hc, E1, V, fun s1 M2 hs1 S2 f2 => ?_⟩
  have E2 := E1.fr hs hc f2
  walk_at "st"
  refine ⟨_, _, _, rfl, E2.rc, rfl, ?_⟩
  have f02 := f1.trans f2
  have main : ∀ (G : Mh → Prop), (∀ M', Fr2 sa ca M2 M' → G M') → loopD (dName 4) (dIfS (dAnd (dTest (dOp rEq (dCB rLen (dCons (dLc (dIL (dV 3)) (dName 5) (dTest (dOp rEq (dOp rIx (dV 5) (dC (D.int 1))) (dV 4))) (dV 5) [5]) dNil)) (dC (D.int 0)))) (dTest (dOp rEq (dCall spDraw (dCons (dV 0) (dCons (dC (D.int 2)) dNil))) (dC (D.int 0)))))
      (dSeq (dAsg (dIf (dTest (dOp rEq (dCall spDraw (dCons (dV 0) (dCons (dC (D.int 2)) dNil))) (dC (D.int 0)))) (dC D.non) (dCall (spExpr 3) (dCons (dV 0) (dCons (dV 1) (dCons (dC (D.int 1)) dNil))))) (dName 6))
        (dSeq (dAsg (dTup (dCons (dV 6) (dCons (dV 4) (dCons (dCall (spEnvE fun n e => e.tgt = true ∧ EOk n 2 98 e) (dCons (dV 0) (dCons (dV 1) dNil))) (dCons (dCall (spEnvS fun n C s => SOk n C 7 2 2150 s) (dCons (dV 0) (dCons (dV 1) dNil))) dNil))))) (dName 5))
          (dAsg (dIf (dTest (dOp rEq (dCall spDraw (dCons (dV 0) (dCons (dC (D.int 2)) dNil))) (dC (D.int 0)))) (dOp rAdd (dV 3) (dLst (dCons (dV 5) dNil))) (dOp rAdd (dLst (dCons (dV 5) dNil)) (dV 3))) (dName 3)))) dNext)
      ⟨fun σ M => dRet (dTup (dCons (dC (D.str (Str.ofString "alt"))) (dCons (dV 3) dNil))) (endsOf Q) σ M, rtOf Q, fun _ _ => False, fun _ _ => False⟩ G (v.ts.map N)
      [some (.ref sa), some (.ref ea), some (N k), some (.lst [.tup [.non, N k, t.d, s1.d]]), none, none, none] M2 := by
    intro G hG
    refine loop_by (fun i σ M' => ∃ rows x4 x5 x6, σ = [some (.ref sa), some (.ref ea), some (N k), some (.lst (rows.map rowD)), x4, x5, x6] ∧ RowsOk n C rows ∧ StAt sa ca M' ∧ Fr2 sa ca M2 M') (fun i σ M' _ ⟨_, _, _, _, _, _, _, fr⟩ => hG M' fr) ?_ ?_
      ⟨[(none, k, t, s1)], none, none, none, rfl, ⟨by simp, by simp, fun x hx => by rw [List.mem_singleton.mp hx]; exact ⟨trivial, Nat.le_of_ble_eq_true rfl, hk, ht, hs1⟩⟩, S2, Fr2.refl⟩
    · rintro i d σ M' nx hd ⟨rows, x4, x5, x6, rfl, ok, S3, f3⟩ hnx
      have hd2 := List.mem_of_getElem? hd
      obtain ⟨o, ho, rfl⟩ := mem_N hd2
      have hoC := V.t o ho
      have hrl := ok.len
      have E3 := E2.fr hs hc f3
      walk_at "st"
      intro p hp
      refine lc_map (G := fun _ => True) rows rowD (fun r => decide (r.2.1 = o)) rowD (by rw [sizeLine_eq]; omega) (by exact fun _ => trivial) (fun r hr' acc Ky Kn hh => ?_) ?_
      · walk_at "st"
        refine iteP (fun c => ?_) (fun c => ?_)
        · rw [if_pos (by rw [decide_eq_true_eq]; exact Int.ofNat_inj.mp c)] at hh
          exact hh
        · rw [if_neg (by rw [decide_eq_true_eq]; exact fun z => c (by rw [z]))] at hh
          exact hh
      simp only [del_upd hp]
      walk_at "st"
      refine ⟨_, .lst, ?_⟩
      rw [List.length_map]
      refine iteP (fun c => ?_) (fun c => ?_)
      · have hno : ∀ r ∈ rows, r.2.1 ≠ o := by
          have h0 : (rows.filter fun r => decide (r.2.1 = o)) = [] := List.length_eq_zero_iff.mp (by omega)
          intro r hr z
          have h1 := List.filter_eq_nil_iff.mp h0 r hr
          exact h1 (by rw [z]; exact decide_eq_true rfl)
        have two : ∀ {r : ARow}, RowOk n C r → r.2.1 = o → RowsOk n C (rows ++ [r]) ∧ RowsOk n C (r :: rows) := by
          intro r hr e
          have n1 : ((rows ++ [r]).map fun r => r.2.1).Nodup := by
            rw [List.map_append, List.nodup_append]
            refine ⟨ok.nd, by simp, fun a ha b hb z => ?_⟩
            obtain ⟨x, hx, rfl⟩ := List.mem_map.mp ha
            rw [List.map_cons, List.map_nil, List.mem_singleton] at hb
            exact hno x hx (by rw [z, hb, e])
          have n2 : ((r :: rows).map fun r => r.2.1).Nodup := by
            rw [List.map_cons, List.nodup_cons]
            refine ⟨fun ha => ?_, ok.nd⟩
            obtain ⟨x, hx, z⟩ := List.mem_map.mp ha
            exact hno x hx (by rw [z, e])
          refine ⟨⟨by simp, n1, fun x hx => ?_⟩, ⟨by simp, n2, fun x hx => ?_⟩⟩
          · rcases List.mem_append.mp hx with h1 | h1
            · exact ok.r x h1
            · rw [List.mem_singleton.mp h1]; exact hr
          · rcases List.mem_cons.mp hx with h1 | h1
            · rw [h1]; exact hr
            · exact ok.r x h1
        walk_at "st"
        refine ⟨_, _, rfl, sa, ca, 2, rfl, rfl, by decide, by decide, S3, fun i1 M4 hi1 S4 f4 => ?_⟩
        have f04 := f3.trans f4
        walk_at "st"
        refine iteP (fun c2 => ?_) (fun c2 => ?_)
        · walk_at "st"
          refine ⟨_, _, rfl, sa, ca, 2, rfl, rfl, by decide, by decide, S4, fun i2 M5 hi2 S5 f5 => ?_⟩
          have f05 := f04.trans f5
          walk_at "st"
          refine iteP (fun c3 => ?_) (fun c3 => ?_)
          · have E6 := E2.fr hs hc f05
            walk_at "st"
            refine ⟨_, _, rfl, sa, ca, ea, R, v, n, C, rfl, rfl, S5, hs, hc, E6, V, fun t2 M7 ht2 S7 f7 => ?_⟩
            have E7 := E6.fr hs hc f7
            walk_at "st"
            refine ⟨_, _, rfl, sa, ca, ea, R, v, n, C, rfl, rfl, S7, hs, hc, E7, V, fun s2 M8 hs2 S8 f8 => ?_⟩
            walk_at "st"
            refine ⟨_, _, rfl, sa, ca, 2, rfl, rfl, by decide, by decide, S8, fun i3 M9 hi3 S9 f9 => ?_⟩
            have f09 := ((f05.trans f7).trans f8).trans f9
            obtain ⟨ok1, ok2⟩ := two (r := (none, o, t2, s2)) ⟨trivial, Nat.le_of_ble_eq_true rfl, hoC, ht2, hs2⟩ rfl
            walk_at "st"
            refine iteP (fun c3 => ?_) (fun c3 => ?_)
            · walk_at "st"
              refine ⟨_, _, .lst, .lst, by rw [sizeLine_eq, List.length_map]; simp only [List.length_cons, List.length_nil]; omega, ?_⟩
              refine hnx _ _ ⟨rows ++ [(none, o, t2, s2)], some (N o), some (.tup [optE (none), N o, t2.d, s2.d]), some (optE (none)), ?_, ok1, S9, f09⟩
              rw [List.map_append]
              rfl
            · walk_at "st"
              refine ⟨_, _, .lst, .lst, by rw [sizeLine_eq, List.length_map]; simp only [List.length_cons, List.length_nil]; omega, ?_⟩
              exact hnx _ _ ⟨(none, o, t2, s2) :: rows, _, _, _, rfl, ok2, S9, f09⟩
          · have E5 := E2.fr hs hc f05
            refine ⟨_, _, _, rfl, sa, ca, ea, R, v, n, C, 1, rfl, rfl, rfl, by decide, S5, hs, hc, E5, V, fun e M6 he S6 f6 => ?_⟩
            have E6 := E2.fr hs hc (f05.trans f6)
            walk_at "st"
            refine ⟨_, _, rfl, sa, ca, ea, R, v, n, C, rfl, rfl, S6, hs, hc, E6, V, fun t2 M7 ht2 S7 f7 => ?_⟩
            have E7 := E6.fr hs hc f7
            walk_at "st"
            refine ⟨_, _, rfl, sa, ca, ea, R, v, n, C, rfl, rfl, S7, hs, hc, E7, V, fun s2 M8 hs2 S8 f8 => ?_⟩
            walk_at "st"
            refine ⟨_, _, rfl, sa, ca, 2, rfl, rfl, by decide, by decide, S8, fun i3 M9 hi3 S9 f9 => ?_⟩
            have f09 := (((f05.trans f6).trans f7).trans f8).trans f9
            obtain ⟨ok1, ok2⟩ := two (r := (some e, o, t2, s2)) ⟨⟨he.1, by have := he.2.1; omega⟩, he.2.2, hoC, ht2, hs2⟩ rfl
            walk_at "st"
            refine iteP (fun c3 => ?_) (fun c3 => ?_)
            · walk_at "st"
              refine ⟨_, _, .lst, .lst, by rw [sizeLine_eq, List.length_map]; simp only [List.length_cons, List.length_nil]; omega, ?_⟩
              refine hnx _ _ ⟨rows ++ [(some e, o, t2, s2)], some (N o), some (.tup [optE (some e), N o, t2.d, s2.d]), some (optE (some e)), ?_, ok1, S9, f09⟩
              rw [List.map_append]
              rfl
            · walk_at "st"
              refine ⟨_, _, .lst, .lst, by rw [sizeLine_eq, List.length_map]; simp only [List.length_cons, List.length_nil]; omega, ?_⟩
              exact hnx _ _ ⟨(some e, o, t2, s2) :: rows, _, _, _, rfl, ok2, S9, f09⟩
        · exact hnx _ _ ⟨rows, _, _, _, rfl, ok, S4, f04⟩
      · exact hnx _ _ ⟨rows, _, _, _, rfl, ok, S3, f3⟩
    · rintro σ M' ⟨rows, x4, x5, x6, rfl, ok, S3, f3⟩
      walk_at "st"
      have q := h rows _ ok S3 (f02.trans f3)
      have ed : (Stm.alt rows).d = .tup [S "alt", .lst (rows.map rowD)] := by rw [← rowsD_map]; rfl
      rw [ed] at q
      exact rt_same q
  rcases E2.t with e | ⟨a, e, na, em⟩
  · dsimp only
    rw [e]
    exact main _ fun _ _ => trivial
  · dsimp only
    rw [e]
    exact ⟨_, em, main _ fun M' f => f a _ (fun z => na (z ▸ hs)) (fun z => na (z ▸ hc)) em⟩
end
end Dl
namespace Dl
open PySem PySem.Spec PyProof.Rows L2 Mi
local macro_rules | `(tactic| walk_at "dl") => `(tactic| simp only [dRet, dOp, dSl, dV, dNoP, dPart, dLst, dLstM, dCons, dNil, dC, startD, rAdd, rAddM, rIx, rEq, rNe, rII, rII0, rIB0, rMul, rIsN, rNotN, isNon, dNeg, dTest, dAnd, dOr, dNot, dAndV, dOrV, dNotV, dIf, dTup, dFrz, dCB, rLen, rInt1, rAbs1, rMin2, rAll1, dBM, rApp, rExt, rPop0,
  dGet, dPut, dNext, dSeq, dDrop, dIfS, dName, dgNil, dgCons, dgTup, dAsg, dSub, rSet, dPar, dIL, dIT, dIR, dIE, dIZ, dFor, dYes, dCall, dLc, dLcM, dLcF, dPair, dGetT, dInT, dPutT, dNewT, wipeD,
  natsD, isL_lst, isL_ref, seqIn_tup, seqIn_lst, rIn, flatD, eqD, List.all_cons, List.all_nil, List.any_cons, List.any_nil, sizeLine_eq, Nat.reduceLeDiff, Nat.reduceLT, Bool.or_false, Bool.and_true, Bool.true_and, Bool.false_and, Bool.false_or, Bool.or_true, Bool.true_or, Bool.and_false, tupAt, optE, endsOf,
  List.map_cons, List.map_nil, List.length_cons, List.length_nil, List.cons_append, List.nil_append, List.append_nil, List.getElem?_cons_zero, List.getElem?_cons_succ, List.getElem?_nil, List.set_cons_zero, List.set_cons_succ, List.replicate_succ, List.replicate_zero, List.length_append, List.replicate,
  of_sE, String.reduceEq, decide_true, decide_false, Bool.false_eq_true, Bool.not_true, Bool.not_false, reduceIte, exists_eq_left, exists_eq_left', true_and, and_true, if_true, if_false, ite_true, ite_false, Nat.reduceAdd, Nat.reduceSub, Nat.reduceBEq, BEq.rfl, beq_self_eq_true, D.ref.injEq, D.int.injEq, D.str.injEq, D.lst.injEq, D.tup.injEq, List.cons.injEq, exists_and_left, exists_const, and_self])
local macro_rules | `(tactic| walk_at "s0") => `(tactic| (dsimp only [startD, List.length_cons, List.length_nil, List.map_cons, List.map_nil, List.cons_append, List.nil_append, Nat.reduceAdd, Nat.reduceSub, List.replicate_succ, List.replicate_zero]))
local macro_rules | `(tactic| walk_at "st") => `(tactic| ((conv => whnf); (try dsimp only [List.set_cons_zero, List.set_cons_succ]); repeat ((refine ⟨Nat.le_of_ble_eq_true rfl, ?_⟩); (conv => whnf); (try dsimp only [List.set_cons_zero, List.set_cons_succ]))))

section
variable {P : Program} {K : PySem.W.Frag} {mg : Str → Option Value} {w : World} {base : Heap}
/-! ### the generator's world -/
structure Wd where
  t : Nat
  l : Nat
  i : Nat
  c : Nat
  cha : Addr
  al : Bool
  lo : Bool
def Wd.kvs (u : Wd) : List (Key × D) := [(.inr (Str.ofString "threads"), N u.t), (.inr (Str.ofString "left"), N u.l), (.inr (Str.ofString "items"), N u.i), (.inr (Str.ofString "cells"), N u.c), (.inr (Str.ofString "channels"), .ref u.cha), (.inr (Str.ofString "alts"), .bl u.al), (.inr (Str.ofString "loops"), .bl u.lo)]
theorem put_c (u : Wd) (x : Nat) : putD u.kvs (.inr (Str.ofString "cells")) (N x) = ({ u with c := x } : Wd).kvs := rfl
theorem put_t (u : Wd) (x : Nat) : putD u.kvs (.inr (Str.ofString "threads")) (N x) = ({ u with t := x } : Wd).kvs := rfl
theorem put_l (u : Wd) (x : Nat) : putD u.kvs (.inr (Str.ofString "left")) (N x) = ({ u with l := x } : Wd).kvs := rfl
theorem put_i (u : Wd) (x : Nat) : putD u.kvs (.inr (Str.ofString "items")) (N x) = ({ u with i := x } : Wd).kvs := rfl
def spMore : SpD := sp2 fun a b M Q => ∃ (wa : Addr) (u : Wd) (m : Nat), a = .ref wa ∧ b = N m ∧ M wa = some (.dK u.kvs) ∧ Q (N u.c) (mupd M wa (.dK ({ u with c := u.c + m } : Wd).kvs))
abbrev n_law_more_cells : List Str := ["_law_world", "_law_many_here"]
theorem sc_law_more_cells : FnScope n_law_more_cells ["_law_world", "_law_many_here"] (defScope s_law_more_cells) := ⟨rfl, rfl, rfl, by decide +kernel, rfl, by decide +kernel, by decide +kernel⟩
/-- _law_more_cells; slots 0 _law_world, 1 _law_many_here; cells []; calls [] -/
theorem ok_law_more_cells (B : Bl K mg) (Tx : Txt K mg "_law_more_cells" s_law_more_cells) : Have P w K mg base "_law_more_cells" ["_law_world", "_law_many_here"] 1 spMore := by
  refine have_of Tx sc_law_more_cells (fun _ _ _ _ _ _ us hl => match us, hl with | [_, _], _ => rfl) len2 fun cdv f A outer s H E hr => ⟨_, (dss_cons (ds_dput (hu_of hr) (dv 0) (de_op op_add_d (de_dget (hu_of hr) (dv 0) (fun _ _ => rfl)) (dv 1)))
    (dss_one (ds_ret (de_op op_sub_d (de_dget (hu_of hr) (dv 0) (fun _ _ => rfl)) (dv 1))))), ?_⟩
  rintro _ M Q ⟨_, _, rfl, wa, u, m, rfl, rfl, hw, h⟩
  walk_at "s0"
  walk_at "st"
  refine ⟨_, _, _, rfl, hw, rfl, ?_⟩
  walk_at "st"
  refine ⟨_, _, rfl, hw, by rw [sizeLine_eq]; exact Nat.le_of_ble_eq_true rfl, ?_⟩
  have e1 : (D.int ((u.c : Int) + (m : Int))) = N (u.c + m) := rfl
  have e2 : putD u.kvs (.inr (Str.ofString "cells")) (.int ((u.c : Int) + (m : Int))) = ({ u with c := u.c + m } : Wd).kvs := put_c u (u.c + m)
  rw [e2]
  walk_at "st"
  refine ⟨_, _, _, rfl, mupd_same, rfl, ?_⟩
  walk_at "st"
  have e3 : (((u.c + m : Nat) : Int) - (m : Int)) = (u.c : Int) := by omega
  refine rt_same ?_
  rw [show (D.int (((u.c + m : Nat) : Int) - (m : Int))) = N u.c from congrArg D.int e3]
  exact h
end
end Dl
namespace Dl
open PySem PySem.Spec PyProof.Rows L2 Mi
local macro_rules | `(tactic| walk_at "dl") => `(tactic| simp only [dRet, dOp, dSl, dV, dNoP, dPart, dLst, dLstM, dCons, dNil, dC, startD, rAdd, rAddM, rIx, rEq, rNe, rII, rII0, rIB0, rMul, rIsN, rNotN, isNon, dNeg, dTest, dAnd, dOr, dNot, dAndV, dOrV, dNotV, dIf, dTup, dFrz, dCB, rLen, rInt1, rAbs1, rMin2, rAll1, dBM, rApp, rExt, rPop0,
  dGet, dPut, dNext, dSeq, dDrop, dIfS, dName, dgNil, dgCons, dgTup, dAsg, dSub, rSet, dPar, dIL, dIT, dIR, dIE, dIZ, dFor, dYes, dCall, dLc, dLcM, dLcF, dPair, dGetT, dInT, dPutT, dNewT, wipeD,
  natsD, isL_lst, isL_ref, seqIn_tup, seqIn_lst, rIn, flatD, eqD, List.all_cons, List.all_nil, List.any_cons, List.any_nil, sizeLine_eq, Nat.reduceLeDiff, Nat.reduceLT, Bool.or_false, Bool.and_true, Bool.true_and, Bool.false_and, Bool.false_or, Bool.or_true, Bool.true_or, Bool.and_false, tupAt, optE, endsOf,
  List.map_cons, List.map_nil, List.length_cons, List.length_nil, List.cons_append, List.nil_append, List.append_nil, List.getElem?_cons_zero, List.getElem?_cons_succ, List.getElem?_nil, List.set_cons_zero, List.set_cons_succ, List.replicate_succ, List.replicate_zero, List.length_append, List.replicate,
  of_sE, String.reduceEq, decide_true, decide_false, Bool.false_eq_true, Bool.not_true, Bool.not_false, reduceIte, exists_eq_left, exists_eq_left', true_and, and_true, if_true, if_false, ite_true, ite_false, Nat.reduceAdd, Nat.reduceSub, Nat.reduceBEq, BEq.rfl, beq_self_eq_true, D.ref.injEq, D.int.injEq, D.str.injEq, D.lst.injEq, D.tup.injEq, List.cons.injEq, exists_and_left, exists_const, and_self])
local macro_rules | `(tactic| walk_at "s0") => `(tactic| (dsimp only [startD, List.length_cons, List.length_nil, List.map_cons, List.map_nil, List.cons_append, List.nil_append, Nat.reduceAdd, Nat.reduceSub, List.replicate_succ, List.replicate_zero]))
local macro_rules | `(tactic| walk_at "st") => `(tactic| ((conv => whnf); (try dsimp only [List.set_cons_zero, List.set_cons_succ]); repeat ((refine ⟨Nat.le_of_ble_eq_true rfl, ?_⟩); (conv => whnf); (try dsimp only [List.set_cons_zero, List.set_cons_succ]))))

section
variable {P : Program} {K : PySem.W.Frag} {mg : Str → Option Value} {w : World} {base : Heap}
def spFaulty : SpD := sp2 fun a b M Q => ∃ (sa ca : Addr) (R : List Addr) (ds : List D), a = .ref sa ∧ sa ∈ R ∧ ca ∈ R ∧ LstAt R M b ds ∧ ds.length ≤ 900000 ∧ StAt sa ca M ∧
  ∀ y es M', (y = .lst es ∨ (y = b ∧ es = ds)) → (∀ d ∈ es, d ∈ ds) → es.length ≤ ds.length → StAt sa ca M' → Fr2 sa ca M M' → Q y M'
abbrev n_law_faulty : List Str := ["_law_state_here", "_law_script", "_law_at"]
theorem sc_law_faulty : FnScope n_law_faulty ["_law_state_here", "_law_script"] (defScope s_law_faulty) := ⟨rfl, rfl, rfl, by decide +kernel, rfl, by decide +kernel, by decide +kernel⟩
/-- _law_faulty; slots 0 _law_state_here, 1 _law_script, 2 _law_at; cells []; calls ['_law_draw'] -/
theorem ok_law_faulty (B : Bl K mg) (Tx : Txt K mg "_law_faulty" s_law_faulty) (c_law_draw : Have P w K mg base "_law_draw" ["_law_state_here", "_law_many_here"] 1 spDraw) : Have P w K mg base "_law_faulty" ["_law_state_here", "_law_script"] 2 spFaulty := by
  refine have_of Tx sc_law_faulty (fun _ _ _ _ _ _ us hl => match us, hl with | [_, _], _ => rfl) len2 fun cdv f A outer s H E hr => ⟨_, (dss_cons (ds_if (dt_w (dw_and (dt_cmp op_gt_d (de_callB call_len_d rfl B.len PySem.boot_len (da_cons (dv 1) da_nil)) de_int (nomark _)) (dw_and1 (dt_cmp (op_eq_d (hu2 hr)) (de_callH c_law_draw (hr.mono (by omega)) rfl (da_cons (dv 0) (da_cons de_int da_nil))) de_int (nomark _))))) (dss_cons (ds_set (i := 2) sc_law_faulty.nd rfl (Or.inl rfl) (de_callH c_law_draw (hr.mono (by omega)) rfl (da_cons (dv 0) (da_cons (de_op op_sub_d (de_callB call_len_d rfl B.len PySem.boot_len (da_cons (dv 1) da_nil)) de_int) da_nil))))
    (dss_one (ds_ret (de_op op_add_d (de_op op_add_d (de_slice (dv 1) do_none (do_some (dv 2))) (de_lst (da_cons (de_ix (dv 1) (de_op op_add_d (dv 2) de_int)) (da_cons (de_ix (dv 1) (dv 2)) da_nil)))) (de_slice (dv 1) (do_some (de_op op_add_d (dv 2) de_int)) do_none))))) dss_nil)
    (dss_cons (ds_if (dt_w (dw_and (dt_cmp op_gt_d (de_callB call_len_d rfl B.len PySem.boot_len (da_cons (dv 1) da_nil)) de_int (nomark _)) (dw_and1 (dt_cmp (op_eq_d (hu2 hr)) (de_callH c_law_draw (hr.mono (by omega)) rfl (da_cons (dv 0) (da_cons de_int da_nil))) de_int (nomark _))))) (dss_cons (ds_set (i := 2) sc_law_faulty.nd rfl (Or.inl rfl) (de_callH c_law_draw (hr.mono (by omega)) rfl (da_cons (dv 0) (da_cons (de_callB call_len_d rfl B.len PySem.boot_len (da_cons (dv 1) da_nil)) da_nil))))
    (dss_one (ds_ret (de_op op_add_d (de_slice (dv 1) do_none (do_some (dv 2))) (de_slice (dv 1) (do_some (de_op op_add_d (dv 2) de_int)) do_none))))) dss_nil)
    (dss_one (ds_ret (dv 1))))), ?_⟩
  rintro _ M Q ⟨_, x, rfl, sa, ca, R, ds, rfl, hs, hc, L0, hz, S0, h⟩
  rcases L0 with rfl | ⟨xa, rfl, na, em⟩
  · walk_at "s0"
    walk_at "st"
    refine ⟨_, .lst, ?_⟩
    refine iteP (fun c => ?_) (fun c => ?_)
    · walk_at "st"
      refine ⟨_, _, rfl, sa, ca, 6, rfl, rfl, by decide, by decide, S0, fun i M1 hi S1 f1 => ?_⟩
      walk_at "st"
      refine iteP (fun c2 => ?_) (fun c2 => ?_)
      · walk_at "st"
        refine ⟨_, .lst, ?_⟩
        walk_at "st"
        have en : (((ds.length : Nat) : Int) - 1) = ((ds.length - 1 : Nat) : Int) := by omega
        rw [en]
        refine ⟨_, _, rfl, sa, ca, ds.length - 1, rfl, rfl, by omega, by omega, S1, fun k M2 hk S2 f2 => ?_⟩
        have f12 := f1.trans f2
        have g1 := get_of_lt (l := ds) (i := k) .non (by omega)
        have g2 := get_of_lt (l := ds) (i := k + 1) .non (by omega)
        have e1 : cutD ds none (some ((k : Nat) : Int)) = ds.take k := cut_lo ds k
        have e2 : cutD ds (some (((k : Nat) : Int) + 2)) none = ds.drop (k + 2) := cut_hi ds (k + 2)
        walk_at "st"
        refine ⟨_, .lst, ?_⟩
        walk_at "st"
        refine ⟨_, atI_nat (j := k + 1) g2, ?_⟩
        walk_at "st"
        refine ⟨_, atI_nat (j := k) g1, ?_⟩
        walk_at "st"
        rw [e1]
        refine ⟨_, _, .lst, .lst, by rw [sizeLine_eq, List.length_take]; simp only [List.length_cons, List.length_nil]; omega, ?_⟩
        walk_at "st"
        refine ⟨_, .lst, ?_⟩
        rw [e2]
        refine ⟨_, _, .lst, .lst, by rw [sizeLine_eq, List.length_append, List.length_take, List.length_drop]; simp only [List.length_cons, List.length_nil]; omega, ?_⟩
        refine rt_same (h _ (ds.take k ++ [ds.getD (k + 1) .non, ds.getD k .non] ++ ds.drop (k + 2)) _ (.inl rfl) (fun d hd => ?_) (by rw [List.length_append, List.length_append, List.length_take, List.length_drop]; simp only [List.length_cons, List.length_nil]; omega) S2 f12)
        rcases List.mem_append.mp hd with h1 | h1
        · rcases List.mem_append.mp h1 with h1 | h1
          · exact List.mem_of_mem_take h1
          · simp only [List.mem_cons, List.not_mem_nil, or_false] at h1
            rcases h1 with rfl | rfl
            · exact List.mem_of_getElem? g2
            · exact List.mem_of_getElem? g1
        · exact List.mem_of_mem_drop h1
      · skip
        walk_at "st"
        refine ⟨_, .lst, ?_⟩
        refine iteP (fun c' => ?_) (fun c' => ?_)
        · walk_at "st"
          refine ⟨_, _, rfl, sa, ca, 12, rfl, rfl, by decide, by decide, S1, fun j M3 hj S3 f3 => ?_⟩
          have f13 := (f1).trans f3
          walk_at "st"
          refine iteP (fun c3 => ?_) (fun c3 => ?_)
          · walk_at "st"
            refine ⟨_, .lst, ?_⟩
            refine ⟨_, _, rfl, sa, ca, ds.length, rfl, rfl, by omega, by omega, S3, fun k M4 hk S4 f4 => ?_⟩
            have f14 := f13.trans f4
            walk_at "st"
            refine ⟨_, .lst, ?_⟩
            walk_at "st"
            refine ⟨_, .lst, ?_⟩
            walk_at "st"
            have e1 : cutD ds none (some ((k : Nat) : Int)) = ds.take k := cut_lo ds k
            have e2 : cutD ds (some (((k : Nat) : Int) + 1)) none = ds.drop (k + 1) := cut_hi ds (k + 1)
            rw [e1, e2]
            refine ⟨_, _, .lst, .lst, by rw [sizeLine_eq, List.length_take, List.length_drop]; omega, ?_⟩
            refine rt_same (h _ (ds.take k ++ ds.drop (k + 1)) _ (.inl rfl) (fun d hd => ?_) (by rw [List.length_append, List.length_take, List.length_drop]; omega) S4 f14)
            rcases List.mem_append.mp hd with h1 | h1
            · exact List.mem_of_mem_take h1
            · exact List.mem_of_mem_drop h1
          · walk_at "st"
            exact rt_same (h _ ds _ (.inr ⟨rfl, rfl⟩) (fun d hd => hd) (Nat.le_refl _) S3 f13)
        · walk_at "st"
          exact rt_same (h _ ds _ (.inr ⟨rfl, rfl⟩) (fun d hd => hd) (Nat.le_refl _) S1 (f1))
    · skip
      walk_at "st"
      refine ⟨_, .lst, ?_⟩
      refine iteP (fun c' => ?_) (fun c' => ?_)
      · walk_at "st"
        refine ⟨_, _, rfl, sa, ca, 12, rfl, rfl, by decide, by decide, S0, fun j M3 hj S3 f3 => ?_⟩
        have f13 := (Fr2.refl).trans f3
        walk_at "st"
        refine iteP (fun c3 => ?_) (fun c3 => ?_)
        · walk_at "st"
          refine ⟨_, .lst, ?_⟩
          refine ⟨_, _, rfl, sa, ca, ds.length, rfl, rfl, by omega, by omega, S3, fun k M4 hk S4 f4 => ?_⟩
          have f14 := f13.trans f4
          walk_at "st"
          refine ⟨_, .lst, ?_⟩
          walk_at "st"
          refine ⟨_, .lst, ?_⟩
          walk_at "st"
          have e1 : cutD ds none (some ((k : Nat) : Int)) = ds.take k := cut_lo ds k
          have e2 : cutD ds (some (((k : Nat) : Int) + 1)) none = ds.drop (k + 1) := cut_hi ds (k + 1)
          rw [e1, e2]
          refine ⟨_, _, .lst, .lst, by rw [sizeLine_eq, List.length_take, List.length_drop]; omega, ?_⟩
          refine rt_same (h _ (ds.take k ++ ds.drop (k + 1)) _ (.inl rfl) (fun d hd => ?_) (by rw [List.length_append, List.length_take, List.length_drop]; omega) S4 f14)
          rcases List.mem_append.mp hd with h1 | h1
          · exact List.mem_of_mem_take h1
          · exact List.mem_of_mem_drop h1
        · walk_at "st"
          exact rt_same (h _ ds _ (.inr ⟨rfl, rfl⟩) (fun d hd => hd) (Nat.le_refl _) S3 f13)
      · walk_at "st"
        exact rt_same (h _ ds _ (.inr ⟨rfl, rfl⟩) (fun d hd => hd) (Nat.le_refl _) S0 (Fr2.refl))
  · have n1 : xa ≠ sa := fun z => na (z ▸ hs)
    have n2 : xa ≠ ca := fun z => na (z ▸ hc)
    walk_at "s0"
    walk_at "st"
    refine ⟨_, .ref (em), ?_⟩
    refine iteP (fun c => ?_) (fun c => ?_)
    · walk_at "st"
      refine ⟨_, _, rfl, sa, ca, 6, rfl, rfl, by decide, by decide, S0, fun i M1 hi S1 f1 => ?_⟩
      walk_at "st"
      refine iteP (fun c2 => ?_) (fun c2 => ?_)
      · walk_at "st"
        refine ⟨_, .ref (f1 xa _ n1 n2 em), ?_⟩
        walk_at "st"
        have en : (((ds.length : Nat) : Int) - 1) = ((ds.length - 1 : Nat) : Int) := by omega
        rw [en]
        refine ⟨_, _, rfl, sa, ca, ds.length - 1, rfl, rfl, by omega, by omega, S1, fun k M2 hk S2 f2 => ?_⟩
        have f12 := f1.trans f2
        have g1 := get_of_lt (l := ds) (i := k) .non (by omega)
        have g2 := get_of_lt (l := ds) (i := k + 1) .non (by omega)
        have e1 : cutD ds none (some ((k : Nat) : Int)) = ds.take k := cut_lo ds k
        have e2 : cutD ds (some (((k : Nat) : Int) + 2)) none = ds.drop (k + 2) := cut_hi ds (k + 2)
        walk_at "st"
        refine ⟨_, .ref (f12 xa _ n1 n2 em), ?_⟩
        walk_at "st"
        refine ⟨_, _, f12 xa _ n1 n2 em, atI_nat (j := k + 1) g2, ?_⟩
        walk_at "st"
        refine ⟨_, _, f12 xa _ n1 n2 em, atI_nat (j := k) g1, ?_⟩
        walk_at "st"
        rw [e1]
        refine ⟨_, _, .lst, .lst, by rw [sizeLine_eq, List.length_take]; simp only [List.length_cons, List.length_nil]; omega, ?_⟩
        walk_at "st"
        refine ⟨_, .ref (f12 xa _ n1 n2 em), ?_⟩
        rw [e2]
        refine ⟨_, _, .lst, .lst, by rw [sizeLine_eq, List.length_append, List.length_take, List.length_drop]; simp only [List.length_cons, List.length_nil]; omega, ?_⟩
        refine rt_same (h _ (ds.take k ++ [ds.getD (k + 1) .non, ds.getD k .non] ++ ds.drop (k + 2)) _ (.inl rfl) (fun d hd => ?_) (by rw [List.length_append, List.length_append, List.length_take, List.length_drop]; simp only [List.length_cons, List.length_nil]; omega) S2 f12)
        rcases List.mem_append.mp hd with h1 | h1
        · rcases List.mem_append.mp h1 with h1 | h1
          · exact List.mem_of_mem_take h1
          · simp only [List.mem_cons, List.not_mem_nil, or_false] at h1
            rcases h1 with rfl | rfl
            · exact List.mem_of_getElem? g2
            · exact List.mem_of_getElem? g1
        · exact List.mem_of_mem_drop h1
      · skip
        walk_at "st"
        refine ⟨_, .ref (f1 xa _ n1 n2 em), ?_⟩
        refine iteP (fun c' => ?_) (fun c' => ?_)
        · walk_at "st"
          refine ⟨_, _, rfl, sa, ca, 12, rfl, rfl, by decide, by decide, S1, fun j M3 hj S3 f3 => ?_⟩
          have f13 := (f1).trans f3
          walk_at "st"
          refine iteP (fun c3 => ?_) (fun c3 => ?_)
          · walk_at "st"
            refine ⟨_, .ref (f13 xa _ n1 n2 em), ?_⟩
            refine ⟨_, _, rfl, sa, ca, ds.length, rfl, rfl, by omega, by omega, S3, fun k M4 hk S4 f4 => ?_⟩
            have f14 := f13.trans f4
            walk_at "st"
            refine ⟨_, .ref (f14 xa _ n1 n2 em), ?_⟩
            walk_at "st"
            refine ⟨_, .ref (f14 xa _ n1 n2 em), ?_⟩
            walk_at "st"
            have e1 : cutD ds none (some ((k : Nat) : Int)) = ds.take k := cut_lo ds k
            have e2 : cutD ds (some (((k : Nat) : Int) + 1)) none = ds.drop (k + 1) := cut_hi ds (k + 1)
            rw [e1, e2]
            refine ⟨_, _, .lst, .lst, by rw [sizeLine_eq, List.length_take, List.length_drop]; omega, ?_⟩
            refine rt_same (h _ (ds.take k ++ ds.drop (k + 1)) _ (.inl rfl) (fun d hd => ?_) (by rw [List.length_append, List.length_take, List.length_drop]; omega) S4 f14)
            rcases List.mem_append.mp hd with h1 | h1
            · exact List.mem_of_mem_take h1
            · exact List.mem_of_mem_drop h1
          · walk_at "st"
            exact rt_same (h _ ds _ (.inr ⟨rfl, rfl⟩) (fun d hd => hd) (Nat.le_refl _) S3 f13)
        · walk_at "st"
          exact rt_same (h _ ds _ (.inr ⟨rfl, rfl⟩) (fun d hd => hd) (Nat.le_refl _) S1 (f1))
    · skip
      walk_at "st"
      refine ⟨_, .ref (em), ?_⟩
      refine iteP (fun c' => ?_) (fun c' => ?_)
      · walk_at "st"
        refine ⟨_, _, rfl, sa, ca, 12, rfl, rfl, by decide, by decide, S0, fun j M3 hj S3 f3 => ?_⟩
        have f13 := (Fr2.refl).trans f3
        walk_at "st"
        refine iteP (fun c3 => ?_) (fun c3 => ?_)
        · walk_at "st"
          refine ⟨_, .ref (f13 xa _ n1 n2 em), ?_⟩
          refine ⟨_, _, rfl, sa, ca, ds.length, rfl, rfl, by omega, by omega, S3, fun k M4 hk S4 f4 => ?_⟩
          have f14 := f13.trans f4
          walk_at "st"
          refine ⟨_, .ref (f14 xa _ n1 n2 em), ?_⟩
          walk_at "st"
          refine ⟨_, .ref (f14 xa _ n1 n2 em), ?_⟩
          walk_at "st"
          have e1 : cutD ds none (some ((k : Nat) : Int)) = ds.take k := cut_lo ds k
          have e2 : cutD ds (some (((k : Nat) : Int) + 1)) none = ds.drop (k + 1) := cut_hi ds (k + 1)
          rw [e1, e2]
          refine ⟨_, _, .lst, .lst, by rw [sizeLine_eq, List.length_take, List.length_drop]; omega, ?_⟩
          refine rt_same (h _ (ds.take k ++ ds.drop (k + 1)) _ (.inl rfl) (fun d hd => ?_) (by rw [List.length_append, List.length_take, List.length_drop]; omega) S4 f14)
          rcases List.mem_append.mp hd with h1 | h1
          · exact List.mem_of_mem_take h1
          · exact List.mem_of_mem_drop h1
        · walk_at "st"
          exact rt_same (h _ ds _ (.inr ⟨rfl, rfl⟩) (fun d hd => hd) (Nat.le_refl _) S3 f13)
      · walk_at "st"
        exact rt_same (h _ ds _ (.inr ⟨rfl, rfl⟩) (fun d hd => hd) (Nat.le_refl _) S0 (Fr2.refl))
end
end Dl
namespace Dl
open PySem PySem.Spec PyProof.Rows L2 Mi
local macro_rules | `(tactic| walk_at "dl") => `(tactic| simp only [dRet, dOp, dSl, dV, dNoP, dPart, dLst, dLstM, dCons, dNil, dC, startD, rAdd, rAddM, rIx, rEq, rNe, rII, rII0, rIB0, rMul, rIsN, rNotN, isNon, dNeg, dTest, dAnd, dOr, dNot, dAndV, dOrV, dNotV, dIf, dTup, dFrz, dCB, rLen, rInt1, rAbs1, rMin2, rAll1, dBM, rApp, rExt, rPop0,
  dGet, dPut, dNext, dSeq, dDrop, dIfS, dName, dgNil, dgCons, dgTup, dAsg, dSub, rSet, dPar, dIL, dIT, dIR, dIE, dIZ, dFor, dYes, dCall, dLc, dLcM, dLcF, dPair, dGetT, dInT, dPutT, dNewT, wipeD,
  natsD, isL_lst, isL_ref, seqIn_tup, seqIn_lst, rIn, flatD, eqD, List.all_cons, List.all_nil, List.any_cons, List.any_nil, sizeLine_eq, Nat.reduceLeDiff, Nat.reduceLT, Bool.or_false, Bool.and_true, Bool.true_and, Bool.false_and, Bool.false_or, Bool.or_true, Bool.true_or, Bool.and_false, tupAt, optE, endsOf,
  List.map_cons, List.map_nil, List.length_cons, List.length_nil, List.cons_append, List.nil_append, List.append_nil, List.getElem?_cons_zero, List.getElem?_cons_succ, List.getElem?_nil, List.set_cons_zero, List.set_cons_succ, List.replicate_succ, List.replicate_zero, List.length_append, List.replicate,
  of_sE, String.reduceEq, decide_true, decide_false, Bool.false_eq_true, Bool.not_true, Bool.not_false, reduceIte, exists_eq_left, exists_eq_left', true_and, and_true, if_true, if_false, ite_true, ite_false, Nat.reduceAdd, Nat.reduceSub, Nat.reduceBEq, BEq.rfl, beq_self_eq_true, D.ref.injEq, D.int.injEq, D.str.injEq, D.lst.injEq, D.tup.injEq, List.cons.injEq, exists_and_left, exists_const, and_self])
local macro_rules | `(tactic| walk_at "s0") => `(tactic| (dsimp only [startD, List.length_cons, List.length_nil, List.map_cons, List.map_nil, List.cons_append, List.nil_append, Nat.reduceAdd, Nat.reduceSub, List.replicate_succ, List.replicate_zero]))
local macro_rules | `(tactic| walk_at "st") => `(tactic| ((conv => whnf); (try dsimp only [List.set_cons_zero, List.set_cons_succ]); repeat ((refine ⟨Nat.le_of_ble_eq_true rfl, ?_⟩); (conv => whnf); (try dsimp only [List.set_cons_zero, List.set_cons_succ]))))

section
variable {P : Program} {K : PySem.W.Frag} {mg : Str → Option Value} {w : World} {base : Heap}
abbrev n_law_choices : List Str := ["_law_state_here", "_law_k"]
theorem sc_law_choices : FnScope n_law_choices ["_law_state_here"] (defScope s_law_choices) := ⟨rfl, rfl, rfl, by decide +kernel, rfl, by decide +kernel, by decide +kernel⟩
/-- _law_choices; slots 0 _law_state_here, 1 _law_k; cells ['_law_state_here']; calls ['_law_pick', '_law_draw'] -/
theorem ok_law_choices (B : Bl K mg) (Tx : Txt K mg "_law_choices" s_law_choices) (c_law_draw : Have P w K mg base "_law_draw" ["_law_state_here", "_law_many_here"] 1 spDraw) (c_law_pick : Have P w K mg base "_law_pick" ["_law_state_here", "_law_row"] 2 spPick) : Have P w K mg base "_law_choices" ["_law_state_here"] 3 spChoices := by
  refine have_of Tx sc_law_choices (fun _ _ _ _ _ _ us hl => match us, hl with | [_], _ => rfl) len1 fun cdv f A outer s H E hr => ⟨_, (dss_one (ds_ret (de_lc (own := [("_law_k", 1)]) rfl sc_law_choices.nd (di_range rfl B.range (da_cons (de_callH c_law_pick (hr.mono (by omega)) rfl (da_cons (dv 0) (da_cons (de_lst (da_cons de_int (da_cons de_int (da_cons de_int (da_cons de_int da_nil))))) da_nil))) da_nil)) (blkOk_by (N := n_law_choices) (sc := defScope s_law_choices) (by decide +kernel)) (fun _ _ _ _ _ => (dg_name (i := 1) (by decide) sc_law_choices.nd rfl (Or.inl rfl))) (fun _ _ _ _ _ => dts_nil) (fun _ _ _ _ _ => (de_callH c_law_draw (hr.mono (by omega)) rfl (da_cons (dv 0) (da_cons (de_callH c_law_pick (hr.mono (by omega)) rfl (da_cons (dv 0) (da_cons (de_lst (da_cons de_int (da_cons de_int (da_cons de_int da_nil)))) da_nil))) da_nil))))))), ?_⟩
  rintro _ M Q ⟨_, rfl, sa, ca, rfl, S0, h⟩
  walk_at "s0"
  walk_at "st"
  refine ⟨_, _, rfl, sa, ca, [N 0, N 1, N 5, N 30], rfl, .inl rfl, by decide, by decide, S0, fun d M1 hd S1 f1 => ?_⟩
  obtain ⟨k, hk, rfl⟩ : ∃ k, k ≤ 30 ∧ d = N k := by
    simp only [List.mem_cons, List.not_mem_nil, or_false] at hd
    rcases hd with rfl | rfl | rfl | rfl
    · exact ⟨0, by decide, rfl⟩
    · exact ⟨1, by decide, rfl⟩
    · exact ⟨5, by decide, rfl⟩
    · exact ⟨30, by decide, rfl⟩
  walk_at "st"
  refine ⟨by omega, ⟨by omega, ?_⟩⟩
  intro p hp
  rw [Int.toNat_natCast]
  have np : p ≠ sa ∧ p ≠ ca := by
    obtain ⟨⟨cells, seed, m1, m2⟩, _⟩ := S1
    exact ⟨fun z => (by rw [z, m1] at hp; cases hp), fun z => (by rw [z, m2] at hp; cases hp)⟩
  have stn : ∀ {M' : Mh} {o : MO}, StAt sa ca M' → StAt sa ca (mupd M' p o) := by
    intro M' o ⟨⟨cells, seed, m1, m2⟩, ne⟩
    exact ⟨⟨cells, seed, by rw [mupd_ne (Ne.symm np.1)]; exact m1, by rw [mupd_ne (Ne.symm np.2)]; exact m2⟩, ne⟩
  refine lc_inv (G := fun _ => True) (fun i acc M' => ∃ l : List Nat, acc = l.map N ∧ l.length = i ∧ M' p = some (.lst acc) ∧ StAt sa ca M') (fun _ _ _ _ => trivial) ?_ ?_ ⟨[], rfl, rfl, mupd_same, stn S1⟩
  · rintro i d acc M' Ky Kn hd ⟨l, rfl, hl, hM, S2⟩ hy hn
    have hi : i < k := by
      have := (List.getElem?_eq_some_iff.mp hd).1
      rw [intsD_len] at this
      exact this
    walk_at "st"
    refine ⟨_, _, rfl, sa, ca, [N 2, N 7, N 1000], rfl, .inl rfl, by decide, by decide, S2, fun d2 M3 hd2 S3 f3 => ?_⟩
    obtain ⟨m, hm, hm2, rfl⟩ : ∃ m, 0 < m ∧ m ≤ 1000 ∧ d2 = N m := by
      simp only [List.mem_cons, List.not_mem_nil, or_false] at hd2
      rcases hd2 with rfl | rfl | rfl
      · exact ⟨2, by decide, by decide, rfl⟩
      · exact ⟨7, by decide, by decide, rfl⟩
      · exact ⟨1000, by decide, by decide, rfl⟩
    walk_at "st"
    refine ⟨_, _, rfl, sa, ca, m, rfl, rfl, hm, by omega, S3, fun x M4 hx S4 f4 => ?_⟩
    refine hy _ _ (f4 p _ np.1 np.2 (f3 p _ np.1 np.2 hM)) (by rw [sizeLine_eq, List.length_map]; omega) ⟨l ++ [x], by rw [List.map_append]; rfl, by rw [List.length_append, hl]; rfl, mupd_same, stn S4⟩
  · rintro acc M' ⟨l, rfl, hl, hM, S2⟩
    rw [intsD_len] at hl
    exact ⟨hM, rt_same (h l _ (by omega))⟩
end
end Dl
namespace Mi
open PySem Dl
/-! ### what the generator's parts cost -/
theorem Exp.ok_mono {n n' : Nat} (h : n ≤ n') : ∀ {e : Exp}, e.ok n → e.ok n'
  | .num _, k => k
  | .cell _, k => Nat.lt_of_lt_of_le k h
  | .idx _ _ _, k => ⟨Nat.le_trans k.1 h, Exp.ok_mono h k.2⟩
  | .neg e, k => Exp.ok_mono (e := e) h k
  | .not e, k => Exp.ok_mono (e := e) h k
  | .bin _ _ _, k => ⟨Exp.ok_mono h k.1, Exp.ok_mono h k.2⟩
theorem Exp.wf_mono {n n' : Nat} (h : n ≤ n') {e : Exp} (k : e.wf n) : e.wf n' := ⟨Exp.ok_mono h k.1, k.2⟩
theorem Exp.twf_mono {n n' : Nat} (h : n ≤ n') {e : Exp} (k : e.twf n) : e.twf n' := ⟨k.1, Exp.ok_mono h k.2.1, k.2.2⟩
theorem owf_mono {n n' : Nat} (h : n ≤ n') : ∀ {g : Option Exp}, owf n g → owf n' g
  | none, _ => trivial
  | some _, k => Exp.wf_mono h k
mutual
theorem Stm.wf_mono {n n' T T' C C' : Nat} (hn : n ≤ n') (hT : T ≤ T') (hC : C ≤ C') : ∀ s : Stm, s.wf n T C → s.wf n' T' C'
  | .skip, _ => trivial
  | .stop, _ => trivial
  | .set _ _, k => ⟨Exp.twf_mono hn k.1, Exp.wf_mono hn k.2⟩
  | .give _ _, k => ⟨Nat.lt_of_lt_of_le k.1 hC, Exp.wf_mono hn k.2⟩
  | .take _ _, k => ⟨Nat.lt_of_lt_of_le k.1 hC, Exp.twf_mono hn k.2⟩
  | .seq l, k => swf_mono hn hT hC l k
  | .par l, k => ⟨k.1, bwf_mono hn hT hC l k.2⟩
  | .alt l, k => ⟨k.1, k.2.1, rwf_mono hn hT hC l k.2.2⟩
  | .ite _ a b, k => ⟨Exp.wf_mono hn k.1, Stm.wf_mono hn hT hC a k.2.1, Stm.wf_mono hn hT hC b k.2.2⟩
  | .rep _ _ s, k => ⟨Exp.wf_mono hn k.1, Stm.wf_mono hn hT hC s k.2⟩
theorem swf_mono {n n' T T' C C' : Nat} (hn : n ≤ n') (hT : T ≤ T') (hC : C ≤ C') : ∀ l : List Stm, swf n T C l → swf n' T' C' l
  | [], _ => trivial
  | s :: r, k => ⟨Stm.wf_mono hn hT hC s k.1, swf_mono hn hT hC r k.2⟩
theorem bwf_mono {n n' T T' C C' : Nat} (hn : n ≤ n') (hT : T ≤ T') (hC : C ≤ C') : ∀ l : List (Nat × Stm), bwf n T C l → bwf n' T' C' l
  | [], _ => trivial
  | (_, s) :: r, k => ⟨Nat.lt_of_lt_of_le k.1 hT, Stm.wf_mono hn hT hC s k.2.1, bwf_mono hn hT hC r k.2.2⟩
theorem rwf_mono {n n' T T' C C' : Nat} (hn : n ≤ n') (hT : T ≤ T') (hC : C ≤ C') : ∀ l : List (Option Exp × Nat × Exp × Stm), rwf n T C l → rwf n' T' C' l
  | [], _ => trivial
  | (_, _, _, s) :: r, k => ⟨owf_mono hn k.1, Nat.lt_of_lt_of_le k.2.1 hC, Exp.twf_mono hn k.2.2.1, Stm.wf_mono hn hT hC s k.2.2.2.1, rwf_mono hn hT hC r k.2.2.2.2⟩
end
theorem cnts_app : ∀ a b : List Stm, cnts (a ++ b) = cnts a + cnts b
  | [], b => by simp [cnts]
  | s :: r, b => by simp only [List.cons_append, cnts, cnts_app r b]; omega
theorem deps_app : ∀ a b : List Stm, deps (a ++ b) = max (deps a) (deps b)
  | [], b => by simp [deps]
  | s :: r, b => by simp only [List.cons_append, deps, deps_app r b]; omega
theorem bworks_app : ∀ a b : List (Nat × Stm), bworks (a ++ b) = bworks a + bworks b
  | [], b => by simp [bworks]
  | (t, s) :: r, b => by simp only [List.cons_append, bworks, bworks_app r b]; omega
theorem bcnts_app : ∀ a b : List (Nat × Stm), bcnts (a ++ b) = bcnts a + bcnts b
  | [], b => by simp [bcnts]
  | (t, s) :: r, b => by simp only [List.cons_append, bcnts, bcnts_app r b]; omega
theorem bdeps_app : ∀ a b : List (Nat × Stm), bdeps (a ++ b) = max (bdeps a) (bdeps b)
  | [], b => by simp [bdeps]
  | (t, s) :: r, b => by simp only [List.cons_append, bdeps, bdeps_app r b]; omega
theorem bwts_app : ∀ a b : List (Nat × Stm), bwts (a ++ b) = bwts a + bwts b
  | [], b => by simp [bwts]
  | (t, s) :: r, b => by simp only [List.cons_append, bwts, bwts_app r b]; omega
theorem bwf_app {n T C : Nat} {a b : List (Nat × Stm)} (h1 : bwf n T C a) (h2 : bwf n T C b) : bwf n T C (a ++ b) := bwf_iff.mpr fun s hs => by
  rcases List.mem_append.mp hs with h | h
  · exact bwf_iff.mp h1 s h
  · exact bwf_iff.mp h2 s h
theorem stmsD_map : ∀ l : List Stm, stmsD l = l.map Stm.d
  | [] => rfl
  | s :: r => by rw [stmsD, stmsD_map r]; rfl
end Mi
namespace Dl
open PySem PySem.Spec PyProof.Rows L2 Mi
/-- the generator's world with its channels -/
structure Gw where
  u : Wd
  ins : Nat
  outs : Nat
  inn : Nat
def Gw.ks (g : Gw) : List Mi.Kind := List.replicate g.ins .inp ++ (List.replicate g.outs .out ++ List.replicate g.inn .inner)
def Gw.C (g : Gw) : Nat := g.ins + (g.outs + g.inn)
theorem Gw.ks_len (g : Gw) : g.ks.length = g.C := by simp only [Gw.ks, Gw.C, List.length_append, List.length_replicate]
def Gw.pot (g : Gw) : Nat := g.u.c + 12 * g.u.l + g.u.i
structure WdAt (sa ca wa : Addr) (g : Gw) (M : Mh) : Prop where
  st : StAt sa ca M
  rc : M wa = some (.dK g.u.kvs)
  ch : M g.u.cha = some (.lst (g.ks.map kindD))
  n1 : wa ≠ sa
  n2 : wa ≠ ca
  n3 : g.u.cha ≠ sa
  n4 : g.u.cha ≠ ca
  n5 : g.u.cha ≠ wa
  C2 : g.C ≤ 24
abbrev Rg (sa ca wa : Addr) (g : Gw) : List Addr := [sa, ca, wa, g.u.cha]
def FrR (R : List Addr) (M M' : Mh) : Prop := ∀ x mo, x ∉ R → M x = some mo → M' x = some mo
theorem FrR.refl {R : List Addr} {M : Mh} : FrR R M M := fun _ _ _ e => e
theorem FrR.trans {R : List Addr} {M M1 M2 : Mh} (a : FrR R M M1) (b : FrR R M1 M2) : FrR R M M2 := fun x mo n e => b x mo n (a x mo n e)
theorem Fr2.frR {R : List Addr} {M M' : Mh} {sa ca : Addr} (f : Fr2 sa ca M M') (hs : sa ∈ R) (hc : ca ∈ R) : FrR R M M' := fun x mo n e => f x mo (fun z => n (by rw [z]; exact hs)) (fun z => n (by rw [z]; exact hc)) e
theorem FrR.mem {R : List Addr} {M M' : Mh} {p : Addr} {o : MO} (f : FrR R M M') (hp : p ∈ R) : FrR R M (mupd M' p o) := fun x mo n e => by
  rw [mupd_ne (fun z => n (by rw [z]; exact hp))]; exact f x mo n e
theorem FrR.new {R : List Addr} {M M' : Mh} {p : Addr} {o : MO} (f : FrR R M M') (hp : M' p = none) : FrR R M (mupd M' p o) := fun x mo n e => by
  have h1 := f x mo n e
  rw [mupd_ne (fun z => by rw [z, hp] at h1; cases h1)]; exact h1
theorem FrR.own {R : List Addr} {M M' : Mh} {p : Addr} {o : MO} (f : FrR R M M') (hp : M p = none) : FrR R M (mupd M' p o) := fun x mo n e => by
  rw [mupd_ne (fun z => by rw [z, hp] at e; cases e)]; exact f x mo n e
theorem FrR.del {R : List Addr} {M M' : Mh} {p : Addr} (f : FrR R M M') (hp : M p = none) : FrR R M (mdel M' p) := fun x mo n e => by
  rw [mdel_ne (fun z => by rw [z, hp] at e; cases e)]; exact f x mo n e
theorem LstAt.frR {R : List Addr} {M M' : Mh} {x : D} {ds : List D} (h : LstAt R M x ds) (f : FrR R M M') : LstAt R M' x ds := by
  rcases h with h | ⟨a, e, n, h⟩
  · exact .inl h
  · exact .inr ⟨a, e, n, f a _ n h⟩
theorem EnvAt.frR {R : List Addr} {M M' : Mh} {ea : Addr} {v : Ev} (E : EnvAt R M ea v) (f : FrR R M M') : EnvAt R M' ea v :=
  ⟨f ea _ E.nr E.rc, E.nr, E.c.frR f, E.r.frR f, E.s.frR f, E.g.frR f, E.t.frR f⟩
theorem Ev.ok.mono {v : Ev} {n n' C C' : Nat} (h : v.ok n C) (hn : n ≤ n') (hC : C ≤ C') (n2 : n' ≤ 1000) : v.ok n' C' :=
  ⟨h.c0, fun x hx => Nat.lt_of_lt_of_le (h.c x hx) hn, fun x hx => Nat.lt_of_lt_of_le (h.r x hx) hn, h.r0, fun p hp => ⟨Nat.le_trans (h.s p hp).1 hn, (h.s p hp).2⟩,
    fun x hx => Nat.lt_of_lt_of_le (h.g x hx) hC, fun x hx => Nat.lt_of_lt_of_le (h.t x hx) hC, h.lc, h.lr, h.ls, h.lg, h.lt, n2⟩
section
variable {sa ca wa : Addr} {g : Gw} {M M' : Mh}
theorem WdAt.fr (W : WdAt sa ca wa g M) (S : StAt sa ca M') (f : Fr2 sa ca M M') : WdAt sa ca wa g M' :=
  ⟨S, f _ _ W.n1 W.n2 W.rc, f _ _ W.n3 W.n4 W.ch, W.n1, W.n2, W.n3, W.n4, W.n5, W.C2⟩
theorem StAt.upd {p : Addr} {o : MO} (S : StAt sa ca M) (h1 : p ≠ sa) (h2 : p ≠ ca) : StAt sa ca (mupd M p o) := by
  obtain ⟨⟨cells, seed, m1, m2⟩, ne⟩ := S
  exact ⟨⟨cells, seed, by rw [mupd_ne (Ne.symm h1)]; exact m1, by rw [mupd_ne (Ne.symm h2)]; exact m2⟩, ne⟩
theorem WdAt.upd {p : Addr} {o : MO} (W : WdAt sa ca wa g M) (hp : p ∉ Rg sa ca wa g) : WdAt sa ca wa g (mupd M p o) := by
  simp only [Rg, List.mem_cons, List.not_mem_nil, or_false, not_or] at hp
  exact ⟨W.st.upd hp.1 hp.2.1, by rw [mupd_ne (Ne.symm hp.2.2.1)]; exact W.rc, by rw [mupd_ne (Ne.symm hp.2.2.2)]; exact W.ch, W.n1, W.n2, W.n3, W.n4, W.n5, W.C2⟩
theorem WdAt.put {u' : Wd} (W : WdAt sa ca wa g M) (hu : u'.cha = g.u.cha) : WdAt sa ca wa { g with u := u' } (mupd M wa (.dK u'.kvs)) := by
  refine ⟨W.st.upd W.n1 W.n2, mupd_same, ?_, W.n1, W.n2, ?_, ?_, ?_, W.C2⟩
  · show mupd M wa _ u'.cha = _
    rw [hu, mupd_ne W.n5]; exact W.ch
  · rw [hu]; exact W.n3
  · rw [hu]; exact W.n4
  · rw [hu]; exact W.n5
theorem WdAt.fresh {p : Addr} (W : WdAt sa ca wa g M) (hp : M p = none) : p ∉ Rg sa ca wa g := by
  obtain ⟨⟨cells, seed, m1, m2⟩, ne⟩ := W.st
  have h1 := W.rc
  have h2 := W.ch
  simp only [Rg, List.mem_cons, List.not_mem_nil, or_false, not_or]
  refine ⟨fun z => ?_, fun z => ?_, fun z => ?_, fun z => ?_⟩
  · rw [← z, hp] at m1; cases m1
  · rw [← z, hp] at m2; cases m2
  · rw [← z, hp] at h1; cases h1
  · rw [← z, hp] at h2; cases h2
theorem WdAt.del {p : Addr} (W : WdAt sa ca wa g M) (hp : p ∉ Rg sa ca wa g) : WdAt sa ca wa g (mdel M p) := by
  simp only [Rg, List.mem_cons, List.not_mem_nil, or_false, not_or] at hp
  obtain ⟨⟨cells, seed, m1, m2⟩, ne⟩ := W.st
  exact ⟨⟨⟨cells, seed, by rw [mdel_ne (Ne.symm hp.1)]; exact m1, by rw [mdel_ne (Ne.symm hp.2.1)]; exact m2⟩, ne⟩, by rw [mdel_ne (Ne.symm hp.2.2.1)]; exact W.rc, by rw [mdel_ne (Ne.symm hp.2.2.2)]; exact W.ch, W.n1, W.n2, W.n3, W.n4, W.n5, W.C2⟩
theorem WdAt.push (W : WdAt sa ca wa g M) (h : g.C < 24) : WdAt sa ca wa { g with inn := g.inn + 1 } (mupd M g.u.cha (.lst (g.ks.map kindD ++ [S "inner"]))) := by
  refine ⟨W.st.upd W.n3 W.n4, ?_, ?_, W.n1, W.n2, W.n3, W.n4, W.n5, ?_⟩
  · rw [mupd_ne (Ne.symm W.n5)]; exact W.rc
  · show mupd M g.u.cha _ g.u.cha = _
    rw [mupd_same]
    have e : ({ g with inn := g.inn + 1 } : Gw).ks = g.ks ++ [.inner] := by
      simp only [Gw.ks, List.append_assoc, List.replicate_succ']
    rw [e, List.map_append]
    rfl
  · simp only [Gw.C] at h ⊢; omega
end
/-- how the world goes on -/
structure Stp (g g' : Gw) : Prop where
  c : g.u.c ≤ g'.u.c
  i : g'.u.i ≤ g.u.i
  l : g'.u.l ≤ g.u.l
  t : g.u.t ≤ g'.u.t
  n : g.inn ≤ g'.inn
  ins : g'.ins = g.ins
  outs : g'.outs = g.outs
  cha : g'.u.cha = g.u.cha
  al : g'.u.al = g.u.al
  lo : g'.u.lo = g.u.lo
theorem Stp.refl {g : Gw} : Stp g g := ⟨Nat.le_refl _, Nat.le_refl _, Nat.le_refl _, Nat.le_refl _, Nat.le_refl _, rfl, rfl, rfl, rfl, rfl⟩
theorem Stp.trans {g g1 g2 : Gw} (a : Stp g g1) (b : Stp g1 g2) : Stp g g2 :=
  ⟨Nat.le_trans a.c b.c, Nat.le_trans b.i a.i, Nat.le_trans b.l a.l, Nat.le_trans a.t b.t, Nat.le_trans a.n b.n, b.ins.trans a.ins, b.outs.trans a.outs, b.cha.trans a.cha, b.al.trans a.al, b.lo.trans a.lo⟩
theorem Stp.C {g g' : Gw} (a : Stp g g') : g.C ≤ g'.C := by
  have := a.n
  have := a.ins
  have := a.outs
  simp only [Gw.C]
  omega
def pw : Nat → Gw → Nat
  | 0, g => 16 * g.u.i
  | 1, g => 64 * g.u.i + 12 * g.u.l
  | _ + 2, g => (if g.u.lo then 2 else 1) * (64 * g.u.i + 12 * g.u.l)
def pt : Nat → Gw → Nat
  | 0, g => 63800 * g.u.i
  | 1, g => 319000 * g.u.i + 5000 * g.u.l
  | _ + 2, g => (if g.u.lo then 3 else 1) * (319000 * g.u.i + 5000 * g.u.l)
def db : Nat → Nat → Nat
  | 0, _ => 3
  | 1, l => 8 + 2 * l
  | _ + 2, l => 10 + 2 * l
theorem db_mono {r l l' : Nat} (h : l ≤ l') : db r l ≤ db r l' := by
  match r with
  | 0 => exact Nat.le_refl _
  | 1 => simp only [db]; omega
  | _ + 2 => simp only [db]; omega
structure ListOk (r : Nat) (g g' : Gw) (l : List Stm) : Prop where
  wf : swf g'.u.c g'.u.t g'.C l
  cnt : g'.u.t = g.u.t + cnts l
  tl : g'.u.t + g'.u.l = g.u.t + g.u.l
  pot : g'.pot ≤ g.pot
  work : works l + pw r g' ≤ pw r g
  wt : wts l + pt r g' ≤ pt r g
  dep : deps l ≤ db r g.u.l
  stp : Stp g g'
theorem ListOk.nil {r : Nat} {g : Gw} : ListOk r g g [] :=
  ⟨trivial, rfl, rfl, Nat.le_refl _, by simp [works], by simp [wts], Nat.zero_le _, .refl⟩
theorem ListOk.app {r : Nat} {g g1 g2 : Gw} {a b : List Stm} (h : ListOk r g g1 a) (k : ListOk r g1 g2 b) : ListOk r g g2 (a ++ b) := by
  have h1 := h.cnt
  have h2 := h.tl
  have h3 := h.pot
  have h4 := h.work
  have h5 := h.wt
  have h6 := h.dep
  have k1 := k.cnt
  have k2 := k.tl
  have k3 := k.pot
  have k4 := k.work
  have k5 := k.wt
  have k6 := k.dep
  have k7 := db_mono (r := r) h.stp.l
  exact ⟨swf_app (swf_mono k.stp.c k.stp.t k.stp.C _ h.wf) k.wf, by rw [cnts_app]; omega, by omega, by omega, by rw [works_app]; omega, by rw [wts_app]; omega, by rw [deps_app]; omega, h.stp.trans k.stp⟩
structure ParOk (r : Nat) (g g' : Gw) (s : Stm) : Prop where
  wf : s.wf g'.u.c g'.u.t g'.C
  cnt : g'.u.t = g.u.t + s.cnt
  tl : g'.u.t + g'.u.l = g.u.t + g.u.l
  pot : g'.pot ≤ g.pot
  work : s.work + pw r g' ≤ pw r g + 1
  wt : s.wt + pt r g' ≤ pt r g + 60
  dep : s.dep + 1 ≤ db r g.u.l
  stp : Stp g g'
end Dl
namespace Dl
open PySem PySem.Spec PyProof.Rows L2 Mi
theorem work_pos : ∀ s : Stm, 1 ≤ s.work
  | .skip => Nat.le_refl _
  | .stop => Nat.le_refl _
  | .set _ _ => Nat.le_refl _
  | .give _ _ => by simp [Stm.work]
  | .take _ _ => by simp [Stm.work]
  | .seq _ => by simp only [Stm.work]; omega
  | .par _ => by simp only [Stm.work]; omega
  | .alt _ => by simp only [Stm.work]; omega
  | .ite _ _ _ => by simp only [Stm.work]; omega
  | .rep _ _ _ => by simp only [Stm.work]; omega
def Gw.di (g : Gw) : Gw := { g with u := { g.u with i := g.u.i - 1 } }
theorem Gw.di_stp {g : Gw} : Stp g g.di := ⟨Nat.le_refl _, Nat.sub_le _ _, Nat.le_refl _, Nat.le_refl _, Nat.le_refl _, rfl, rfl, rfl, rfl, rfl⟩
structure SmOk (n C : Nat) (sm : List Stm) : Prop where
  wf : ∀ T, swf n T C sm
  work : works sm ≤ 7
  wt : wts sm ≤ 2152
  dep : deps sm ≤ 2
  cnt : cnts sm = 0
theorem SmOk.nil {n C : Nat} : SmOk n C [] := ⟨fun _ => trivial, by decide, by decide, by decide, rfl⟩
theorem SmOk.one {n C : Nat} {s : Stm} (h : SOk n C 7 2 2150 s) : SmOk n C [s] := by
  obtain ⟨h1, h2, h3, h4, h5⟩ := h
  refine ⟨fun T => ⟨h1 T, trivial⟩, ?_, ?_, ?_, ?_⟩
  · simp only [works]; omega
  · simp only [wts]; omega
  · simp only [deps]; omega
  · simp only [cnts]; omega
theorem pw_di {r : Nat} {g : Gw} (h : 0 < g.u.i) : pw r g.di + 16 ≤ pw r g := by
  obtain ⟨⟨t, l, i, c, cha, al, lo⟩, ins, outs, inn⟩ := g
  match r with
  | 0 => simp only [pw, Gw.di] at h ⊢; omega
  | 1 => simp only [pw, Gw.di] at h ⊢; omega
  | _ + 2 => cases lo <;> simp only [pw, Gw.di, if_true, Bool.false_eq_true, if_false] at h ⊢ <;> omega
theorem pw_di1 {r : Nat} {g : Gw} (hr : 1 ≤ r) (h : 0 < g.u.i) : pw r g.di + 64 ≤ pw r g := by
  obtain ⟨⟨t, l, i, c, cha, al, lo⟩, ins, outs, inn⟩ := g
  match r with
  | 0 => omega
  | 1 => simp only [pw, Gw.di] at h ⊢; omega
  | _ + 2 => cases lo <;> simp only [pw, Gw.di, if_true, Bool.false_eq_true, if_false] at h ⊢ <;> omega
theorem pt_di {r : Nat} {g : Gw} (h : 0 < g.u.i) : pt r g.di + 63800 ≤ pt r g := by
  obtain ⟨⟨t, l, i, c, cha, al, lo⟩, ins, outs, inn⟩ := g
  match r with
  | 0 => simp only [pt, Gw.di] at h ⊢; omega
  | 1 => simp only [pt, Gw.di] at h ⊢; omega
  | _ + 2 => cases lo <;> simp only [pt, Gw.di, if_true, Bool.false_eq_true, if_false] at h ⊢ <;> omega
theorem pt_di1 {r : Nat} {g : Gw} (hr : 1 ≤ r) (h : 0 < g.u.i) : pt r g.di + 319000 ≤ pt r g := by
  obtain ⟨⟨t, l, i, c, cha, al, lo⟩, ins, outs, inn⟩ := g
  match r with
  | 0 => omega
  | 1 => simp only [pt, Gw.di] at h ⊢; omega
  | _ + 2 => cases lo <;> simp only [pt, Gw.di, if_true, Bool.false_eq_true, if_false] at h ⊢ <;> omega
/-- a bound for rank 1 is one for the others -/
theorem pw_up {r x k : Nat} {g g2 : Gw} (hr : 1 ≤ r) (S : Stp g g2) (h : x + pw 1 g2 ≤ pw 1 g + k) : x + pw r g2 ≤ pw r g + k := by
  obtain ⟨⟨t, l, i, c, cha, al, lo⟩, ins, outs, inn⟩ := g
  obtain ⟨⟨t2, l2, i2, c2, cha2, al2, lo2⟩, ins2, outs2, inn2⟩ := g2
  have h1 := S.i
  have h2 := S.l
  have h3 := S.lo
  dsimp only at h1 h2 h3
  subst h3
  match r with
  | 0 => omega
  | 1 => exact h
  | _ + 2 => cases lo2 <;> simp only [pw, if_true, Bool.false_eq_true, if_false] at h ⊢ <;> omega
theorem pt_up {r x k : Nat} {g g2 : Gw} (hr : 1 ≤ r) (S : Stp g g2) (h : x + pt 1 g2 ≤ pt 1 g + k) : x + pt r g2 ≤ pt r g + k := by
  obtain ⟨⟨t, l, i, c, cha, al, lo⟩, ins, outs, inn⟩ := g
  obtain ⟨⟨t2, l2, i2, c2, cha2, al2, lo2⟩, ins2, outs2, inn2⟩ := g2
  have h1 := S.i
  have h2 := S.l
  have h3 := S.lo
  dsimp only at h1 h2 h3
  subst h3
  match r with
  | 0 => omega
  | 1 => exact h
  | _ + 2 => cases lo2 <;> simp only [pt, if_true, Bool.false_eq_true, if_false] at h ⊢ <;> omega
theorem di_pot {g : Gw} (h : 0 < g.u.i) : g.di.pot + 1 = g.pot := by
  simp only [Gw.pot, Gw.di]; omega
theorem item_plain {r : Nat} {g : Gw} {sm : List Stm} {s : Stm} (hi : 0 < g.u.i) (hs : SmOk g.u.c g.C sm) (wf : s.wf g.u.c g.u.t g.C) (work : s.work ≤ 9) (wt : s.wt ≤ 61600) (dep : s.dep ≤ 3) (cnt : s.cnt = 0) :
    ListOk r g g.di (sm ++ [s]) := by
  have h1 := hs.work
  have h2 := hs.wt
  have h3 := hs.dep
  have h4 := hs.cnt
  have k1 := pw_di (r := r) hi
  have k2 := pt_di (r := r) hi
  have k3 := di_pot hi
  have k4 : 3 ≤ db r g.u.l := by
    match r with
    | 0 => exact Nat.le_refl _
    | 1 => simp only [db]; omega
    | _ + 2 => simp only [db]; omega
  refine ⟨swf_app (hs.wf _) ⟨wf, trivial⟩, ?_, rfl, by omega, ?_, ?_, ?_, Gw.di_stp⟩
  · rw [cnts_app, h4, cnts, cnts, cnt]; rfl
  · rw [works_app]; simp only [works]; omega
  · rw [wts_app]; simp only [wts]; omega
  · rw [deps_app]; simp only [deps]; omega
theorem item_par {r : Nat} {g g2 : Gw} {sm : List Stm} {s p : Stm} (hr : 1 ≤ r) (hi : 0 < g.u.i) (hs : SmOk g.u.c g.C sm) (P : ParOk 1 g.di g2 p) (wf : s.wf g2.u.c g2.u.t g2.C) (work : s.work ≤ 9 + p.work) (wt : s.wt ≤ 61600 + p.wt) (dep : s.dep ≤ max 3 (1 + p.dep)) (cnt : s.cnt = p.cnt) :
    ListOk r g g2 (sm ++ [s]) := by
  have h1 := hs.work
  have h2 := hs.wt
  have h3 := hs.dep
  have h4 := hs.cnt
  have k1 := pw_di1 hr hi
  have k2 := pt_di1 hr hi
  have k3 := di_pot hi
  have k5 := pw_up hr P.stp P.work
  have k6 := pt_up hr P.stp P.wt
  have k7 := P.cnt
  have k8 := P.tl
  have k9 := P.dep
  have k10 := P.pot
  have e1 : g.di.u.t = g.u.t := rfl
  have e2 : g.di.u.l = g.u.l := rfl
  have k4 : db 1 g.u.l ≤ db r g.u.l := by
    match r with
    | 0 => omega
    | 1 => exact Nat.le_refl _
    | _ + 2 => simp only [db]; omega
  rw [e2] at k9
  have k11 : 8 ≤ db 1 g.u.l := by simp only [db]; omega
  have S := Gw.di_stp.trans P.stp
  refine ⟨swf_app (swf_mono S.c (Nat.le_refl _) S.C _ (hs.wf _)) ⟨wf, trivial⟩, ?_, by omega, by omega, ?_, ?_, ?_, S⟩
  · rw [cnts_app, h4]; simp only [cnts]; omega
  · rw [works_app]; simp only [works]; omega
  · rw [wts_app]; simp only [wts]; omega
  · rw [deps_app]; simp only [deps]; omega
theorem item_nest {r : Nat} {g g2 g3 : Gw} {sm : List Stm} {s p : Stm} (hr : 2 ≤ r) (hi : 0 < g.u.i) (hs : SmOk g.u.c g.C sm) (P : ParOk 1 g.di g2 p) (S2 : Stp g2 g3) (et : g3.u.t = g2.u.t) (el : g3.u.l = g2.u.l) (ei : g3.u.i = g2.u.i) (ep : g3.pot ≤ g2.pot + 1)
    (wf : s.wf g3.u.c g3.u.t g3.C) (work : s.work ≤ if g.u.lo then 2 * p.work + 9 else p.work + 1) (wt : s.wt ≤ if g.u.lo then 3 * p.wt + 1500 else p.wt + 1000) (dep : s.dep ≤ 3 + p.dep) (cnt : s.cnt = p.cnt) :
    ListOk r g g3 (sm ++ [s]) := by
  have h1 := hs.work
  have h2 := hs.wt
  have h3 := hs.dep
  have h4 := hs.cnt
  have k3 := di_pot hi
  have k5 := P.work
  have k6 := P.wt
  have k7 := P.cnt
  have k8 := P.tl
  have k9 := P.dep
  have k10 := P.pot
  have e1 : g.di.u.t = g.u.t := rfl
  have e2 : g.di.u.l = g.u.l := rfl
  obtain ⟨r, rfl⟩ : ∃ r', r = r' + 2 := ⟨r - 2, by omega⟩
  have S := (Gw.di_stp.trans P.stp).trans S2
  have S1 := P.stp
  have k11 : 8 ≤ db 1 g.u.l := by simp only [db]; omega
  have k12 : 2 + db 1 g.u.l ≤ db (r + 2) g.u.l := by simp only [db]; omega
  rw [e2] at k9
  refine ⟨swf_app (swf_mono S.c (Nat.le_refl _) S.C _ (hs.wf _)) ⟨wf, trivial⟩, ?_, by omega, by omega, ?_, ?_, ?_, S⟩
  · rw [cnts_app, h4]; simp only [cnts]; omega
  · rw [works_app]; simp only [works]
    obtain ⟨⟨t, l, i, c, cha, al, lo⟩, ins, outs, inn⟩ := g
    have h5 := S1.lo
    have h6 := S2.lo
    have h7 := S1.i
    have h8 := S1.l
    simp only [Gw.di] at *
    simp only [pw, h6, h5, el, ei] at k5 ⊢
    cases lo <;> simp only [if_true, Bool.false_eq_true, if_false] at work ⊢ <;> omega
  · rw [wts_app]; simp only [wts]
    obtain ⟨⟨t, l, i, c, cha, al, lo⟩, ins, outs, inn⟩ := g
    have h5 := S1.lo
    have h6 := S2.lo
    have h7 := S1.i
    have h8 := S1.l
    simp only [Gw.di] at *
    simp only [pt, h6, h5, el, ei] at k6 ⊢
    cases lo <;> simp only [if_true, Bool.false_eq_true, if_false] at wt ⊢ <;> omega
  · rw [deps_app]; simp only [deps]; omega
theorem lcell {k : Nat} (h : k < 100000) : len (Exp.cell k).d ≤ 22 := len2_le tag_le h
theorem lnum {k : Nat} (h : k < 100000) : len (Exp.num k).d ≤ 22 := len2_le tag_le h
theorem lbin {o : Bop} {a b : Exp} {x y : Nat} (ha : len a.d ≤ x) (hb : len b.d ≤ y) : len (Exp.bin o a b).d ≤ x + y + 18 := by
  have l3 := len_tup [S o.nm, a.d, b.d]
  have l4 : len (S o.nm) ≤ 9 := by cases o <;> exact tag_le
  simp only [lens] at l3
  show len (.tup [S o.nm, a.d, b.d]) ≤ _
  omega
/-- a counter's set to 0, and a counter's step -/
def cset (k : Nat) : Stm := .set (.cell k) (.num 0)
def cinc (k : Nat) : Stm := .set (.cell k) (.bin .add (.cell k) (.num 1))
def clt (k m : Nat) : Exp := .bin .lt (.cell k) (.num m)
theorem cset_ok {k n T C : Nat} (h : k < n) : (cset k).wf n T C := ⟨⟨rfl, h, by show 0 < 7; omega⟩, ⟨by show 0 < 65536; omega, by show 0 < 7; omega⟩⟩
theorem cinc_ok {k n T C : Nat} (h : k < n) : (cinc k).wf n T C := ⟨⟨rfl, h, by show 0 < 7; omega⟩, ⟨⟨h, by show 1 < 65536; omega⟩, by show max 0 0 + 1 < 7; omega⟩⟩
theorem clt_ok {k m n : Nat} (h : k < n) (hm : m < 65536) : (clt k m).wf n := ⟨⟨h, hm⟩, by show max 0 0 + 1 < 7; omega⟩
theorem cset_wt {k : Nat} (h : k < 100000) : (cset k).wt ≤ 104 := by
  have h1 := lcell h
  have h2 := lnum (k := 0) (by omega)
  simp only [cset, Stm.wt]; omega
theorem cinc_wt {k : Nat} (h : k < 100000) : (cinc k).wt ≤ 144 := by
  have h1 := lcell h
  have h2 := lbin (o := .add) h1 (lnum (k := 1) (by omega))
  simp only [cinc, Stm.wt]; omega
theorem clt_len {k m : Nat} (h : k < 100000) (hm : m < 100000) : len (clt k m).d ≤ 62 := lbin (lcell h) (lnum hm)
theorem item_loop {r : Nat} {g g2 : Gw} {sm inner : List Stm} {k m n : Nat} (hr : 1 ≤ r) (hi : 0 < g.u.i) (hs : SmOk g.u.c g.C sm) (L : ListOk 0 g.di g2 inner) (hk : k < g.u.c) (hk2 : k < 100000) (hm : m ≤ 3) (hn : n ≤ 4) :
    ListOk r g g2 (sm ++ [cset k, .rep (clt k m) n (.seq (inner ++ [cinc k]))]) := by
  have h1 := hs.work
  have h2 := hs.wt
  have h3 := hs.dep
  have h4 := hs.cnt
  have k1 := pw_di1 hr hi
  have k2 := pt_di1 hr hi
  have k3 := di_pot hi
  have k7 := L.cnt
  have k8 := L.tl
  have k9 := L.dep
  have k10 := L.pot
  have k13 := L.work
  have k14 := L.wt
  have e1 : g.di.u.t = g.u.t := rfl
  have e2 : g.di.u.l = g.u.l := rfl
  have S := Gw.di_stp.trans L.stp
  have hk3 : k < g2.u.c := Nat.lt_of_lt_of_le hk S.c
  have hl := L.stp.l
  have kw : (0 + 4 * works inner) + pw r g2 ≤ pw r g.di + 0 := pw_up hr L.stp (by simp only [pw] at k13 ⊢; omega)
  have kt : (0 + 5 * wts inner) + pt r g2 ≤ pt r g.di + 0 := pt_up hr L.stp (by simp only [pt] at k14 ⊢; omega)
  have k4 : 8 ≤ db r g.u.l := by
    match r with
    | 0 => omega
    | 1 => simp only [db]; omega
    | _ + 2 => simp only [db]; omega
  have k5 : deps inner ≤ 3 := k9
  refine ⟨swf_app (swf_mono S.c (Nat.le_refl _) S.C _ (hs.wf _)) ⟨cset_ok hk3, ⟨clt_ok hk3 (by omega), swf_app L.wf ⟨cinc_ok hk3, trivial⟩⟩, trivial⟩, ?_, by omega, by omega, ?_, ?_, ?_, S⟩
  · rw [cnts_app, h4]; simp only [cnts, Stm.cnt, cset, cnts_app, cinc]; omega
  · rw [works_app]; simp only [works, Stm.work, cset, works_app, cinc]
    have := Nat.mul_le_mul_right (1 + (1 + (works inner + (1 + 0)))) hn
    omega
  · rw [wts_app]; simp only [wts, Stm.wt, wts_app]
    have c1 := cset_wt hk2
    have c2 := cinc_wt hk2
    have c3 := clt_len hk2 (show m < 100000 by omega)
    have := Nat.mul_le_mul (show n + 1 ≤ 5 by omega) (show 60 + len (clt k m).d + (60 + (wts inner + ((cinc k).wt + 2 + 0))) ≤ 330 + wts inner by omega)
    omega
  · rw [deps_app]; simp only [deps, Stm.dep, cset, deps_app, cinc]; omega
/-! ### a par's rows -/
structure RowsIn (r : Nat) (g g' : Gw) (k : Nat) (rows : List (Nat × Stm)) : Prop where
  wf : bwf g'.u.c g'.u.t g'.C rows
  len : rows.length = k
  cnt : g'.u.t = g.u.t + k + bcnts rows
  tl : g'.u.t + g'.u.l = g.u.t + g.u.l + k
  pot : g'.pot ≤ g.pot
  work : bworks rows + pw r g' ≤ pw r g + 8 * k
  wt : bwts rows + pt r g' ≤ pt r g + 2400 * k
  dep : bdeps rows ≤ 1 + db r g.u.l
  stp : Stp g g'
theorem RowsIn.nil {r : Nat} {g : Gw} : RowsIn r g g 0 [] :=
  ⟨trivial, rfl, rfl, rfl, Nat.le_refl _, by simp [bworks], by simp [bwts], Nat.zero_le _, .refl⟩
def Gw.it (g : Gw) : Gw := { g with u := { g.u with t := g.u.t + 1 } }
theorem RowsIn.step {r k : Nat} {g g1 g2 : Gw} {rows : List (Nat × Stm)} {l : List Stm} {s : Stm} (R : RowsIn r g g1 k rows) (L : ListOk r g1.it g2 l) (hs : SOk g2.u.c g2.C 7 2 2150 s) (hr : 1 ≤ r) :
    RowsIn r g g2 (k + 1) (rows ++ [(g1.u.t, .seq (l ++ [s]))]) := by
  obtain ⟨s1, s2, s3, s4, s5⟩ := hs
  have h1 := R.cnt
  have h2 := R.tl
  have h3 := R.pot
  have h4 := R.work
  have h5 := R.wt
  have h6 := R.dep
  have l1 := L.cnt
  have l2 := L.tl
  have l3 := L.pot
  have l4 := L.work
  have l5 := L.wt
  have l6 := L.dep
  have S1 : Stp g1 g1.it := ⟨Nat.le_refl _, Nat.le_refl _, Nat.le_refl _, Nat.le_succ _, Nat.le_refl _, rfl, rfl, rfl, rfl, rfl⟩
  have S2 := S1.trans L.stp
  have e1 : g1.it.u.t = g1.u.t + 1 := rfl
  have e2 : g1.it.u.l = g1.u.l := rfl
  have e3 : g1.it.pot = g1.pot := rfl
  have e4 : pw r g1.it = pw r g1 := by
    match r with
    | 0 => rfl
    | 1 => rfl
    | _ + 2 => rfl
  have e5 : pt r g1.it = pt r g1 := by
    match r with
    | 0 => rfl
    | 1 => rfl
    | _ + 2 => rfl
  have ht := L.stp.t
  have hd := db_mono (r := r) R.stp.l
  have h8 : 8 ≤ db r g.u.l := by
    match r with
    | 0 => omega
    | 1 => simp only [db]; omega
    | _ + 2 => simp only [db]; omega
  rw [e2] at l6
  refine ⟨bwf_app (bwf_mono S2.c S2.t S2.C _ R.wf) ⟨by omega, swf_app L.wf ⟨s1 _, trivial⟩, trivial⟩, ?_, ?_, by omega, by omega, ?_, ?_, ?_, R.stp.trans S2⟩
  · rw [List.length_append, R.len]; rfl
  · rw [bcnts_app]; simp only [bcnts, Stm.cnt, cnts_app, cnts]; omega
  · rw [bworks_app]; simp only [bworks, Stm.work, works_app, works]; omega
  · rw [bwts_app]; simp only [bwts, Stm.wt, wts_app, wts]; omega
  · rw [bdeps_app]; simp only [bdeps, Stm.dep, deps_app, deps]; omega
theorem RowsIn.par {r m : Nat} {g0 g1 g2 : Gw} {rows : List (Nat × Stm)} (R : RowsIn r g1 g2 m rows) (hr : r = 1 ∨ r = 2) (S : Stp g0 g1) (el : g1.u.l + m = g0.u.l) (et : g1.u.t = g0.u.t) (ei : g1.u.i = g0.u.i) (ep : g1.pot ≤ g0.pot) (hm : 2 ≤ m) (hm2 : m ≤ 4) :
    ParOk r g0 g2 (.par rows) := by
  have h1 := R.cnt
  have h2 := R.tl
  have h3 := R.pot
  have h4 := R.work
  have h5 := R.wt
  have h6 := R.dep
  have h7 := R.len
  have h8 := S.lo
  have p1 : pw r g1 + 12 * m ≤ pw r g0 := by
    rcases hr with rfl | rfl
    · simp only [pw]; omega
    · simp only [pw, h8, ei]
      cases g0.u.lo <;> simp only [if_true, Bool.false_eq_true, if_false] <;> omega
  have p2 : pt r g1 + 5000 * m ≤ pt r g0 := by
    rcases hr with rfl | rfl
    · simp only [pt]; omega
    · simp only [pt, h8, ei]
      cases g0.u.lo <;> simp only [if_true, Bool.false_eq_true, if_false] <;> omega
  have p3 : db r g1.u.l + 4 ≤ db r g0.u.l := by
    rcases hr with rfl | rfl <;> simp only [db] <;> omega
  refine ⟨⟨by omega, R.wf⟩, ?_, by omega, by omega, ?_, ?_, ?_, S.trans R.stp⟩
  · simp only [Stm.cnt]; omega
  · simp only [Stm.work]; omega
  · simp only [Stm.wt]; omega
  · simp only [Stm.dep]; omega
theorem ParOk.skip {r : Nat} {g : Gw} : ParOk r g g .skip :=
  ⟨trivial, rfl, rfl, Nat.le_refl _, by simp only [Stm.work]; omega, by simp only [Stm.wt]; omega, by
    match r with
    | 0 => simp only [db, Stm.dep]; omega
    | 1 => simp only [db, Stm.dep]; omega
    | _ + 2 => simp only [db, Stm.dep]; omega, .refl⟩
end Dl
namespace Dl
open PySem PySem.Spec PyProof.Rows L2 Mi
local macro_rules | `(tactic| walk_at "dl") => `(tactic| simp only [dRet, dOp, dSl, dV, dNoP, dPart, dLst, dLstM, dCons, dNil, dC, startD, rAdd, rAddM, rIx, rEq, rNe, rII, rII0, rIB0, rMul, rIsN, rNotN, isNon, dNeg, dTest, dAnd, dOr, dNot, dAndV, dOrV, dNotV, dIf, dTup, dFrz, dCB, rLen, rInt1, rAbs1, rMin2, rAll1, dBM, rApp, rExt, rPop0,
  dGet, dPut, dNext, dSeq, dDrop, dIfS, dName, dgNil, dgCons, dgTup, dAsg, dSub, rSet, dPar, dIL, dIT, dIR, dIE, dIZ, dFor, dYes, dCall, dLc, dLcM, dLcF, dPair, dGetT, dInT, dPutT, dNewT, wipeD,
  natsD, isL_lst, isL_ref, seqIn_tup, seqIn_lst, rIn, flatD, eqD, List.all_cons, List.all_nil, List.any_cons, List.any_nil, sizeLine_eq, Nat.reduceLeDiff, Nat.reduceLT, Bool.or_false, Bool.and_true, Bool.true_and, Bool.false_and, Bool.false_or, Bool.or_true, Bool.true_or, Bool.and_false, tupAt, optE, endsOf,
  List.map_cons, List.map_nil, List.length_cons, List.length_nil, List.cons_append, List.nil_append, List.append_nil, List.getElem?_cons_zero, List.getElem?_cons_succ, List.getElem?_nil, List.set_cons_zero, List.set_cons_succ, List.replicate_succ, List.replicate_zero, List.length_append, List.replicate,
  of_sE, String.reduceEq, decide_true, decide_false, Bool.false_eq_true, Bool.not_true, Bool.not_false, reduceIte, exists_eq_left, exists_eq_left', true_and, and_true, if_true, if_false, ite_true, ite_false, Nat.reduceAdd, Nat.reduceSub, Nat.reduceBEq, BEq.rfl, beq_self_eq_true, D.ref.injEq, D.int.injEq, D.str.injEq, D.lst.injEq, D.tup.injEq, List.cons.injEq, exists_and_left, exists_const, and_self])
local macro_rules | `(tactic| walk_at "s0") => `(tactic| (dsimp only [startD, List.length_cons, List.length_nil, List.map_cons, List.map_nil, List.cons_append, List.nil_append, Nat.reduceAdd, Nat.reduceSub, List.replicate_succ, List.replicate_zero]))
local macro_rules | `(tactic| walk_at "st") => `(tactic| ((conv => whnf); (try dsimp only [List.set_cons_zero, List.set_cons_succ]); repeat ((refine ⟨Nat.le_of_ble_eq_true rfl, ?_⟩); (conv => whnf); (try dsimp only [List.set_cons_zero, List.set_cons_succ]))))

section
variable {P : Program} {K : PySem.W.Frag} {mg : Str → Option Value} {w : World} {base : Heap}
/-- the outer block's scope -/
abbrev o_law_inputs : Scope := { kind := .function, names := [(".0", .local), ("_law_kind", .local), ("range", .globalImplicit), ("_law_draw", .globalImplicit), ("_law_state_here", .cell)], isGenerator := false, isCoroutine := false }
abbrev n_law_inputs : List Str := ["_law_state_here", "_law_core_here", "_law_k", "_law_kind"]
theorem sc_law_inputs : FnScope n_law_inputs ["_law_state_here", "_law_core_here"] (defScope s_law_inputs) := ⟨rfl, rfl, rfl, by decide +kernel, rfl, by decide +kernel, by decide +kernel⟩
/-- _law_inputs; slots 0 _law_state_here, 1 _law_core_here, 2 _law_k, 3 _law_kind; cells ['_law_state_here']; calls ['_law_draw', '_law_pick'] -/
theorem ok_law_inputs (B : Bl K mg) (Tx : Txt K mg "_law_inputs" s_law_inputs) (c_law_draw : Have P w K mg base "_law_draw" ["_law_state_here", "_law_many_here"] 1 spDraw) (c_law_pick : Have P w K mg base "_law_pick" ["_law_state_here", "_law_row"] 2 spPick) : Have P w K mg base "_law_inputs" ["_law_state_here", "_law_core_here"] 3 spInputs := by
  refine have_of Tx sc_law_inputs (fun _ _ _ _ _ _ us hl => match us, hl with | [_, _], _ => rfl) len2 fun cdv f A outer s H E hr => ⟨_, (dss_one (ds_ret (de_lc (own := [("_law_kind", 3)]) rfl sc_law_inputs.nd (di_list (de_ix (dv 1) de_int)) (blkOk_by (N := n_law_inputs) (sc := defScope s_law_inputs) (by decide +kernel)) (fun _ _ _ _ _ => (dg_name (i := 3) (by decide) sc_law_inputs.nd rfl (Or.inl rfl))) (fun _ _ _ _ _ => (dts_one (dt_cmp (op_eq_d (hu2 hr)) (dv 3) de_str (nomark _)))) (fun _ _ _ _ _ => (de_lc (own := [("_law_k", 2)]) rfl sc_law_inputs.nd (di_range rfl B.range (da_cons (de_callH c_law_draw (hr.mono (by omega)) rfl (da_cons (dv 0) (da_cons de_int da_nil))) da_nil)) (blkOk_by (N := n_law_inputs) (sc := o_law_inputs) (by decide +kernel)) (fun _ _ _ _ _ => (dg_name (i := 2) (by decide) sc_law_inputs.nd rfl (Or.inl rfl))) (fun _ _ _ _ _ => dts_nil) (fun _ _ _ _ _ => (de_callH c_law_draw (hr.mono (by omega)) rfl (da_cons (dv 0) (da_cons (de_callH c_law_pick (hr.mono (by omega)) rfl (da_cons (dv 0) (da_cons (de_lst (da_cons de_int (da_cons de_int da_nil))) da_nil))) da_nil))))))))), ?_⟩
  rintro _ M Q ⟨_, _, rfl, sa, ca, co, C, rfl, rfl, S0, h⟩
  walk_at "s0"
  walk_at "st"
  intro p hp
  have nm : ∀ {M1 : Mh} {q : Addr}, StAt sa ca M1 → M1 q = none → q ≠ sa ∧ q ≠ ca := by
    intro M1 q ⟨⟨cells, seed, m1, m2⟩, _⟩ hq
    exact ⟨fun z => (by rw [z, m1] at hq; cases hq), fun z => (by rw [z, m2] at hq; cases hq)⟩
  have np := nm S0 hp
  refine lc_inv (G := fun _ => True) (fun i acc M' => ∃ inp : List (List Nat), acc = inp.map natsD ∧ inp.length = (co.kinds.take i).countP (· == .inp) ∧ (∀ l ∈ inp, l.length ≤ 10 ∧ ∀ x ∈ l, x < 65536) ∧ M' p = some (.lst acc) ∧ StAt sa ca M') (fun _ _ _ _ => trivial) ?_ ?_ ⟨[], rfl, rfl, (fun _ hx => nomatch hx), mupd_same, S0.upd np.1 np.2⟩
  · rintro i d acc M1 Ky Kn hd ⟨inp, rfl, hl, hin, hM, S1⟩ hy hn
    rw [List.getElem?_map] at hd
    obtain ⟨k, hk, rfl⟩ := Option.map_eq_some_iff.mp hd
    have htk : co.kinds.take (i + 1) = co.kinds.take i ++ [k] := by rw [List.take_add_one, hk]; rfl
    have hcn : (co.kinds.take i).countP (· == .inp) ≤ 1000 := by
      have h1 := List.countP_le_length (p := (· == Mi.Kind.inp)) (l := co.kinds.take i)
      have h2 := C.k2
      rw [List.length_take] at h1
      omega
    have hne : k ≠ .inp → (co.kinds.take (i + 1)).countP (· == .inp) = (co.kinds.take i).countP (· == .inp) := by
      intro z
      rw [htk, List.countP_append]
      cases k
      · exact absurd rfl z
      · rfl
      · rfl
    cases k with
    | out =>
      walk_at "st"
      exact hn M1 ⟨inp, rfl, by rw [hne (fun z => nomatch z)]; exact hl, hin, hM, S1⟩
    | inner =>
      walk_at "st"
      exact hn M1 ⟨inp, rfl, by rw [hne (fun z => nomatch z)]; exact hl, hin, hM, S1⟩
    | inp =>
      walk_at "st"
      refine ⟨_, _, rfl, sa, ca, 6, rfl, rfl, by decide, by decide, S1, fun m M2 hm S2 f2 => ?_⟩
      walk_at "st"
      refine ⟨by omega, ⟨by omega, ?_⟩⟩
      intro q hq
      rw [Int.toNat_natCast]
      have nq := nm S2 hq
      have hM2 := f2 _ _ np.1 np.2 hM
      have pq : p ≠ q := fun z => by rw [z, hq] at hM2; cases hM2
      refine lc_inv (G := fun _ => True) (fun j ac M' => ∃ l : List Nat, ac = l.map N ∧ l.length = j ∧ (∀ x ∈ l, x < 65536) ∧ M' q = some (.lst ac) ∧ M' p = some (.lst (inp.map natsD)) ∧ StAt sa ca M') (fun _ _ _ _ => trivial) ?_ ?_ ⟨[], rfl, rfl, (fun _ hx => nomatch hx), mupd_same, by rw [mupd_ne pq]; exact hM2, S2.upd nq.1 nq.2⟩
      · rintro j d ac M3 Ky2 Kn2 hd2 ⟨l, rfl, hl2, hb, hq3, hp3, S3⟩ hy2 hn2
        have hj : j < m := by
          have := (List.getElem?_eq_some_iff.mp hd2).1
          rw [intsD_len] at this
          exact this
        walk_at "st"
        refine ⟨_, _, rfl, sa, ca, [N 4, N 65536], rfl, .inl rfl, by decide, by decide, S3, fun d2 M4 hd2 S4 f4 => ?_⟩
        obtain ⟨b, hb1, hb2, rfl⟩ : ∃ b, 0 < b ∧ b ≤ 65536 ∧ d2 = N b := by
          simp only [List.mem_cons, List.not_mem_nil, or_false] at hd2
          rcases hd2 with rfl | rfl
          · exact ⟨4, by decide, by decide, rfl⟩
          · exact ⟨65536, by decide, by decide, rfl⟩
        walk_at "st"
        refine ⟨_, _, rfl, sa, ca, b, rfl, rfl, hb1, by omega, S4, fun x M5 hx S5 f5 => ?_⟩
        refine hy2 _ _ (f5 q _ nq.1 nq.2 (f4 q _ nq.1 nq.2 hq3)) (by rw [sizeLine_eq, List.length_map]; omega) ⟨l ++ [x], by rw [List.map_append]; rfl, by rw [List.length_append, hl2]; rfl, fun y hy => ?_, mupd_same, by rw [mupd_ne pq]; exact f5 p _ np.1 np.2 (f4 p _ np.1 np.2 hp3), S5.upd nq.1 nq.2⟩
        rcases List.mem_append.mp hy with z | z
        · exact hb y z
        · rw [List.mem_singleton.mp z]; omega
      · rintro ac M3 ⟨l, rfl, hl2, hb, hq3, hp3, S3⟩
        rw [intsD_len] at hl2
        refine ⟨hq3, ?_⟩
        walk_at "st"
        have hpd : mdel M3 q p = some (.lst (inp.map natsD)) := by rw [mdel_ne pq]; exact hp3
        have S4 : StAt sa ca (mdel M3 q) := by
          obtain ⟨⟨cells, seed, m1, m2⟩, ne⟩ := S3
          exact ⟨⟨cells, seed, by rw [mdel_ne (Ne.symm nq.1)]; exact m1, by rw [mdel_ne (Ne.symm nq.2)]; exact m2⟩, ne⟩
        refine hy _ _ hpd (by rw [sizeLine_eq, List.length_map]; omega) ⟨inp ++ [l], by rw [List.map_append]; rfl, ?_, fun y hy => ?_, mupd_same, S4.upd np.1 np.2⟩
        · rw [List.length_append, hl, htk, List.countP_append]; rfl
        · rcases List.mem_append.mp hy with z | z
          · exact hin y z
          · rw [List.mem_singleton.mp z]; exact ⟨by omega, hb⟩
  · rintro acc M1 ⟨inp, rfl, hl, hin, hM, S1⟩
    refine ⟨hM, ?_⟩
    walk_at "st"
    have S4 : StAt sa ca (mdel M1 p) := by
      obtain ⟨⟨cells, seed, m1, m2⟩, ne⟩ := S1
      exact ⟨⟨cells, seed, by rw [mdel_ne (Ne.symm np.1)]; exact m1, by rw [mdel_ne (Ne.symm np.2)]; exact m2⟩, ne⟩
    refine rt_same (h inp _ ⟨?_, hin⟩ S4)
    rw [hl, List.length_map, List.take_length, C.kinds, List.countP_append, List.countP_append, List.countP_replicate, List.countP_replicate, List.countP_replicate]
    rfl
end
end Dl
namespace Dl
open PySem PySem.Spec PyProof.Rows L2 Mi
local macro_rules | `(tactic| walk_at "dl") => `(tactic| simp only [dRet, dOp, dSl, dV, dNoP, dPart, dLst, dLstM, dCons, dNil, dC, startD, rAdd, rAddM, rIx, rEq, rNe, rII, rII0, rIB0, rMul, rIsN, rNotN, isNon, dNeg, dTest, dAnd, dOr, dNot, dAndV, dOrV, dNotV, dIf, dTup, dFrz, dCB, rLen, rInt1, rAbs1, rMin2, rAll1, dBM, rApp, rExt, rPop0,
  dGet, dPut, dNext, dSeq, dDrop, dIfS, dName, dgNil, dgCons, dgTup, dAsg, dSub, rSet, dPar, dIL, dIT, dIR, dIE, dIZ, dFor, dYes, dCall, dLc, dLcM, dLcF, dPair, dGetT, dInT, dPutT, dNewT, wipeD,
  natsD, isL_lst, isL_ref, seqIn_tup, seqIn_lst, rIn, flatD, eqD, List.all_cons, List.all_nil, List.any_cons, List.any_nil, sizeLine_eq, Nat.reduceLeDiff, Nat.reduceLT, Bool.or_false, Bool.and_true, Bool.true_and, Bool.false_and, Bool.false_or, Bool.or_true, Bool.true_or, Bool.and_false, tupAt, optE, endsOf,
  List.map_cons, List.map_nil, List.length_cons, List.length_nil, List.cons_append, List.nil_append, List.append_nil, List.getElem?_cons_zero, List.getElem?_cons_succ, List.getElem?_nil, List.set_cons_zero, List.set_cons_succ, List.replicate_succ, List.replicate_zero, List.length_append, List.replicate,
  of_sE, String.reduceEq, decide_true, decide_false, Bool.false_eq_true, Bool.not_true, Bool.not_false, reduceIte, exists_eq_left, exists_eq_left', true_and, and_true, if_true, if_false, ite_true, ite_false, Nat.reduceAdd, Nat.reduceSub, Nat.reduceBEq, BEq.rfl, beq_self_eq_true, D.ref.injEq, D.int.injEq, D.str.injEq, D.lst.injEq, D.tup.injEq, List.cons.injEq, exists_and_left, exists_const, and_self])
local macro_rules | `(tactic| walk_at "s0") => `(tactic| (dsimp only [startD, List.length_cons, List.length_nil, List.map_cons, List.map_nil, List.cons_append, List.nil_append, Nat.reduceAdd, Nat.reduceSub, List.replicate_succ, List.replicate_zero]))
local macro_rules | `(tactic| walk_at "st") => `(tactic| ((conv => whnf); (try dsimp only [List.set_cons_zero, List.set_cons_succ]); repeat ((refine ⟨Nat.le_of_ble_eq_true rfl, ?_⟩); (conv => whnf); (try dsimp only [List.set_cons_zero, List.set_cons_succ]))))

section
variable {P : Program} {K : PySem.W.Frag} {mg : Str → Option Value} {w : World} {base : Heap}
/-- a fresh env -/
structure NewEnv (M M' : Mh) (n : Nat) (ea c r g t : Addr) (f : Nat) (sp : List (Nat × Nat)) : Prop where
  he : M' ea = some (.dK (Ev.kvs ⟨.ref c, .ref r, .lst (sp.map spanD), .ref g, .ref t, [], [], [], [], []⟩))
  hc : M' c = some (.lst [N f, N (f + 1)])
  hr : M' r = some (.lst [N f, N (f + 1)])
  hg : M' g = some (.lst [])
  ht : M' t = some (.lst [])
  fe : M ea = none
  fc : M c = none
  fr : M r = none
  fg : M g = none
  ft : M t = none
  d1 : c ≠ r
  d2 : c ≠ g
  d3 : c ≠ t
  d4 : r ≠ g
  d5 : r ≠ t
  d6 : g ≠ t
  d7 : ea ≠ c
  d8 : ea ≠ r
  d9 : ea ≠ g
  d0 : ea ≠ t
  f2 : f + 2 ≤ n
  sl : sp.length ≤ 1
  s : ∀ p ∈ sp, p.1 + p.2 ≤ n ∧ p.2 ≤ 1000
theorem free_upd {M : Mh} {p x : Addr} {o : MO} (h : mupd M p o x = none) : x ≠ p ∧ M x = none := by
  have n : x ≠ p := fun z => by rw [z, mupd_same] at h; cases h
  rw [mupd_ne n] at h
  exact ⟨n, h⟩
theorem NewEnv.go {R : List Addr} {M M1 M2 : Mh} {n n' : Nat} {ea c r g t : Addr} {f : Nat} {sp : List (Nat × Nat)} (k : NewEnv M M1 n ea c r g t f sp) (hR : ∀ p, M p = none → p ∉ R) (h : FrR R M1 M2) (hn : n ≤ n') : NewEnv M M2 n' ea c r g t f sp :=
  ⟨h _ _ (hR _ k.fe) k.he, h _ _ (hR _ k.fc) k.hc, h _ _ (hR _ k.fr) k.hr, h _ _ (hR _ k.fg) k.hg, h _ _ (hR _ k.ft) k.ht, k.fe, k.fc, k.fr, k.fg, k.ft, k.d1, k.d2, k.d3, k.d4, k.d5, k.d6, k.d7, k.d8, k.d9, k.d0, Nat.le_trans k.f2 hn, k.sl, fun p hp => ⟨Nat.le_trans (k.s p hp).1 hn, (k.s p hp).2⟩⟩
theorem NewEnv.span {M M1 : Mh} {n : Nat} {ea c r g t : Addr} {f a z : Nat} {sp : List (Nat × Nat)} (k : NewEnv M M1 n ea c r g t f sp) (h1 : a + z ≤ n) (h2 : z ≤ 1000) :
    NewEnv M (mupd M1 ea (.dK (Ev.kvs ⟨.ref c, .ref r, .lst ([(a, z)].map spanD), .ref g, .ref t, [], [], [], [], []⟩))) n ea c r g t f [(a, z)] :=
  ⟨mupd_same, by rw [mupd_ne k.d7.symm]; exact k.hc, by rw [mupd_ne k.d8.symm]; exact k.hr, by rw [mupd_ne k.d9.symm]; exact k.hg, by rw [mupd_ne k.d0.symm]; exact k.ht, k.fe, k.fc, k.fr, k.fg, k.ft, k.d1, k.d2, k.d3, k.d4, k.d5, k.d6, k.d7, k.d8, k.d9, k.d0, k.f2, Nat.le_refl _, fun p hp => by
    rw [List.mem_singleton.mp hp]; exact ⟨h1, h2⟩⟩
def Gw.mc (g : Gw) (k : Nat) : Gw := { g with u := { g.u with c := g.u.c + k } }
def spEnv : SpD := sp2 fun a b M Q => ∃ (sa ca wa : Addr) (g : Gw), a = .ref sa ∧ b = .ref wa ∧ WdAt sa ca wa g M ∧ g.u.c ≤ 900 ∧
  ∀ ea c r gg t f sp k M', k ≤ 6 → NewEnv M M' (g.u.c + k) ea c r gg t f sp → WdAt sa ca wa (g.mc k) M' → FrR (Rg sa ca wa g) M M' → Q (.ref ea) M'
abbrev n_law_env : List Str := ["_law_state_here", "_law_world", "_law_first_here", "_law_env_here", "_law_size"]
theorem sc_law_env : FnScope n_law_env ["_law_state_here", "_law_world"] (defScope s_law_env) := ⟨rfl, rfl, rfl, by decide +kernel, rfl, by decide +kernel, by decide +kernel⟩
/-- _law_env; slots 0 _law_state_here, 1 _law_world, 2 _law_first_here, 3 _law_env_here, 4 _law_size; cells []; calls ['_law_draw', '_law_more_cells'] -/
theorem ok_law_env (B : Bl K mg) (Tx : Txt K mg "_law_env" s_law_env) (c_law_draw : Have P w K mg base "_law_draw" ["_law_state_here", "_law_many_here"] 1 spDraw) (c_law_more_cells : Have P w K mg base "_law_more_cells" ["_law_world", "_law_many_here"] 1 spMore) : Have P w K mg base "_law_env" ["_law_state_here", "_law_world"] 2 spEnv := by
  refine have_of Tx sc_law_env (fun _ _ _ _ _ _ us hl => match us, hl with | [_, _], _ => rfl) len2 fun cdv f A outer s H E hr => ⟨_, (dss_cons (ds_set (i := 2) sc_law_env.nd rfl (Or.inl rfl) (de_callH c_law_more_cells (hr.mono (by omega)) rfl (da_cons (dv 1) (da_cons de_int da_nil))))
    (dss_cons (ds_set (i := 3) sc_law_env.nd rfl (Or.inl rfl) (de_disp (pps_one (de_lstM (da_cons (dv 2) (da_cons (de_op op_add_d (dv 2) de_int) da_nil))) (pps_one (de_lstM (da_cons (dv 2) (da_cons (de_op op_add_d (dv 2) de_int) da_nil))) (pps_one (de_lst da_nil) (pps_one (de_lstM da_nil) (pps_one (de_lstM da_nil) pps_end))))) rfl rfl (fun z => nomatch z) (by decide)))
    (dss_cons (ds_if (dt_w (dw_and (dt_cmp op_lt_d (de_dget (hu_of hr) (dv 1) (fun _ _ => rfl)) de_int (nomark _)) (dw_and1 (dt_cmp (op_eq_d (hu2 hr)) (de_callH c_law_draw (hr.mono (by omega)) rfl (da_cons (dv 0) (da_cons de_int da_nil))) de_int (nomark _))))) (dss_cons (ds_set (i := 4) sc_law_env.nd rfl (Or.inl rfl) (de_op op_add_d de_int (de_callH c_law_draw (hr.mono (by omega)) rfl (da_cons (dv 0) (da_cons de_int da_nil)))))
    (dss_one (ds_dput (hu_of hr) (dv 3) (de_lst (da_cons (de_tup (da_cons (de_callH c_law_more_cells (hr.mono (by omega)) rfl (da_cons (dv 1) (da_cons (dv 4) da_nil))) (da_cons (dv 4) da_nil))) da_nil))))) dss_nil)
    (dss_one (ds_ret (dv 3)))))), ?_⟩
  rintro _ M Q ⟨_, _, rfl, sa, ca, wa, g, rfl, rfl, W0, hc9, h⟩
  walk_at "s0"
  walk_at "st"
  refine ⟨_, _, rfl, wa, g.u, 2, rfl, rfl, W0.rc, ?_⟩
  have W1 : WdAt sa ca wa (g.mc 2) _ := W0.put (u' := { g.u with c := g.u.c + 2 }) rfl
  have F1 : FrR (Rg sa ca wa g) M (mupd M wa (.dK ({ g.u with c := g.u.c + 2 } : Wd).kvs)) := FrR.refl.mem (by simp)
  revert W1 F1
  generalize hM1 : mupd M wa (.dK ({ g.u with c := g.u.c + 2 } : Wd).kvs) = M1
  intro W1 F1
  walk_at "st"
  intro ea hea
  walk_at "st"
  intro c hc
  walk_at "st"
  intro r hr2
  walk_at "st"
  intro gg hg
  walk_at "st"
  intro t ht
  walk_at "st"
  obtain ⟨n1, hc⟩ := free_upd hc
  obtain ⟨n2, hr2⟩ := free_upd hr2
  obtain ⟨n3, hr2⟩ := free_upd hr2
  obtain ⟨n4, hg⟩ := free_upd hg
  obtain ⟨n5, hg⟩ := free_upd hg
  obtain ⟨n6, hg⟩ := free_upd hg
  obtain ⟨n7, ht⟩ := free_upd ht
  obtain ⟨n8, ht⟩ := free_upd ht
  obtain ⟨n9, ht⟩ := free_upd ht
  obtain ⟨n0, ht⟩ := free_upd ht
  have up : ∀ x, M1 x = none → M x = none := fun x hx => by rw [← hM1] at hx; exact (free_upd hx).2
  refine ⟨by rw [mupd_ne n0.symm, mupd_ne n6.symm, mupd_ne n3.symm, mupd_ne n1.symm, mupd_same], Nat.le_of_ble_eq_true rfl, by simp only [List.map_cons, List.map_nil]; decide, ?_⟩
  have NE : NewEnv M (mupd (mupd (mupd (mupd (mupd (mupd M1 ea (.dK [])) c (.lst [N g.u.c, .int ((g.u.c : Int) + 1)])) r (.lst [N g.u.c, .int ((g.u.c : Int) + 1)])) gg (.lst [])) t (.lst [])) ea (.dK [(.inr (Str.ofString "cells"), .ref c), (.inr (Str.ofString "reads"), .ref r), (.inr (Str.ofString "spans"), .lst []), (.inr (Str.ofString "gives"), .ref gg), (.inr (Str.ofString "takes"), .ref t)])) (g.u.c + 2) ea c r gg t g.u.c [] :=
    ⟨mupd_same, by rw [mupd_ne n1, mupd_ne n9.symm, mupd_ne n5.symm, mupd_ne n2.symm, mupd_same]; rfl, by rw [mupd_ne n3, mupd_ne n8.symm, mupd_ne n4.symm, mupd_same]; rfl, by rw [mupd_ne n6, mupd_ne n7.symm, mupd_same], by rw [mupd_ne n0, mupd_same],
      up _ hea, up _ hc, up _ hr2, up _ hg, up _ ht, n2.symm, n5.symm, n9.symm, n4.symm, n8.symm, n7.symm, n1.symm, n3.symm, n6.symm, n0.symm, Nat.le_refl _, Nat.zero_le _, fun _ hp => nomatch hp⟩
  have F2 : FrR (Rg sa ca wa g) M (mupd (mupd (mupd (mupd (mupd (mupd M1 ea (.dK [])) c (.lst [N g.u.c, .int ((g.u.c : Int) + 1)])) r (.lst [N g.u.c, .int ((g.u.c : Int) + 1)])) gg (.lst [])) t (.lst [])) ea (.dK [(.inr (Str.ofString "cells"), .ref c), (.inr (Str.ofString "reads"), .ref r), (.inr (Str.ofString "spans"), .lst []), (.inr (Str.ofString "gives"), .ref gg), (.inr (Str.ofString "takes"), .ref t)])) := ((((((F1.own (up _ hea)).own (up _ hc)).own (up _ hr2)).own (up _ hg)).own (up _ ht)).own (up _ hea))
  have hR : ∀ x, M x = none → x ∉ Rg sa ca wa g := fun x hx => W0.fresh hx
  have W2 : WdAt sa ca wa (g.mc 2) (mupd (mupd (mupd (mupd (mupd (mupd M1 ea (.dK [])) c (.lst [N g.u.c, .int ((g.u.c : Int) + 1)])) r (.lst [N g.u.c, .int ((g.u.c : Int) + 1)])) gg (.lst [])) t (.lst [])) ea (.dK [(.inr (Str.ofString "cells"), .ref c), (.inr (Str.ofString "reads"), .ref r), (.inr (Str.ofString "spans"), .lst []), (.inr (Str.ofString "gives"), .ref gg), (.inr (Str.ofString "takes"), .ref t)])) := (((((W1.upd (hR _ (up _ hea))).upd (hR _ (up _ hc))).upd (hR _ (up _ hr2))).upd (hR _ (up _ hg))).upd (hR _ (up _ ht))).upd (hR _ (up _ hea))
  revert NE F2 W2
  generalize (mupd (mupd (mupd (mupd (mupd (mupd M1 ea (.dK [])) c (.lst [N g.u.c, .int ((g.u.c : Int) + 1)])) r (.lst [N g.u.c, .int ((g.u.c : Int) + 1)])) gg (.lst [])) t (.lst [])) ea (.dK [(.inr (Str.ofString "cells"), .ref c), (.inr (Str.ofString "reads"), .ref r), (.inr (Str.ofString "spans"), .lst []), (.inr (Str.ofString "gives"), .ref gg), (.inr (Str.ofString "takes"), .ref t)])) = M2
  intro NE F2 W2
  walk_at "st"
  have hs : sa ∈ Rg sa ca wa g := by simp
  have hca : ca ∈ Rg sa ca wa g := by simp
  refine ⟨_, _, _, rfl, W2.rc, rfl, ?_⟩
  refine iteP (fun c1 => ?_) (fun c1 => ?_)
  · walk_at "st"
    refine ⟨_, _, rfl, sa, ca, 3, rfl, rfl, by decide, by decide, W2.st, fun i M3 hi S3 f3 => ?_⟩
    have W3 := W2.fr S3 f3
    have F3 := F2.trans (f3.frR hs hca)
    have NE3 := NE.go hR (f3.frR hs hca) (Nat.le_refl _)
    walk_at "st"
    refine iteP (fun c2 => ?_) (fun c2 => ?_)
    · walk_at "st"
      refine ⟨_, _, rfl, sa, ca, 4, rfl, rfl, by decide, by decide, S3, fun z M4 hz S4 f4 => ?_⟩
      have W4 := W3.fr S4 f4
      have F4 := F3.trans (f4.frR hs hca)
      have NE4 := NE3.go hR (f4.frR hs hca) (Nat.le_refl _)
      have ez : (1 : Int) + ((z : Nat) : Int) = ((1 + z : Nat) : Int) := by omega
      walk_at "st"
      rw [ez]
      refine ⟨_, _, rfl, wa, (g.mc 2).u, 1 + z, rfl, rfl, W4.rc, ?_⟩
      have W5 : WdAt sa ca wa (g.mc (2 + (1 + z))) (mupd M4 wa (.dK ({ (g.mc 2).u with c := (g.mc 2).u.c + (1 + z) } : Wd).kvs)) := by
        have := W4.put (u' := { (g.mc 2).u with c := (g.mc 2).u.c + (1 + z) }) rfl
        have e : (g.mc 2).u.c + (1 + z) = g.u.c + (2 + (1 + z)) := by show g.u.c + 2 + (1 + z) = _; omega
        rw [e] at this ⊢
        exact this
      have F5 : FrR (Rg sa ca wa g) M (mupd M4 wa (.dK ({ (g.mc 2).u with c := (g.mc 2).u.c + (1 + z) } : Wd).kvs)) := F4.mem (by simp)
      have NE5 : NewEnv M (mupd M4 wa (.dK ({ (g.mc 2).u with c := (g.mc 2).u.c + (1 + z) } : Wd).kvs)) (g.u.c + (2 + (1 + z))) ea c r gg t g.u.c [] := NE4.go hR (FrR.refl.mem (by simp)) (by omega)
      revert W5 F5 NE5
      generalize mupd M4 wa (.dK ({ (g.mc 2).u with c := (g.mc 2).u.c + (1 + z) } : Wd).kvs) = M5
      intro W5 F5 NE5
      walk_at "st"
      refine ⟨_, _, rfl, NE5.he, by rw [sizeLine_eq]; exact Nat.le_of_ble_eq_true rfl, ?_⟩
      walk_at "st"
      have NE6 := NE5.span (a := g.u.c + 2) (z := 1 + z) (by omega) (by omega)
      exact rt_same (h ea c r gg t g.u.c [(g.u.c + 2, 1 + z)] _ _ (by omega) NE6 (W5.upd (hR _ NE.fe)) (F5.own NE.fe))
    · walk_at "st"
      exact rt_same (h ea c r gg t g.u.c [] 2 _ (by omega) NE3 W3 F3)
  · walk_at "st"
    exact rt_same (h ea c r gg t g.u.c [] 2 _ (by omega) NE W2 F2)
end
end Dl
namespace Dl
open PySem PySem.Spec PyProof.Rows L2 Mi
/-! ### scripts: what a thread is to do -/
inductive Itm where
  | io (g b : Bool) (c : Nat)
  | loop (m : Nat) (p : Addr) (c : Nat)
  | nest
def ioN (g : Bool) : String := if g then "give" else "take"
def tagN (b : Bool) : String := if b then "loop" else ""
def partD (q : Bool × Nat) : D := .tup [S (ioN q.1), N q.2, S ""]
def Itm.d : Itm → D
  | .io g b c => .tup [S (ioN g), N c, S (tagN b)]
  | .loop m p c => .tup [S "loop", N m, .ref p, N c]
  | .nest => .tup [S "nest"]
def ItmOk (R : List Addr) (M : Mh) (n C r : Nat) : Itm → Prop
  | .io _ b c => c < C ∧ (r = 0 → b = true)
  | .loop m p c => 1 ≤ r ∧ m ≤ 3 ∧ c < n ∧ p ∉ R ∧ ∃ ps : List (Bool × Nat), M p = some (.lst (ps.map partD)) ∧ (∀ q ∈ ps, q.2 < C) ∧ ps.length ≤ 100
  | .nest => 2 ≤ r
theorem ItmOk.mono {R : List Addr} {M M' : Mh} {n n' C C' r : Nat} {i : Itm} (h : ItmOk R M n C r i) (f : FrR R M M') (hn : n ≤ n') (hC : C ≤ C') : ItmOk R M' n' C' r i := by
  cases i with
  | io g b c => exact ⟨Nat.lt_of_lt_of_le h.1 hC, h.2⟩
  | loop m p c =>
    obtain ⟨h1, h2, h3, h4, ps, h5, h6, h7⟩ := h
    exact ⟨h1, h2, Nat.lt_of_lt_of_le h3 hn, h4, ps, f _ _ h4 h5, fun q hq => Nat.lt_of_lt_of_le (h6 q hq) hC, h7⟩
  | nest => exact h
theorem ItmOk.up {R : List Addr} {M : Mh} {n C r r' : Nat} {i : Itm} (h : ItmOk R M n C r i) (hr : r ≤ r') (h1 : 1 ≤ r') : ItmOk R M n C r' i := by
  cases i with
  | io g b c => exact ⟨h.1, fun z => absurd z (by omega)⟩
  | loop m p c => exact ⟨h1, h.2⟩
  | nest => exact Nat.le_trans h hr
theorem map_sub {α β : Type} {f : α → β} {l : List α} : ∀ {es : List β}, (∀ d ∈ es, d ∈ l.map f) → ∃ l' : List α, es = l'.map f ∧ ∀ i ∈ l', i ∈ l
  | [], _ => ⟨[], rfl, fun _ h => nomatch h⟩
  | d :: es, h => by
    obtain ⟨l', e, hl⟩ := map_sub (es := es) fun d hd => h d (List.mem_cons_of_mem _ hd)
    obtain ⟨i, hi, rfl⟩ := List.mem_map.mp (h d (List.mem_cons_self ..))
    refine ⟨i :: l', by rw [e]; rfl, fun j hj => ?_⟩
    rcases List.mem_cons.mp hj with rfl | hj
    · exact hi
    · exact hl j hj
/-! ### a typed heap: envs, their lists, scripts and parts -/
inductive Ty where
  | l (b : Bool) | s | p | e
  deriving DecidableEq
def ScrOk (τ : Addr → Option Ty) (n C : Nat) : Itm → Prop
  | .io _ b c => b = false ∧ c < C
  | .loop m p c => m ≤ 3 ∧ c < n ∧ τ p = some .p
  | .nest => False
def TyOk (τ : Addr → Option Ty) (n C L Lp Ls : Nat) : Ty → MO → Prop
  | .l b, o => ∃ l : List Nat, o = .lst (l.map N) ∧ (∀ x ∈ l, x < if b = true then C else n) ∧ (b = false → l ≠ []) ∧ l.length ≤ L
  | .p, o => ∃ ps : List (Bool × Nat), o = .lst (ps.map partD) ∧ (∀ q ∈ ps, q.2 < C) ∧ ps.length ≤ Lp
  | .s, o => ∃ its : List Itm, o = .lst (its.map Itm.d) ∧ (∀ i ∈ its, ScrOk τ n C i) ∧ its.length ≤ Ls
  | .e, o => ∃ (c r g t : Addr) (sp : List (Nat × Nat)), o = .dK (Ev.kvs ⟨.ref c, .ref r, .lst (sp.map spanD), .ref g, .ref t, [], [], [], [], []⟩) ∧
      τ c = some (.l false) ∧ τ r = some (.l false) ∧ τ g = some (.l true) ∧ τ t = some (.l true) ∧ (∀ p ∈ sp, p.1 + p.2 ≤ n ∧ p.2 ≤ 1000) ∧ sp.length ≤ 1
def TMono (τ τ' : Addr → Option Ty) : Prop := ∀ a t, τ a = some t → τ' a = some t
theorem ScrOk.mono {τ τ' : Addr → Option Ty} {n n' C C' : Nat} {i : Itm} (h : ScrOk τ n C i) (ht : TMono τ τ') (hn : n ≤ n') (hC : C ≤ C') : ScrOk τ' n' C' i := by
  cases i with
  | io g b c => exact ⟨h.1, Nat.lt_of_lt_of_le h.2 hC⟩
  | loop m p c => exact ⟨h.1, Nat.lt_of_lt_of_le h.2.1 hn, ht _ _ h.2.2⟩
  | nest => exact h
theorem TyOk.mono {τ τ' : Addr → Option Ty} {n n' C C' L L' Lp Lp' Ls Ls' : Nat} {t : Ty} {o : MO} (h : TyOk τ n C L Lp Ls t o) (ht : TMono τ τ') (hn : n ≤ n') (hC : C ≤ C') (hL : L ≤ L') (hp : Lp ≤ Lp') (hs : Ls ≤ Ls') : TyOk τ' n' C' L' Lp' Ls' t o := by
  cases t with
  | l b =>
    obtain ⟨l, e, h1, h2, h3⟩ := h
    refine ⟨l, e, fun x hx => Nat.lt_of_lt_of_le (h1 x hx) ?_, h2, Nat.le_trans h3 hL⟩
    cases b
    · exact hn
    · exact hC
  | p =>
    obtain ⟨l, e, h1, h3⟩ := h
    exact ⟨l, e, fun x hx => Nat.lt_of_lt_of_le (h1 x hx) hC, Nat.le_trans h3 hp⟩
  | s =>
    obtain ⟨l, e, h1, h3⟩ := h
    exact ⟨l, e, fun x hx => (h1 x hx).mono ht hn hC, Nat.le_trans h3 hs⟩
  | e =>
    obtain ⟨c, r, g, t, sp, e, h1, h2, h3, h4, h5, h6⟩ := h
    exact ⟨c, r, g, t, sp, e, ht _ _ h1, ht _ _ h2, ht _ _ h3, ht _ _ h4, fun p hp => ⟨Nat.le_trans (h5 p hp).1 hn, (h5 p hp).2⟩, h6⟩
/-- M0: the heap when the types began -/
structure HeapOk (R : List Addr) (M0 : Mh) (n C L Lp Ls : Nat) (τ : Addr → Option Ty) (M : Mh) : Prop where
  ok : ∀ a t, τ a = some t → a ∉ R ∧ M0 a = none ∧ ∃ o, M a = some o ∧ TyOk τ n C L Lp Ls t o
section
variable {R : List Addr} {M0 M M' : Mh} {n n' C C' L L' Lp Lp' Ls Ls' : Nat} {τ τ' : Addr → Option Ty}
theorem HeapOk.mono (h : HeapOk R M0 n C L Lp Ls τ M) (hn : n ≤ n') (hC : C ≤ C') (hL : L ≤ L') (hp : Lp ≤ Lp') (hs : Ls ≤ Ls') : HeapOk R M0 n' C' L' Lp' Ls' τ M := ⟨fun a t e => by
  obtain ⟨h1, h2, o, h3, h4⟩ := h.ok a t e
  exact ⟨h1, h2, o, h3, h4.mono (fun _ _ z => z) hn hC hL hp hs⟩⟩
theorem HeapOk.fr (h : HeapOk R M0 n C L Lp Ls τ M) (f : FrR R M M') : HeapOk R M0 n C L Lp Ls τ M' := ⟨fun a t e => by
  obtain ⟨h1, h2, o, h3, h4⟩ := h.ok a t e
  exact ⟨h1, h2, o, f _ _ h1 h3, h4⟩⟩
/-- a typed object gets new contents of its type -/
theorem HeapOk.put {p : Addr} {t : Ty} {o : MO} (h : HeapOk R M0 n C L Lp Ls τ M) (ht : τ p = some t) (ho : TyOk τ n C L Lp Ls t o) : HeapOk R M0 n C L Lp Ls τ (mupd M p o) := ⟨fun a t' e => by
  obtain ⟨h1, h2, o', h3, h4⟩ := h.ok a t' e
  by_cases ha : a = p
  · subst ha
    rw [ht] at e
    cases e
    exact ⟨h1, h2, o, mupd_same, ho⟩
  · exact ⟨h1, h2, o', by rw [mupd_ne ha]; exact h3, h4⟩⟩
def tins (τ : Addr → Option Ty) (p : Addr) (t : Ty) : Addr → Option Ty := fun a => if a = p then some t else τ a
theorem tins_same {p : Addr} {t : Ty} : tins τ p t p = some t := if_pos rfl
theorem tins_ne {p a : Addr} {t : Ty} (h : a ≠ p) : tins τ p t a = τ a := if_neg h
theorem tins_mono {p : Addr} {t : Ty} (h : τ p = none) : TMono τ (tins τ p t) := fun a t' e => by
  rw [tins_ne (fun z => by rw [z, h] at e; cases e)]; exact e
theorem HeapOk.free (h : HeapOk R M0 n C L Lp Ls τ M) {p : Addr} (hp : M p = .none) : τ p = .none := by
  cases e : τ p with
  | none => rfl
  | some t =>
    obtain ⟨_, _, o, h3, _⟩ := h.ok p t e
    rw [hp] at h3; cases h3
/-- types for new objects -/
theorem HeapOk.more (h : HeapOk R M0 n C L Lp Ls τ M) (ht : TMono τ τ') (hn : ∀ a t, τ' a = some t → τ a = some t ∨ (a ∉ R ∧ M0 a = none ∧ ∃ o, M a = some o ∧ TyOk τ' n C L Lp Ls t o)) : HeapOk R M0 n C L Lp Ls τ' M := ⟨fun a t e => by
  rcases hn a t e with h1 | h1
  · obtain ⟨h1, h2, o, h3, h4⟩ := h.ok a t h1
    exact ⟨h1, h2, o, h3, h4.mono ht (Nat.le_refl _) (Nat.le_refl _) (Nat.le_refl _) (Nat.le_refl _) (Nat.le_refl _)⟩
  · exact h1⟩
theorem HeapOk.new {p : Addr} {t : Ty} {o : MO} (h : HeapOk R M0 n C L Lp Ls τ M) (hp : M p = .none) (h0 : M0 p = .none) (hr : p ∉ R) (ho : TyOk τ n C L Lp Ls t o) : HeapOk R M0 n C L Lp Ls (tins τ p t) (mupd M p o) := by
  have hm : TMono τ (tins τ p t) := tins_mono (h.free hp)
  have h1 : HeapOk R M0 n C L Lp Ls τ (mupd M p o) := ⟨fun a t' e => by
    obtain ⟨k1, k2, o', k3, k4⟩ := h.ok a t' e
    exact ⟨k1, k2, o', by rw [mupd_ne (fun z => by rw [z, hp] at k3; cases k3)]; exact k3, k4⟩⟩
  refine h1.more hm fun a t' e => ?_
  by_cases ha : a = p
  · subst ha
    rw [tins_same] at e
    cases e
    exact .inr ⟨hr, h0, o, mupd_same, ho.mono hm (Nat.le_refl _) (Nat.le_refl _) (Nat.le_refl _) (Nat.le_refl _) (Nat.le_refl _)⟩
  · rw [tins_ne ha] at e
    exact .inl e
/-- an env of the typed heap -/
theorem HeapOk.env (h : HeapOk R M0 n C L Lp Ls τ M) {ea : Addr} (e : τ ea = some .e) (hL : L ≤ 1000000) (n2 : n ≤ 1000) : ∃ v : Ev, EnvAt R M ea v ∧ v.ok n C ∧ v.cs.length ≤ L ∧ v.gs.length ≤ L ∧ v.ts.length ≤ L := by
  obtain ⟨h1, _, o, h3, c, r, g, t, sp, rfl, tc, tr, tg, tt, hsp, hl⟩ := h.ok _ _ e
  obtain ⟨c1, _, _, c3, lc, rfl, c4, c5, c6⟩ := h.ok _ _ tc
  obtain ⟨r1, _, _, r3, lr, rfl, r4, r5, r6⟩ := h.ok _ _ tr
  obtain ⟨g1, _, _, g3, lg, rfl, g4, g5, g6⟩ := h.ok _ _ tg
  obtain ⟨t1, _, _, t3, lt, rfl, t4, t5, t6⟩ := h.ok _ _ tt
  refine ⟨⟨.ref c, .ref r, .lst (sp.map spanD), .ref g, .ref t, lc, lr, sp, lg, lt⟩, ⟨h3, h1, .inr ⟨c, rfl, c1, c3⟩, .inr ⟨r, rfl, r1, r3⟩, .inl rfl, .inr ⟨g, rfl, g1, g3⟩, .inr ⟨t, rfl, t1, t3⟩⟩, ?_, c6, g6, t6⟩
  exact ⟨c5 rfl, c4, r4, r5 rfl, hsp, g4, t4, by dsimp only; omega, by dsimp only; omega, by dsimp only; omega, by dsimp only; omega, by dsimp only; omega, n2⟩
/-- a new env -/
theorem HeapOk.newEnv {f ea c r g t : Nat} {sp : List (Nat × Nat)} (h : HeapOk R M0 n C L Lp Ls τ M) (f0 : FrR R M M') (k : NewEnv M M' n ea c r g t f sp) (hf : ∀ p, M p = .none → M0 p = .none) (hR : ∀ p, M p = .none → p ∉ R) (hL : 2 ≤ L) :
    ∃ τ', HeapOk R M0 n C L Lp Ls τ' M' ∧ TMono τ τ' ∧ τ' ea = some .e ∧ ∀ a o, M a = some o → τ' a = τ a := by
  have n1 := h.free k.fe
  have n2 := h.free k.fc
  have n3 := h.free k.fr
  have n4 := h.free k.fg
  have n5 := h.free k.ft
  have m1 : TMono τ (tins τ ea .e) := tins_mono n1
  have m2 : TMono (tins τ ea .e) (tins (tins τ ea .e) c (.l false)) := tins_mono (by rw [tins_ne k.d7.symm]; exact n2)
  have m3 : TMono (tins (tins τ ea .e) c (.l false)) (tins (tins (tins τ ea .e) c (.l false)) r (.l false)) := tins_mono (by rw [tins_ne k.d1.symm, tins_ne k.d8.symm]; exact n3)
  have m4 : TMono (tins (tins (tins τ ea .e) c (.l false)) r (.l false)) (tins (tins (tins (tins τ ea .e) c (.l false)) r (.l false)) g (.l true)) := tins_mono (by rw [tins_ne k.d4.symm, tins_ne k.d2.symm, tins_ne k.d9.symm]; exact n4)
  have m5 : TMono (tins (tins (tins (tins τ ea .e) c (.l false)) r (.l false)) g (.l true)) (tins (tins (tins (tins (tins τ ea .e) c (.l false)) r (.l false)) g (.l true)) t (.l true)) := tins_mono (by rw [tins_ne k.d6.symm, tins_ne k.d5.symm, tins_ne k.d3.symm, tins_ne k.d0.symm]; exact n5)
  have hm : TMono τ (tins (tins (tins (tins (tins τ ea .e) c (.l false)) r (.l false)) g (.l true)) t (.l true)) := fun a x e => m5 _ _ (m4 _ _ (m3 _ _ (m2 _ _ (m1 _ _ e))))
  have te : tins (tins (tins (tins (tins τ ea .e) c (.l false)) r (.l false)) g (.l true)) t (.l true) ea = some .e := m5 _ _ (m4 _ _ (m3 _ _ (m2 _ _ tins_same)))
  have tc : tins (tins (tins (tins (tins τ ea .e) c (.l false)) r (.l false)) g (.l true)) t (.l true) c = some (.l false) := m5 _ _ (m4 _ _ (m3 _ _ tins_same))
  have tr : tins (tins (tins (tins (tins τ ea .e) c (.l false)) r (.l false)) g (.l true)) t (.l true) r = some (.l false) := m5 _ _ (m4 _ _ tins_same)
  have tg : tins (tins (tins (tins (tins τ ea .e) c (.l false)) r (.l false)) g (.l true)) t (.l true) g = some (.l true) := m5 _ _ tins_same
  have tt : tins (tins (tins (tins (tins τ ea .e) c (.l false)) r (.l false)) g (.l true)) t (.l true) t = some (.l true) := tins_same
  refine ⟨_, (h.fr f0).more hm fun a x e => ?_, hm, te, fun a o ha => ?_⟩
  rotate_left
  · have nn : ∀ q, M q = .none → a ≠ q := fun q hq z => by rw [z, hq] at ha; cases ha
    rw [tins_ne (nn _ k.ft), tins_ne (nn _ k.fg), tins_ne (nn _ k.fr), tins_ne (nn _ k.fc), tins_ne (nn _ k.fe)]
  have hlist : ∀ x ∈ [f, f + 1], x < n := by
    intro x hx
    have := k.f2
    simp only [List.mem_cons, List.not_mem_nil, or_false] at hx
    rcases hx with rfl | rfl <;> omega
  by_cases a1 : a = t
  · subst a1; rw [tt] at e; cases e
    exact .inr ⟨hR _ k.ft, hf _ k.ft, _, k.ht, [], rfl, (fun _ h => nomatch h), (fun z => nomatch z), Nat.zero_le _⟩
  by_cases a2 : a = g
  · subst a2; rw [tg] at e; cases e
    exact .inr ⟨hR _ k.fg, hf _ k.fg, _, k.hg, [], rfl, (fun _ h => nomatch h), (fun z => nomatch z), Nat.zero_le _⟩
  by_cases a3 : a = r
  · subst a3; rw [tr] at e; cases e
    exact .inr ⟨hR _ k.fr, hf _ k.fr, _, k.hr, [f, f + 1], rfl, hlist, fun _ => by simp, hL⟩
  by_cases a4 : a = c
  · subst a4; rw [tc] at e; cases e
    exact .inr ⟨hR _ k.fc, hf _ k.fc, _, k.hc, [f, f + 1], rfl, hlist, fun _ => by simp, hL⟩
  by_cases a5 : a = ea
  · subst a5; rw [te] at e; cases e
    exact .inr ⟨hR _ k.fe, hf _ k.fe, _, k.he, c, r, g, t, sp, rfl, tc, tr, tg, tt, k.s, k.sl⟩
  · rw [tins_ne a1, tins_ne a2, tins_ne a3, tins_ne a4, tins_ne a5] at e
    exact .inl e
end
end Dl
namespace Dl
open PySem PySem.Spec PyProof.Rows L2 Mi
local macro_rules | `(tactic| walk_at "dl") => `(tactic| simp only [dRet, dOp, dSl, dV, dNoP, dPart, dLst, dLstM, dCons, dNil, dC, startD, rAdd, rAddM, rIx, rEq, rNe, rII, rII0, rIB0, rMul, rIsN, rNotN, isNon, dNeg, dTest, dAnd, dOr, dNot, dAndV, dOrV, dNotV, dIf, dTup, dFrz, dCB, rLen, rInt1, rAbs1, rMin2, rAll1, dBM, rApp, rExt, rPop0,
  dGet, dPut, dNext, dSeq, dDrop, dIfS, dName, dgNil, dgCons, dgTup, dAsg, dSub, rSet, dPar, dIL, dIT, dIR, dIE, dIZ, dFor, dYes, dCall, dLc, dLcM, dLcF, dPair, dGetT, dInT, dPutT, dNewT, wipeD,
  natsD, isL_lst, isL_ref, seqIn_tup, seqIn_lst, rIn, flatD, eqD, List.all_cons, List.all_nil, List.any_cons, List.any_nil, sizeLine_eq, Nat.reduceLeDiff, Nat.reduceLT, Bool.or_false, Bool.and_true, Bool.true_and, Bool.false_and, Bool.false_or, Bool.or_true, Bool.true_or, Bool.and_false, tupAt, optE, endsOf,
  List.map_cons, List.map_nil, List.length_cons, List.length_nil, List.cons_append, List.nil_append, List.append_nil, List.getElem?_cons_zero, List.getElem?_cons_succ, List.getElem?_nil, List.set_cons_zero, List.set_cons_succ, List.replicate_succ, List.replicate_zero, List.length_append, List.replicate,
  of_sE, String.reduceEq, decide_true, decide_false, Bool.false_eq_true, Bool.not_true, Bool.not_false, reduceIte, exists_eq_left, exists_eq_left', true_and, and_true, if_true, if_false, ite_true, ite_false, Nat.reduceAdd, Nat.reduceSub, Nat.reduceBEq, BEq.rfl, beq_self_eq_true, D.ref.injEq, D.int.injEq, D.str.injEq, D.lst.injEq, D.tup.injEq, List.cons.injEq, exists_and_left, exists_const, and_self])
local macro_rules | `(tactic| walk_at "s0") => `(tactic| (dsimp only [startD, List.length_cons, List.length_nil, List.map_cons, List.map_nil, List.cons_append, List.nil_append, Nat.reduceAdd, Nat.reduceSub, List.replicate_succ, List.replicate_zero]))
local macro_rules | `(tactic| walk_at "st") => `(tactic| ((conv => whnf); (try dsimp only [List.set_cons_zero, List.set_cons_succ]); repeat ((refine ⟨Nat.le_of_ble_eq_true rfl, ?_⟩); (conv => whnf); (try dsimp only [List.set_cons_zero, List.set_cons_succ]))))

section
variable {P : Program} {K : PySem.W.Frag} {mg : Str → Option Value} {w : World} {base : Heap}
structure WrapOk (g : Gw) (p : Stm) (k : Nat) (s : Stm) : Prop where
  wf : s.wf (g.u.c + k) g.u.t g.C
  work : s.work ≤ if g.u.lo then 2 * p.work + 9 else p.work + 1
  wt : s.wt ≤ if g.u.lo then 3 * p.wt + 1500 else p.wt + 1000
  dep : s.dep ≤ 3 + p.dep
  cnt : s.cnt = p.cnt
def spWrapped : SpD := sp4 fun a b c d M Q => ∃ (sa ca ea wa : Addr) (g : Gw) (v : Ev) (p : Stm), a = .ref sa ∧ b = .ref ea ∧ c = .ref wa ∧ d = p.d ∧ WdAt sa ca wa g M ∧ EnvAt (Rg sa ca wa g) M ea v ∧ v.ok g.u.c g.C ∧ p.wf g.u.c g.u.t g.C ∧ g.u.c ≤ 900 ∧
  ∀ s k M', k ≤ 1 → WrapOk g p k s → WdAt sa ca wa (g.mc k) M' → FrR (Rg sa ca wa g) M M' → Q s.d M'
abbrev n_law_wrapped : List Str := ["_law_state_here", "_law_env_here", "_law_world", "_law_part", "_law_turn", "_law_counter", "_law_turns"]
theorem sc_law_wrapped : FnScope n_law_wrapped ["_law_state_here", "_law_env_here", "_law_world", "_law_part"] (defScope s_law_wrapped) := ⟨rfl, rfl, rfl, by decide +kernel, rfl, by decide +kernel, by decide +kernel⟩
/-- _law_wrapped; slots 0 _law_state_here, 1 _law_env_here, 2 _law_world, 3 _law_part, 4 _law_turn, 5 _law_counter, 6 _law_turns; cells []; calls ['_law_more_cells', '_law_set', '_law_expression', '_law_draw'] -/
theorem ok_law_wrapped (B : Bl K mg) (Tx : Txt K mg "_law_wrapped" s_law_wrapped) (c_law_draw : Have P w K mg base "_law_draw" ["_law_state_here", "_law_many_here"] 1 spDraw) (c_law_more_cells : Have P w K mg base "_law_more_cells" ["_law_world", "_law_many_here"] 1 spMore)
    (c_law_set : Have P w K mg base "_law_set" ["_law_state_here", "_law_env_here"] 8 (spEnvS fun n C s => SOk n C 1 0 604 s)) (c_law_expression : Have P w K mg base "_law_expression" ["_law_state_here", "_law_env_here", "_law_deep"] 7 (spExpr 3)) :
    Have P w K mg base "_law_wrapped" ["_law_state_here", "_law_env_here", "_law_world", "_law_part"] 9 spWrapped := by
  refine have_of Tx sc_law_wrapped (fun _ _ _ _ _ _ us hl => match us, hl with | [_, _, _, _], _ => rfl) len4 fun cdv f A outer s H E hr => ⟨_, (dss_cons (ds_set (i := 4) sc_law_wrapped.nd rfl (Or.inl rfl) (de_callH c_law_draw (hr.mono (by omega)) rfl (da_cons (dv 0) (da_cons de_int da_nil))))
    (dss_cons (ds_if (dt_cmp (op_eq_d (hu2 hr)) (dv 4) de_int (nomark _)) (dss_one (ds_ret (de_tup (da_cons de_str (da_cons (de_callH c_law_expression (hr.mono (by omega)) rfl (da_cons (dv 0) (da_cons (dv 1) (da_cons de_int da_nil)))) (da_cons (dv 3) (da_cons (de_callH c_law_set (hr.mono (by omega)) rfl (da_cons (dv 0) (da_cons (dv 1) da_nil))) da_nil))))))) dss_nil)
    (dss_cons (ds_if (dt_cmp (op_eq_d (hu2 hr)) (dv 4) de_int (nomark _)) (dss_one (ds_ret (de_tup (da_cons de_str (da_cons (de_tup (da_cons de_str (da_cons (de_tup (da_cons de_str (da_cons de_int da_nil))) (da_cons (de_callH c_law_expression (hr.mono (by omega)) rfl (da_cons (dv 0) (da_cons (dv 1) (da_cons de_int da_nil)))) da_nil)))) (da_cons (de_callH c_law_set (hr.mono (by omega)) rfl (da_cons (dv 0) (da_cons (dv 1) da_nil))) (da_cons (dv 3) da_nil))))))) dss_nil)
    (dss_cons (ds_if (dt_w (dw_and (dt_cmp op_lt_d (dv 4) de_int (nomark _)) (dw_and (dt_val (de_dget (hu_of hr) (dv 2) (fun _ _ => rfl))) (dw_and1 (dt_cmp op_le_d (de_dget (hu_of hr) (dv 2) (fun _ _ => rfl)) de_int (nomark _)))))) (dss_cons (ds_set (i := 5) sc_law_wrapped.nd rfl (Or.inl rfl) (de_tup (da_cons de_str (da_cons (de_callH c_law_more_cells (hr.mono (by omega)) rfl (da_cons (dv 2) (da_cons de_int da_nil))) da_nil))))
    (dss_cons (ds_set (i := 6) sc_law_wrapped.nd rfl (Or.inl rfl) (de_tup (da_cons de_str (da_cons (de_tup (da_cons de_str (da_cons (dv 5) (da_cons (de_tup (da_cons de_str (da_cons de_int da_nil))) da_nil)))) (da_cons de_int (da_cons (de_tup (da_cons de_str (da_cons (de_lst (da_cons (dv 3) (da_cons (de_tup (da_cons de_str (da_cons (dv 5) (da_cons (de_tup (da_cons de_str (da_cons (dv 5) (da_cons (de_tup (da_cons de_str (da_cons de_int da_nil))) da_nil)))) da_nil)))) da_nil))) da_nil))) da_nil))))))
    (dss_one (ds_ret (de_tup (da_cons de_str (da_cons (de_lst (da_cons (de_tup (da_cons de_str (da_cons (dv 5) (da_cons (de_tup (da_cons de_str (da_cons de_int da_nil))) da_nil)))) (da_cons (dv 6) da_nil))) da_nil))))))) dss_nil)
    (dss_one (ds_ret (dv 3))))))), ?_⟩
  rintro _ M Q ⟨_, _, _, _, rfl, sa, ca, ea, wa, g, v, p, rfl, rfl, rfl, rfl, W0, E0, V, hp, hc9, h⟩
  have hs : sa ∈ Rg sa ca wa g := by simp
  have hc : ca ∈ Rg sa ca wa g := by simp
  have hpos := work_pos p
  walk_at "s0"
  walk_at "st"
  refine ⟨_, _, rfl, sa, ca, 6, rfl, rfl, by decide, by decide, W0.st, fun q M1 hq S1 f1 => ?_⟩
  have W1 := W0.fr S1 f1
  have E1 := E0.fr hs hc f1
  walk_at "st"
  refine iteP (fun c => ?_) (fun c => ?_)
  · walk_at "st"
    refine ⟨_, _, _, rfl, sa, ca, ea, _, v, g.u.c, g.C, 1, rfl, rfl, rfl, by decide, S1, hs, hc, E1, V, fun e M2 he S2 f2 => ?_⟩
    have E2 := E1.fr hs hc f2
    walk_at "st"
    refine ⟨_, _, rfl, sa, ca, ea, _, v, g.u.c, g.C, rfl, rfl, S2, hs, hc, E2, V, fun s M3 h3 S3 f3 => ?_⟩
    walk_at "st"
    have fa := (f1.trans f2).trans f3
    obtain ⟨x1, x2, x3, x4, x5⟩ := h3
    have el : len e.d ≤ 214 := he.2.2
    refine rt_same (h (.ite e p s) 0 _ (Nat.zero_le _) ⟨⟨⟨he.1, by have := he.2.1; omega⟩, hp, x1 _⟩, ?_, ?_, ?_, ?_⟩ (W0.fr S3 fa) (fa.frR hs hc))
    · simp only [Stm.work]; split <;> omega
    · simp only [Stm.wt]; split <;> omega
    · simp only [Stm.dep]; omega
    · simp only [Stm.cnt]; omega
  walk_at "st"
  refine iteP (fun c2 => ?_) (fun c2 => ?_)
  · walk_at "st"
    refine ⟨_, _, _, rfl, sa, ca, ea, _, v, g.u.c, g.C, 0, rfl, rfl, rfl, by decide, S1, hs, hc, E1, V, fun e M2 he S2 f2 => ?_⟩
    have E2 := E1.fr hs hc f2
    walk_at "st"
    refine ⟨_, _, rfl, sa, ca, ea, _, v, g.u.c, g.C, rfl, rfl, S2, hs, hc, E2, V, fun s M3 h3 S3 f3 => ?_⟩
    walk_at "st"
    have fa := (f1.trans f2).trans f3
    obtain ⟨x1, x2, x3, x4, x5⟩ := h3
    have el : len e.d ≤ 98 := he.2.2
    have el2 := lbin (o := .lt) (lnum (k := 1) (by omega)) el
    refine rt_same (h (.ite (.bin .lt (.num 1) e) s p) 0 _ (Nat.zero_le _) ⟨⟨⟨⟨by show 1 < 65536; omega, he.1⟩, by have := he.2.1; show max 0 e.dep + 1 < 7; omega⟩, x1 _, hp⟩, ?_, ?_, ?_, ?_⟩ (W0.fr S3 fa) (fa.frR hs hc))
    · simp only [Stm.work]; split <;> omega
    · simp only [Stm.wt]; split <;> omega
    · simp only [Stm.dep]; omega
    · simp only [Stm.cnt]; omega
  have fin : rtOf Q p.d M1 := rt_same (h p 0 _ (Nat.zero_le _) ⟨hp, by split <;> omega, by split <;> omega, by omega, rfl⟩ W1 (f1.frR hs hc))
  walk_at "st"
  refine iteP (fun c3 => ?_) (fun c3 => ?_)
  · walk_at "st"
    refine ⟨_, _, _, rfl, W1.rc, rfl, ?_⟩
    refine t2 (fun el => ?_) (fun el => ?_)
    · walk_at "st"
      refine ⟨_, _, _, rfl, W1.rc, rfl, ?_⟩
      refine iteP (fun c4 => ?_) (fun c4 => ?_)
      · walk_at "st"
        refine ⟨_, _, rfl, wa, g.u, 1, rfl, rfl, W1.rc, ?_⟩
        have W2 : WdAt sa ca wa (g.mc 1) _ := W1.put (u' := { g.u with c := g.u.c + 1 }) rfl
        have F2 : FrR (Rg sa ca wa g) M (mupd M1 wa (.dK ({ g.u with c := g.u.c + 1 } : Wd).kvs)) := (f1.frR hs hc).mem (by simp)
        walk_at "st"
        have hk : g.u.c < g.u.c + 1 := Nat.lt_succ_self _
        have k1 := cset_wt (k := g.u.c) (by omega)
        have k2 := cinc_wt (k := g.u.c) (by omega)
        have k3 := clt_len (k := g.u.c) (m := 2) (by omega) (by omega)
        refine rt_same (h (.seq [cset g.u.c, .rep (clt g.u.c 2) 2 (.seq [p, cinc g.u.c])]) 1 _ (Nat.le_refl _) ⟨⟨cset_ok hk, ⟨clt_ok hk (by omega), Stm.wf_mono (Nat.le_succ _) (Nat.le_refl _) (Nat.le_refl _) _ hp, cinc_ok hk, trivial⟩, trivial⟩, ?_, ?_, ?_, ?_⟩ W2 F2)
        · rw [el]; simp only [Stm.work, works, cset, cinc, if_true]; omega
        · rw [el]; simp only [Stm.wt, wts, if_true]; omega
        · simp only [Stm.dep, deps, cset, cinc]; omega
        · simp only [Stm.cnt, cnts, cset, cinc]; omega
      · walk_at "st"
        exact fin
    · walk_at "st"
      exact fin
  · walk_at "st"
    exact fin
end
end Dl
namespace Dl
open PySem PySem.Spec PyProof.Rows L2 Mi
local macro_rules | `(tactic| walk_at "dl") => `(tactic| simp only [dRet, dOp, dSl, dV, dNoP, dPart, dLst, dLstM, dCons, dNil, dC, startD, rAdd, rAddM, rIx, rEq, rNe, rII, rII0, rIB0, rMul, rIsN, rNotN, isNon, dNeg, dTest, dAnd, dOr, dNot, dAndV, dOrV, dNotV, dIf, dTup, dFrz, dCB, rLen, rInt1, rAbs1, rMin2, rAll1, dBM, rApp, rExt, rPop0,
  dGet, dPut, dNext, dSeq, dDrop, dIfS, dName, dgNil, dgCons, dgTup, dAsg, dSub, rSet, dPar, dIL, dIT, dIR, dIE, dIZ, dFor, dYes, dCall, dLc, dLcM, dLcF, dPair, dGetT, dInT, dPutT, dNewT, wipeD,
  natsD, isL_lst, isL_ref, seqIn_tup, seqIn_lst, rIn, flatD, eqD, List.all_cons, List.all_nil, List.any_cons, List.any_nil, sizeLine_eq, Nat.reduceLeDiff, Nat.reduceLT, Bool.or_false, Bool.and_true, Bool.true_and, Bool.false_and, Bool.false_or, Bool.or_true, Bool.true_or, Bool.and_false, tupAt, optE, endsOf,
  List.map_cons, List.map_nil, List.length_cons, List.length_nil, List.cons_append, List.nil_append, List.append_nil, List.getElem?_cons_zero, List.getElem?_cons_succ, List.getElem?_nil, List.set_cons_zero, List.set_cons_succ, List.replicate_succ, List.replicate_zero, List.length_append, List.replicate,
  of_sE, String.reduceEq, decide_true, decide_false, Bool.false_eq_true, Bool.not_true, Bool.not_false, reduceIte, exists_eq_left, exists_eq_left', true_and, and_true, if_true, if_false, ite_true, ite_false, Nat.reduceAdd, Nat.reduceSub, Nat.reduceBEq, BEq.rfl, beq_self_eq_true, D.ref.injEq, D.int.injEq, D.str.injEq, D.lst.injEq, D.tup.injEq, List.cons.injEq, exists_and_left, exists_const, and_self])
local macro_rules | `(tactic| walk_at "s0") => `(tactic| (dsimp only [startD, List.length_cons, List.length_nil, List.map_cons, List.map_nil, List.cons_append, List.nil_append, Nat.reduceAdd, Nat.reduceSub, List.replicate_succ, List.replicate_zero]))
local macro_rules | `(tactic| walk_at "st") => `(tactic| ((conv => whnf); (try dsimp only [List.set_cons_zero, List.set_cons_succ]); repeat ((refine ⟨Nat.le_of_ble_eq_true rfl, ?_⟩); (conv => whnf); (try dsimp only [List.set_cons_zero, List.set_cons_succ]))))

section
variable {P : Program} {K : PySem.W.Frag} {mg : Str → Option Value} {w : World} {base : Heap}
/-- how long an env's lists may be -/
def tb (l : Nat) : Nat := if 10 ≤ l then 10 else if 8 ≤ l then 170 else if 6 ≤ l then 1300 else if 4 ≤ l then 9300 else if 2 ≤ l then 65300 else 458000
theorem tb_mono {l l' : Nat} (h : l' ≤ l) : tb l ≤ tb l' := by
  unfold tb
  split <;> split <;> (try split) <;> (try split) <;> (try split) <;> (try split) <;> (try split) <;> (try split) <;> (try split) <;> (try split) <;> omega
theorem tb_step {l m : Nat} (hl : l ≤ 11) (hm : 2 ≤ m) (hml : m ≤ l) : 7 * tb l + 20 ≤ tb (l - m) := by
  unfold tb
  split <;> split <;> (try split) <;> (try split) <;> (try split) <;> (try split) <;> (try split) <;> (try split) <;> (try split) <;> (try split) <;> omega
theorem tb_le {l : Nat} (h : 2 ≤ l) : tb l ≤ 65300 := by
  unfold tb
  split <;> (try split) <;> (try split) <;> (try split) <;> (try split) <;> omega
structure EnvIn (R : List Addr) (M : Mh) (ea : Addr) (g : Gw) (v : Ev) : Prop where
  at_ : EnvAt R M ea v
  ok : v.ok g.u.c g.C
  lc : v.cs.length ≤ tb g.u.l
  lg : v.gs.length ≤ tb g.u.l
  lt : v.ts.length ≤ tb g.u.l
  l11 : g.u.l ≤ 11
theorem Gw.pot_c {g : Gw} (h : g.pot ≤ 200) : g.u.c ≤ 200 := by simp only [Gw.pot] at h; omega
theorem EnvIn.go {R : List Addr} {M M' : Mh} {ea : Addr} {g g' : Gw} {v : Ev} (E : EnvIn R M ea g v) (f : FrR R M M') (S : Stp g g') (hp : g'.pot ≤ 200) : EnvIn R M' ea g' v :=
  ⟨E.at_.frR f, E.ok.mono S.c S.C (by have := Gw.pot_c hp; omega), Nat.le_trans E.lc (tb_mono S.l), Nat.le_trans E.lg (tb_mono S.l), Nat.le_trans E.lt (tb_mono S.l), Nat.le_trans S.l E.l11⟩
def spItems (q : Nat) : SpD := sp4 fun a b c d M Q => ∃ (sa ca ea wa : Addr) (g : Gw) (v : Ev) (its : List Itm) (r : Nat), a = .ref sa ∧ b = .ref ea ∧ c = .ref wa ∧ LstAt (Rg sa ca wa g) M d (its.map Itm.d) ∧ its.length ≤ 1000000 ∧
  ((r = 0 ∧ 1 ≤ q) ∨ g.u.l + 3 ≤ q) ∧ (∀ i ∈ its, ItmOk (Rg sa ca wa g) M g.u.c g.C r i) ∧ WdAt sa ca wa g M ∧ EnvIn (Rg sa ca wa g) M ea g v ∧ g.pot ≤ 200 ∧
  ∀ l g' M', ListOk r g g' l → WdAt sa ca wa g' M' → FrR (Rg sa ca wa g) M M' → Q (.lst (l.map Stm.d)) M'
def spPar (q : Nat) : SpD := sp4 fun a b c d M Q => ∃ (sa ca ea wa : Addr) (g : Gw) (v : Ev) (k : Nat), a = .ref sa ∧ b = .ref ea ∧ c = .ref wa ∧ d = N k ∧ k ≤ 1 ∧ g.u.l + 2 ≤ q ∧ WdAt sa ca wa g M ∧ EnvIn (Rg sa ca wa g) M ea g v ∧ g.pot ≤ 200 ∧
  ∀ s g' M', ParOk (k + 1) g g' s → WdAt sa ca wa g' M' → FrR (Rg sa ca wa g) M M' → Q s.d M'
theorem works_len : ∀ l : List Stm, l.length ≤ works l
  | [] => Nat.le_refl _
  | s :: r => by
    have := works_len r
    have := work_pos s
    simp only [works, List.length_cons]
    omega
theorem pw_le {r : Nat} {g : Gw} (h : g.pot ≤ 200) : pw r g ≤ 30000 := by
  obtain ⟨⟨t, l, i, c, cha, al, lo⟩, ins, outs, inn⟩ := g
  simp only [Gw.pot] at h
  match r with
  | 0 => simp only [pw]; omega
  | 1 => simp only [pw]; omega
  | _ + 2 => cases lo <;> simp only [pw, if_true, Bool.false_eq_true, if_false] <;> omega
theorem ListOk.len {r : Nat} {g g' : Gw} {l : List Stm} (h : ListOk r g g' l) (hp : g.pot ≤ 200) : l.length ≤ 30000 := by
  have h1 := h.work
  have h2 := works_len l
  have h3 := pw_le (r := r) hp
  omega
theorem Rg_eq {sa ca wa : Addr} {g g' : Gw} (S : Stp g g') : Rg sa ca wa g' = Rg sa ca wa g := by simp only [Rg, S.cha]
theorem ixN_last (n : Nat) : ixN (n + 1) (-1) = some n := by
  unfold ixN
  rw [if_neg (by omega), if_pos (by omega)]
  congr 1
  omega
theorem atI_last {α : Type} (xs : List α) (y : α) : atI (xs ++ [y]) (-1) = some y := by
  unfold atI
  rw [List.length_append, List.length_singleton, ixN_last]
  show (xs ++ [y])[xs.length]? = some y
  rw [List.getElem?_append_right (Nat.le_refl _), Nat.sub_self]
  rfl
theorem ixN_app {α : Type} (xs : List α) (y : α) : ixN (xs ++ [y]).length (-1) = some xs.length := by
  rw [List.length_append, List.length_singleton, ixN_last]
theorem set_last {α : Type} (xs : List α) (y z : α) : (xs ++ [y]).set xs.length z = xs ++ [z] := by
  rw [List.set_append_right _ _ (Nat.le_refl _), Nat.sub_self]
  rfl
theorem rowD_cut (r : ARow) : cutD [optE r.1, N r.2.1, r.2.2.1.d, r.2.2.2.d] none (some 3) = [optE r.1, N r.2.1, r.2.2.1.d] := rfl
theorem SOk.wf_ {n C a b c : Nat} {s : Stm} (h : SOk n C a b c s) (T : Nat) : s.wf n T C := h.1 T
theorem alt_ok {n T C : Nat} {rows : List ARow} (h : RowsOk n C rows) (hC : C ≤ 24) : (Stm.alt rows).wf n T C ∧ (Stm.alt rows).work ≤ 9 ∧ (Stm.alt rows).wt ≤ 61600 ∧ (Stm.alt rows).dep ≤ 3 ∧ (Stm.alt rows).cnt = 0 := by
  have hl := h.len
  have hw : ∀ l : List ARow, (∀ x ∈ l, RowOk n C x) → rwf n T C l ∧ rworks l ≤ 7 ∧ rwts l ≤ 2562 * l.length ∧ rdeps l ≤ 2 ∧ rcnts l = 0 := by
    intro l
    induction l with
    | nil => intro _; exact ⟨trivial, by simp [rworks], by simp [rwts], by simp [rdeps], rfl⟩
    | cons x l ih =>
      intro hx
      obtain ⟨i1, i2, i3, i4, i5⟩ := ih fun y hy => hx y (List.mem_cons_of_mem _ hy)
      obtain ⟨x1, x2, x3, ⟨x4, x5, x6, x7⟩, ⟨y1, y2, y3, y4, y5⟩⟩ := hx x (List.mem_cons_self ..)
      obtain ⟨gd, c, t, s⟩ := x
      dsimp only at *
      refine ⟨⟨x1, x3, ⟨x4, x5, by omega⟩, y1 T, i1⟩, ?_, ?_, ?_, ?_⟩
      · simp only [rworks]; omega
      · simp only [rwts, List.length_cons]; omega
      · simp only [rdeps]; omega
      · simp only [rcnts]; omega
  obtain ⟨i1, i2, i3, i4, i5⟩ := hw rows h.r
  refine ⟨⟨by omega, h.nd, i1⟩, ?_, ?_, ?_, ?_⟩
  · simp only [Stm.work]; omega
  · simp only [Stm.wt]; omega
  · simp only [Stm.dep]; omega
  · simp only [Stm.cnt]; omega
/-- the first arm is a par -/
theorem alt_par {n C n' T' C' : Nat} {g : Option Exp} {c : Nat} {t : Exp} {s p : Stm} {rows : List ARow} (h : RowsOk n C ((g, c, t, s) :: rows)) (hC : C ≤ 24) (hn : n ≤ n') (hC' : C ≤ C') (hp : p.wf n' T' C') (hs : s.cnt = 0) :
    (Stm.alt ((g, c, t, p) :: rows)).wf n' T' C' ∧ (Stm.alt ((g, c, t, p) :: rows)).work ≤ 9 + p.work ∧ (Stm.alt ((g, c, t, p) :: rows)).wt ≤ 61600 + p.wt ∧ (Stm.alt ((g, c, t, p) :: rows)).dep ≤ max 3 (1 + p.dep) ∧ (Stm.alt ((g, c, t, p) :: rows)).cnt = p.cnt := by
  obtain ⟨i1, i2, i3, i4, i5⟩ := alt_ok (T := T') h hC
  have i6 : (Stm.alt ((g, c, t, s) :: rows)).wf n' T' C' := Stm.wf_mono hn (Nat.le_refl _) hC' _ i1
  simp only [Stm.work, rworks] at i2
  simp only [Stm.wt, rwts] at i3
  simp only [Stm.dep, rdeps] at i4
  simp only [Stm.cnt, rcnts] at i5
  refine ⟨⟨i6.1, i6.2.1, i6.2.2.1, i6.2.2.2.1, i6.2.2.2.2.1, hp, i6.2.2.2.2.2.2⟩, ?_, ?_, ?_, ?_⟩
  · simp only [Stm.work, rworks]; omega
  · simp only [Stm.wt, rwts]; omega
  · simp only [Stm.dep, rdeps]; omega
  · simp only [Stm.cnt, rcnts]; omega
abbrev n_law_items : List Str := ["_law_state_here", "_law_env_here", "_law_world", "_law_items_here", "_law_found", "_law_item", "_law_row", "_law_counter", "_law_parts_here", "_law_part", "_law_inner"]
theorem sc_law_items : FnScope n_law_items ["_law_state_here", "_law_env_here", "_law_world", "_law_items_here"] (defScope s_law_items) := ⟨rfl, rfl, rfl, by decide +kernel, rfl, by decide +kernel, by decide +kernel⟩
/-- _law_items; slots 0 _law_state_here, 1 _law_env_here, 2 _law_world, 3 _law_items_here, 4 _law_found, 5 _law_item, 6 _law_row, 7 _law_counter, 8 _law_parts_here, 9 _law_part, 10 _law_inner; cells []; calls ['_law_expression', '_law_draw', '_law_par', '_law_alt', '_law_target', '_law_items', '_law_wrapped', '_law_simple'] -/
theorem ok_law_items (B : Bl K mg) (Tx : Txt K mg "_law_items" s_law_items) {lv q : Nat} (hl : 10 ≤ lv) (c_law_draw : Have P w K mg base "_law_draw" ["_law_state_here", "_law_many_here"] 1 spDraw)
    (c_law_simple : Have P w K mg base "_law_simple" ["_law_state_here", "_law_env_here"] 9 (spEnvS fun n C s => SOk n C 7 2 2150 s)) (c_law_expression : Have P w K mg base "_law_expression" ["_law_state_here", "_law_env_here", "_law_deep"] 7 (spExpr 3))
    (c_law_alt : Have P w K mg base "_law_alt" ["_law_state_here", "_law_env_here", "_law_c"] 10 spAlt) (c_law_target : Have P w K mg base "_law_target" ["_law_state_here", "_law_env_here"] 4 (spEnvE fun n e => e.tgt = true ∧ EOk n 2 98 e))
    (c_law_wrapped : Have P w K mg base "_law_wrapped" ["_law_state_here", "_law_env_here", "_law_world", "_law_part"] 9 spWrapped) (c_law_par : Have P w K mg base "_law_par" ["_law_state_here", "_law_env_here", "_law_world", "_law_deep"] lv (spPar q))
    (c_law_items : Have P w K mg base "_law_items" ["_law_state_here", "_law_env_here", "_law_world", "_law_items_here"] lv (spItems q)) : Have P w K mg base "_law_items" ["_law_state_here", "_law_env_here", "_law_world", "_law_items_here"] (lv + 1) (spItems (q + 1)) := by
  refine have_of Tx sc_law_items (fun _ _ _ _ _ _ us hl => match us, hl with | [_, _, _, _], _ => rfl) len4 fun cdv f A outer s H E hr => ⟨_, (dss_cons (ds_set (i := 4) sc_law_items.nd rfl (Or.inl rfl) (de_lstM da_nil))
    (dss_cons (ds_for (vs := [5]) PassesOwn.never rfl (di_any (dv 3)) (dg_name (i := 5) (by decide) sc_law_items.nd rfl (Or.inl rfl)) (dss_one (ds_if (dt_cmp op_gt_d (de_dget (hu_of hr) (dv 2) (fun _ _ => rfl)) de_int (nomark _)) (dss_cons (ds_dput (hu_of hr) (dv 2) (de_op op_sub_d (de_dget (hu_of hr) (dv 2) (fun _ _ => rfl)) de_int))
    (dss_cons (ds_if (dt_cmp (op_eq_d (hu2 hr)) (de_callH c_law_draw (hr.mono (by omega)) rfl (da_cons (dv 0) (da_cons de_int da_nil))) de_int (nomark _)) (dss_one (ds_expr (de_bm PySem.F.slot_list_append PySem.F.type_list_append mt_append_d (dv 4) (da_cons (de_callH c_law_simple (hr.mono (by omega)) rfl (da_cons (dv 0) (da_cons (dv 1) da_nil))) da_nil)))) dss_nil)
    (dss_one (ds_if (dt_cmp (op_eq_d (hu2 hr)) (de_ix (dv 5) de_int) de_str (nomark _)) (dss_one (ds_expr (de_bm PySem.F.slot_list_append PySem.F.type_list_append mt_append_d (dv 4) (da_cons (de_tup (da_cons de_str (da_cons (de_ix (dv 5) de_int) (da_cons (de_callH c_law_expression (hr.mono (by omega)) rfl (da_cons (dv 0) (da_cons (dv 1) (da_cons de_int da_nil)))) da_nil)))) da_nil)))) (dss_one (ds_if (dt_w (dw_and (dt_cmp (op_eq_d (hu2 hr)) (de_ix (dv 5) de_int) de_str (nomark _)) (dw_and (dt_val (de_dget (hu_of hr) (dv 2) (fun _ _ => rfl))) (dw_and1 (dt_cmp (op_eq_d (hu2 hr)) (de_callH c_law_draw (hr.mono (by omega)) rfl (da_cons (dv 0) (da_cons de_int da_nil))) de_int (nomark _)))))) (dss_cons (ds_expr (de_bm PySem.F.slot_list_append PySem.F.type_list_append mt_append_d (dv 4) (da_cons (de_callH c_law_alt (hr.mono (by omega)) rfl (da_cons (dv 0) (da_cons (dv 1) (da_cons (de_ix (dv 5) de_int) da_nil)))) da_nil)))
    (dss_one (ds_if (dt_w (dw_and (dt_cmp (op_eq_d (hu2 hr)) (de_ix (dv 5) (un_neg_d de_int)) de_str (nomark _)) (dw_and1 (dt_cmp (op_eq_d (hu2 hr)) (de_callH c_law_draw (hr.mono (by omega)) rfl (da_cons (dv 0) (da_cons de_int da_nil))) de_int (nomark _))))) (dss_cons (ds_set (i := 6) sc_law_items.nd rfl (Or.inl rfl) (de_ix (de_ix (de_ix (dv 4) (un_neg_d de_int)) de_int) de_int))
    (dss_one (ds_asg (vs := []) (de_tup (da_cons de_str (da_cons (de_op op_add_d (de_lst (da_cons (de_op op_add_d (de_slice (dv 6) do_none (do_some de_int)) (de_tup (da_cons (de_callH c_law_par (hr.mono (by omega)) rfl (da_cons (dv 0) (da_cons (dv 1) (da_cons (dv 2) (da_cons de_int da_nil))))) da_nil))) da_nil)) (de_slice (de_ix (de_ix (dv 4) (un_neg_d de_int)) de_int) (do_some de_int) do_none)) da_nil))) (dg_sub (dv 4) (un_neg_d de_int))))) dss_nil))) (dss_one (ds_if (dt_cmp (op_eq_d (hu2 hr)) (de_ix (dv 5) de_int) de_str (nomark _)) (dss_one (ds_expr (de_bm PySem.F.slot_list_append PySem.F.type_list_append mt_append_d (dv 4) (da_cons (de_tup (da_cons de_str (da_cons (de_ix (dv 5) de_int) (da_cons (de_callH c_law_target (hr.mono (by omega)) rfl (da_cons (dv 0) (da_cons (dv 1) da_nil))) da_nil)))) da_nil)))) (dss_one (ds_if (dt_cmp (op_eq_d (hu2 hr)) (de_ix (dv 5) de_int) de_str (nomark _)) (dss_cons (ds_set (i := 7) sc_law_items.nd rfl (Or.inl rfl) (de_tup (da_cons de_str (da_cons (de_ix (dv 5) de_int) da_nil))))
    (dss_cons (ds_setLc (own := [("_law_part", 9)]) (i := 8) rfl sc_law_items.nd rfl rfl (sw_true rfl rfl rfl (by decide +kernel)) (di_any (de_ix (dv 5) de_int)) (blkOk_by (N := n_law_items) (sc := defScope s_law_items) (by decide +kernel)) (fun _ _ _ _ _ => (dg_name (i := 9) (by decide) sc_law_items.nd rfl (Or.inl rfl))) (fun _ _ _ _ _ => dts_nil) (fun _ _ _ _ _ => (de_tup (da_cons (de_ix (dv 9) de_int) (da_cons (de_ix (dv 9) de_int) (da_cons de_str da_nil))))))
    (dss_cons (ds_set (i := 10) sc_law_items.nd rfl (Or.inl rfl) (de_op op_add_d (de_callH c_law_items (hr.mono (by omega)) rfl (da_cons (dv 0) (da_cons (dv 1) (da_cons (dv 2) (da_cons (dv 8) da_nil))))) (de_lst (da_cons (de_tup (da_cons de_str (da_cons (dv 7) (da_cons (de_tup (da_cons de_str (da_cons (dv 7) (da_cons (de_tup (da_cons de_str (da_cons de_int da_nil))) da_nil)))) da_nil)))) da_nil))))
    (dss_cons (ds_expr (de_bm PySem.F.slot_list_append PySem.F.type_list_append mt_append_d (dv 4) (da_cons (de_tup (da_cons de_str (da_cons (dv 7) (da_cons (de_tup (da_cons de_str (da_cons de_int da_nil))) da_nil)))) da_nil)))
    (dss_one (ds_expr (de_bm PySem.F.slot_list_append PySem.F.type_list_append mt_append_d (dv 4) (da_cons (de_tup (da_cons de_str (da_cons (de_tup (da_cons de_str (da_cons (dv 7) (da_cons (de_tup (da_cons de_str (da_cons (de_ix (dv 5) de_int) da_nil))) da_nil)))) (da_cons (de_op op_add_d (de_ix (dv 5) de_int) (de_callH c_law_draw (hr.mono (by omega)) rfl (da_cons (dv 0) (da_cons de_int da_nil)))) (da_cons (de_tup (da_cons de_str (da_cons (dv 10) da_nil))) da_nil))))) da_nil)))))))) (dss_one (ds_expr (de_bm PySem.F.slot_list_append PySem.F.type_list_append mt_append_d (dv 4) (da_cons (de_callH c_law_wrapped (hr.mono (by omega)) rfl (da_cons (dv 0) (da_cons (dv 1) (da_cons (dv 2) (da_cons (de_callH c_law_par (hr.mono (by omega)) rfl (da_cons (dv 0) (da_cons (dv 1) (da_cons (dv 2) (da_cons de_int da_nil))))) da_nil))))) da_nil)))))))))))))) dss_nil)))
    (dss_one (ds_ret (de_frz (dv 4)))))), ?_⟩
  rintro _ M Q ⟨_, _, _, x, rfl, sa, ca, ea, wa, g, v, its, r, rfl, rfl, rfl, L0, hz, hq, hit, W0, E0, hp0, h⟩
  have hs : sa ∈ Rg sa ca wa g := by simp
  have hc : ca ∈ Rg sa ca wa g := by simp
  have hw : wa ∈ Rg sa ca wa g := by simp
  walk_at "s0"
  walk_at "st"
  intro p hp
  have hpR := W0.fresh hp
  have psc : p ≠ sa ∧ p ≠ ca ∧ p ≠ wa := by
    simp only [Rg, List.mem_cons, not_or] at hpR
    exact ⟨hpR.1, hpR.2.1, hpR.2.2.1⟩
  walk_at "st"
  refine ⟨_, (L0.frR (FrR.refl.own hp)).isL, ?_⟩
  refine loop_by (fun i σ M' => ∃ l g1 x5 x6 x7 x8 x9 x10, σ = [some (.ref sa), some (.ref ea), some (.ref wa), some x, some (.ref p), x5, x6, x7, x8, x9, x10] ∧ M' p = some (.lst (l.map Stm.d)) ∧ ListOk r g g1 l ∧ WdAt sa ca wa g1 M' ∧ FrR (Rg sa ca wa g) M M')
    (fun i σ M' _ ⟨_, _, _, _, _, _, _, _, _, _, _, _, F⟩ => (L0.frR F).isL) ?_ ?_ ⟨[], g, none, none, none, none, none, none, rfl, mupd_same, .nil, W0.upd hpR, FrR.refl.own hp⟩
  · rintro i d σ M1 nx hd ⟨l, g1, x5, x6, x7, x8, x9, x10, rfl, hM1, L, W1, F1⟩ hnx
    rw [List.getElem?_map] at hd
    obtain ⟨it, hit1, rfl⟩ := Option.map_eq_some_iff.mp hd
    have hi0 := hit it (List.mem_of_getElem? hit1)
    have hp1 : g1.pot ≤ 200 := Nat.le_trans L.pot hp0
    have hlen := L.len hp0
    have hg24 := W1.C2
    walk_at "st"
    refine ⟨_, _, _, rfl, W1.rc, rfl, ?_⟩
    refine iteP (fun c1 => ?_) (fun c1 => ?_)
    rotate_left
    · exact hnx _ _ ⟨l, g1, _, _, _, _, _, _, rfl, hM1, L, W1, F1⟩
    have hi : 0 < g1.u.i := by omega
    walk_at "st"
    refine ⟨_, _, _, rfl, W1.rc, rfl, ?_⟩
    walk_at "st"
    refine ⟨_, _, rfl, W1.rc, by rw [sizeLine_eq]; exact Nat.le_of_ble_eq_true rfl, ?_⟩
    have ei : (((g1.u.i : Nat) : Int) - 1) = ((g1.u.i - 1 : Nat) : Int) := by omega
    rw [ei, show putD g1.u.kvs (.inr (Str.ofString "items")) (.int ((g1.u.i - 1 : Nat) : Int)) = g1.di.u.kvs from put_i g1.u (g1.u.i - 1)]
    have S2 : Stp g g1.di := L.stp.trans Gw.di_stp
    have W2 : WdAt sa ca wa g1.di (mupd M1 wa (.dK g1.di.u.kvs)) := W1.put (u' := g1.di.u) rfl
    have F2 : FrR (Rg sa ca wa g) M (mupd M1 wa (.dK g1.di.u.kvs)) := F1.mem hw
    have hM2 : mupd M1 wa (.dK g1.di.u.kvs) p = some (.lst (l.map Stm.d)) := by rw [mupd_ne psc.2.2]; exact hM1
    have hp2 : g1.di.pot ≤ 200 := by have := di_pot hi; omega
    revert W2 F2 hM2
    generalize mupd M1 wa (.dK g1.di.u.kvs) = M2
    intro W2 F2 hM2
    have eR := Rg_eq (sa := sa) (ca := ca) (wa := wa) S2
    walk_at "st"
    refine ⟨_, _, rfl, sa, ca, 2, rfl, rfl, by decide, by decide, W2.st, fun z M3 hz S3 f3 => ?_⟩
    have W3 := W2.fr S3 f3
    have F3 := F2.trans (f3.frR hs hc)
    have hM3 := f3 _ _ psc.1 psc.2.1 hM2
    have E3 := E0.go F3 S2 hp2
    walk_at "st"
    refine iteP (fun c2 => ?_) (fun c2 => ?_)
    case' _ =>
      walk_at "st"
      refine ⟨⟨_, .ref hM3⟩, ?_⟩
      walk_at "st"
      refine ⟨_, _, rfl, sa, ca, ea, _, v, g1.u.c, g1.C, rfl, rfl, S3, hs, hc, E3.at_, E3.ok, fun s M4 h4 S4 f4 => ?_⟩
      walk_at "st"
      refine ⟨_, _, rfl, f4 _ _ psc.1 psc.2.1 hM3, by rw [sizeLine_eq, List.length_map]; omega, ?_⟩
      obtain ⟨sm, hsm, hsl⟩ : ∃ sm, SmOk g1.u.c g1.C sm ∧ (sm : List Stm) = [s] := ⟨[s], .one h4, rfl⟩
      have hsl2 : sm.length ≤ 1 := by rw [hsl]; exact Nat.le_refl _
      have W5 : WdAt sa ca wa g1.di (mupd M4 p (.lst (l.map Stm.d ++ [s.d]))) := (W3.fr S4 f4).upd (by rw [eR]; exact hpR)
      have F5 : FrR (Rg sa ca wa g) M (mupd M4 p (.lst (l.map Stm.d ++ [s.d]))) := (F3.trans (f4.frR hs hc)).own hp
      have hM5 : mupd M4 p (.lst (l.map Stm.d ++ [s.d])) p = some (.lst ((l ++ sm).map Stm.d)) := by rw [mupd_same, hsl, List.map_append]; rfl
      revert W5 F5 hM5
      generalize mupd M4 p (.lst (l.map Stm.d ++ [s.d])) = M5
      intro W5 F5 hM5
    rotate_left
    case' _ =>
      obtain ⟨sm, hsm, hsl⟩ : ∃ sm, SmOk g1.u.c g1.C sm ∧ (sm : List Stm) = [] := ⟨[], .nil, rfl⟩
      have hsl2 : sm.length ≤ 1 := by rw [hsl]; exact Nat.zero_le _
      have W5 := W3
      have F5 := F3
      have hM5 : M3 p = some (.lst ((l ++ sm).map Stm.d)) := by rw [hsl, List.append_nil]; exact hM3
      revert W5 F5 hM5
      generalize M3 = M5
      intro W5 F5 hM5
    all_goals
      have E5 := E0.go F5 S2 hp2
      have hi5 := hi0.mono F5 S2.c S2.C
      cases it with
      | nest =>
        have hr2 : 2 ≤ r := hi5
        have hq2 : g.u.l + 3 ≤ q + 1 := by omega
        have hll := L.stp.l
        walk_at "st"
        refine ⟨⟨_, .ref hM5⟩, ?_⟩
        walk_at "st"
        refine ⟨_, _, _, _, rfl, sa, ca, ea, wa, g1.di, v, 0, rfl, rfl, rfl, rfl, by omega, by show g1.u.l + 2 ≤ q; omega, W5, by rw [eR]; exact E5, hp2, fun s g2 M6 P6 W6 F6 => ?_⟩
        rw [eR] at F6
        have S6 := S2.trans P6.stp
        have hp6 : g2.pot ≤ 200 := Nat.le_trans P6.pot hp2
        have E6 := E5.go F6 P6.stp hp6
        have eR6 := Rg_eq (sa := sa) (ca := ca) (wa := wa) S6
        have hc6 := Gw.pot_c hp6
        walk_at "st"
        refine ⟨_, _, _, _, rfl, sa, ca, ea, wa, g2, v, s, rfl, rfl, rfl, rfl, W6, by rw [eR6]; exact E6.at_, E6.ok, P6.wf, by omega, fun s2 k M7 hk K7 W7 F7 => ?_⟩
        rw [eR6] at F7
        have hM7 := F7 _ _ hpR (F6 _ _ hpR hM5)
        walk_at "st"
        refine ⟨_, _, rfl, hM7, by rw [sizeLine_eq, List.length_map, List.length_append]; omega, ?_⟩
        have Sm : Stp g2 (g2.mc k) := ⟨Nat.le_add_right _ _, Nat.le_refl _, Nat.le_refl _, Nat.le_refl _, Nat.le_refl _, rfl, rfl, rfl, rfl, rfl⟩
        have elo : g2.u.lo = g1.u.lo := P6.stp.lo
        refine hnx _ _ ⟨l ++ (sm ++ [s2]), g2.mc k, _, _, _, _, _, _, rfl, ?_, L.app (item_nest hr2 hi hsm P6 Sm rfl rfl rfl (by simp only [Gw.pot, Gw.mc]; omega) K7.wf (by rw [← elo]; exact K7.work) (by rw [← elo]; exact K7.wt) K7.dep K7.cnt), W7.upd (by rw [show Rg sa ca wa (g2.mc k) = Rg sa ca wa g2 from rfl, eR6]; exact hpR), ((F5.trans F6).trans F7).own hp⟩
        rw [mupd_same, ← List.append_assoc, List.map_append (l₁ := l ++ sm)]; rfl
      | loop m pp c =>
        obtain ⟨hr1, hm3, hcn, hpp, ps, hps, hpc, hpl⟩ := hi5
        have hq2 : g.u.l + 3 ≤ q + 1 := by omega
        have hck : c < g1.u.c := Nat.lt_of_lt_of_le hcn (Nat.le_refl _)
        have hc5 := Gw.pot_c hp1
        walk_at "st"
        refine ⟨_, .ref hps, ?_⟩
        intro p2 hp2n
        have p2R := W5.fresh hp2n
        rw [eR] at p2R
        have p2p : p ≠ p2 := fun z => by rw [z, hp2n] at hM5; cases hM5
        have p2pp : pp ≠ p2 := fun z => by rw [z, hp2n] at hps; cases hps
        refine lc_map ps partD (fun _ => true) (fun u => (Itm.io u.1 true u.2).d) (by rw [sizeLine_eq]; omega) (fun acc => .ref (by rw [mupd_ne p2pp]; exact hps)) (fun u hu acc Ky Kn hh => ?_) ?_
        · walk_at "st"
          exact hh
        rw [filter_all]
        simp only [del_upd hp2n]
        walk_at "st"
        refine ⟨_, _, _, _, rfl, sa, ca, ea, wa, g1.di, v, ps.map (fun u => .io u.1 true u.2), 0, rfl, rfl, rfl, .inl (by rw [List.map_map]; rfl), by rw [List.length_map]; omega, .inl ⟨rfl, by omega⟩, fun i hi' => ?_, W5, by rw [eR]; exact E5, hp2, fun inner g2 M6 L6 W6 F6 => ?_⟩
        · obtain ⟨u, hu, rfl⟩ := List.mem_map.mp hi'
          exact ⟨hpc u hu, fun _ => rfl⟩
        rw [eR] at F6
        have S6 := S2.trans L6.stp
        have eR6 := Rg_eq (sa := sa) (ca := ca) (wa := wa) S6
        have hM6 := F6 _ _ hpR hM5
        have hl6 := L6.len hp2
        walk_at "st"
        refine ⟨_, _, .lst, .lst, by rw [sizeLine_eq, List.length_map]; simp only [List.length_cons, List.length_nil]; omega, ?_⟩
        walk_at "st"
        refine ⟨⟨_, .ref hM6⟩, ?_⟩
        walk_at "st"
        refine ⟨_, _, rfl, hM6, by rw [sizeLine_eq, List.length_map, List.length_append]; omega, ?_⟩
        walk_at "st"
        refine ⟨⟨_, .ref mupd_same⟩, ?_⟩
        walk_at "st"
        refine ⟨_, _, rfl, sa, ca, 2, rfl, rfl, by decide, by decide, W6.st.upd psc.1 psc.2.1, fun z2 M7 hz2 S7 f7 => ?_⟩
        have W7 : WdAt sa ca wa g2 M7 := (W6.upd (by rw [eR6]; exact hpR)).fr S7 f7
        have F7 : FrR (Rg sa ca wa g) M M7 := ((F5.trans F6).own hp).trans (f7.frR hs hc)
        have hM7 := f7 _ _ psc.1 psc.2.1 mupd_same
        walk_at "st"
        refine ⟨_, _, rfl, hM7, by rw [sizeLine_eq, List.length_append, List.length_map, List.length_append]; simp only [List.length_cons, List.length_nil]; omega, ?_⟩
        have em : ((m : Nat) : Int) + ((z2 : Nat) : Int) = ((m + z2 : Nat) : Int) := by omega
        rw [em]
        refine hnx _ _ ⟨l ++ (sm ++ [cset c, .rep (clt c m) (m + z2) (.seq (inner ++ [cinc c]))]), g2, _, _, _, _, _, _, rfl, ?_, L.app (item_loop hr1 hi hsm L6 hck (by omega) hm3 (by omega)), W7.upd (by rw [eR6]; exact hpR), F7.own hp⟩
        rw [mupd_same, ← List.append_assoc, List.map_append (l₁ := l ++ sm), List.append_assoc]
        show _ = some (MO.lst (_ ++ [(cset c).d, .tup [S "repeat", (clt c m).d, N (m + z2), .tup [S "seq", .lst (stmsD (inner ++ [cinc c]))]]]))
        rw [stmsD_map, show List.map Stm.d (inner ++ [cinc c]) = List.map Stm.d inner ++ [(cinc c).d] by rw [List.map_append]; rfl]
        rfl
      | io gv b c =>
        cases gv with
        | true =>
          walk_at "st"
          refine ⟨⟨_, .ref hM5⟩, ?_⟩
          walk_at "st"
          refine ⟨_, _, _, rfl, sa, ca, ea, _, v, g1.u.c, g1.C, 2, rfl, rfl, rfl, by decide, W5.st, hs, hc, E5.at_, E5.ok, fun e M6 he S6 f6 => ?_⟩
          walk_at "st"
          refine ⟨_, _, rfl, f6 _ _ psc.1 psc.2.1 hM5, by rw [sizeLine_eq, List.length_map, List.length_append]; omega, ?_⟩
          have el : len e.d ≤ 446 := he.2.2
          refine hnx _ _ ⟨l ++ (sm ++ [.give c e]), g1.di, _, _, _, _, _, _, rfl, ?_, L.app (item_plain (s := .give c e) hi hsm ⟨hi5.1, he.1, by have := he.2.1; omega⟩ (by simp only [Stm.work]; omega) (by simp only [Stm.wt]; omega) (by simp only [Stm.dep]; omega) rfl), (W5.fr S6 f6).upd (by rw [eR]; exact hpR), (F5.trans (f6.frR hs hc)).own hp⟩
          rw [mupd_same, ← List.append_assoc, List.map_append (l₁ := l ++ sm)]; rfl
        | false =>
          walk_at "st"
          refine ⟨_, _, _, rfl, W5.rc, rfl, ?_⟩
          refine t2 (fun ea1 => ?_) (fun ea1 => ?_)
          · walk_at "st"
            refine ⟨_, _, rfl, sa, ca, 2, rfl, rfl, by decide, by decide, W5.st, fun z6 M6 hz6 S6 f6 => ?_⟩
            have W6 := W5.fr S6 f6
            have F6 := F5.trans (f6.frR hs hc)
            have hM6 := f6 _ _ psc.1 psc.2.1 hM5
            have E6 := E0.go F6 S2 hp2
            walk_at "st"
            refine iteP (fun c6 => ?_) (fun c6 => ?_)
            · walk_at "st"
              refine ⟨⟨_, .ref hM6⟩, ?_⟩
              walk_at "st"
              refine ⟨_, _, _, rfl, sa, ca, ea, _, v, g1.u.c, g1.C, c, rfl, rfl, rfl, hi5.1, by omega, W6.st, hs, hc, E6.at_, E6.ok, fun rows M7 hrows S7 f7 => ?_⟩
              have W7 := W6.fr S7 f7
              have F7 := F6.trans (f7.frR hs hc)
              have hM7 := f7 _ _ psc.1 psc.2.1 hM6
              obtain ⟨a1, a2, a3, a4, a5⟩ := alt_ok (T := g1.u.t) hrows hg24
              have LA := L.app (item_plain hi hsm a1 a2 a3 a4 a5)
              walk_at "st"
              refine ⟨_, _, rfl, hM7, by rw [sizeLine_eq, List.length_map, List.length_append]; omega, ?_⟩
              have hM8 : mupd M7 p (.lst ((l ++ sm).map Stm.d ++ [(Stm.alt rows).d])) p = some (.lst ((l ++ (sm ++ [Stm.alt rows])).map Stm.d)) := by rw [mupd_same, ← List.append_assoc, List.map_append (l₁ := l ++ sm)]; rfl
              have W8 : WdAt sa ca wa g1.di (mupd M7 p (.lst ((l ++ sm).map Stm.d ++ [(Stm.alt rows).d]))) := W7.upd (by rw [eR]; exact hpR)
              have F8 : FrR (Rg sa ca wa g) M (mupd M7 p (.lst ((l ++ sm).map Stm.d ++ [(Stm.alt rows).d]))) := F7.own hp
              revert hM8 W8 F8
              generalize mupd M7 p (.lst ((l ++ sm).map Stm.d ++ [(Stm.alt rows).d])) = M8
              intro hM8 W8 F8
              cases b with
              | true =>
                walk_at "st"
                exact hnx _ _ ⟨_, g1.di, _, _, _, _, _, _, rfl, hM8, LA, W8, F8⟩
              | false =>
                walk_at "st"
                refine ⟨_, _, rfl, sa, ca, 6, rfl, rfl, by decide, by decide, W8.st, fun z9 M9 hz9 S9 f9 => ?_⟩
                have W9 := W8.fr S9 f9
                have F9 := F8.trans (f9.frR hs hc)
                have hM9 := f9 _ _ psc.1 psc.2.1 hM8
                walk_at "st"
                refine iteP (fun c9 => ?_) (fun c9 => ?_)
                · have hr1 : 1 ≤ r := Nat.one_le_iff_ne_zero.mpr fun z => nomatch hi5.2 z
                  have hq2 : g.u.l + 3 ≤ q + 1 := by omega
                  have hll := L.stp.l
                  have hM9b : M9 p = some (.lst ((l ++ sm).map Stm.d ++ [(Stm.alt rows).d])) := by rw [hM9, ← List.append_assoc, List.map_append (l₁ := l ++ sm)]; rfl
                  match rows, hrows, a1, hM9b with
                  | [], hrows, a1, hM9b => exact absurd rfl hrows.ne
                  | (g0, c0, t0, s0) :: rest, hrows, a1, hM9b =>
                    walk_at "st"
                    refine ⟨_, _, hM9b, atI_last _ _, ?_⟩
                    walk_at "st"
                    refine ⟨_, at0 _ _, ?_⟩
                    walk_at "st"
                    refine ⟨_, _, _, _, rfl, sa, ca, ea, wa, g1.di, v, 0, rfl, rfl, rfl, rfl, by omega, by show g1.u.l + 2 ≤ q; omega, W9, by rw [eR]; exact E0.go F9 S2 hp2, hp2, fun s g2 Ma Pa Wa Fa => ?_⟩
                    rw [eR] at Fa
                    have hMa := Fa _ _ hpR hM9b
                    have eRa := Rg_eq (sa := sa) (ca := ca) (wa := wa) (S2.trans Pa.stp)
                    walk_at "st"
                    refine ⟨_, _, hMa, atI_last _ _, ?_⟩
                    walk_at "st"
                    refine ⟨_, .lst, ?_⟩
                    have hz10 : (rowsD rest).length ≤ 1000 := by
                      have := hrows.len
                      rw [rowsD_map, List.length_map]
                      rw [List.length_cons] at this
                      omega
                    have ecut : cutD (rowsD ((g0, c0, t0, s0) :: rest)) (some ((1 : Nat) : Int)) none = rowsD rest := cut_hi _ 1
                    have ecut2 : cutD (rowsD ((g0, c0, t0, s0) :: rest)) (some 1) none = rowsD rest := ecut
                    walk_at "st"
                    rw [ecut2]
                    refine ⟨_, _, .lst, .lst, by rw [sizeLine_eq, List.length_singleton]; omega, ?_⟩
                    walk_at "st"
                    refine ⟨_, _, _, _, rfl, rfl, hMa, ixN_app _ _, ?_⟩
                    rw [set_last]
                    obtain ⟨b1, b2, b3, b4, b5⟩ := alt_par hrows hg24 Pa.stp.c Pa.stp.C Pa.wf (hrows.r _ (List.mem_cons_self ..)).s.2.2.2.1
                    refine hnx _ _ ⟨l ++ (sm ++ [.alt ((g0, c0, t0, s) :: rest)]), g2, _, _, _, _, _, _, rfl, ?_, L.app (item_par hr1 hi hsm Pa b1 b2 b3 b4 b5), Wa.upd (by rw [eRa]; exact hpR), (F9.trans Fa).own hp⟩
                    rw [mupd_same, ← List.append_assoc, List.map_append (l₁ := l ++ sm)]
                    rfl
                · walk_at "st"
                  exact hnx _ _ ⟨_, g1.di, _, _, _, _, _, _, rfl, hM9, LA, W9, F9⟩
            · skip
              walk_at "st"
              refine ⟨⟨_, .ref hM6⟩, ?_⟩
              walk_at "st"
              refine ⟨_, _, rfl, sa, ca, ea, _, v, g1.u.c, g1.C, rfl, rfl, W6.st, hs, hc, E6.at_, E6.ok, fun t M7 ht S7 f7 => ?_⟩
              walk_at "st"
              refine ⟨_, _, rfl, f7 _ _ psc.1 psc.2.1 hM6, by rw [sizeLine_eq, List.length_map, List.length_append]; omega, ?_⟩
              have tl : len t.d ≤ 98 := ht.2.2.2
              refine hnx _ _ ⟨l ++ (sm ++ [.take c t]), g1.di, _, _, _, _, _, _, rfl, ?_, L.app (item_plain (s := .take c t) hi hsm ⟨hi5.1, ht.1, ht.2.1, by have := ht.2.2.1; omega⟩ (by simp only [Stm.work]; omega) (by simp only [Stm.wt]; omega) (by simp only [Stm.dep]; omega) rfl), (W6.fr S7 f7).upd (by rw [eR]; exact hpR), (F6.trans (f7.frR hs hc)).own hp⟩
              rw [mupd_same, ← List.append_assoc, List.map_append (l₁ := l ++ sm)]; rfl
          · skip
            walk_at "st"
            refine ⟨⟨_, .ref hM5⟩, ?_⟩
            walk_at "st"
            refine ⟨_, _, rfl, sa, ca, ea, _, v, g1.u.c, g1.C, rfl, rfl, W5.st, hs, hc, E5.at_, E5.ok, fun t M7 ht S7 f7 => ?_⟩
            walk_at "st"
            refine ⟨_, _, rfl, f7 _ _ psc.1 psc.2.1 hM5, by rw [sizeLine_eq, List.length_map, List.length_append]; omega, ?_⟩
            have tl : len t.d ≤ 98 := ht.2.2.2
            refine hnx _ _ ⟨l ++ (sm ++ [.take c t]), g1.di, _, _, _, _, _, _, rfl, ?_, L.app (item_plain (s := .take c t) hi hsm ⟨hi5.1, ht.1, ht.2.1, by have := ht.2.2.1; omega⟩ (by simp only [Stm.work]; omega) (by simp only [Stm.wt]; omega) (by simp only [Stm.dep]; omega) rfl), (W5.fr S7 f7).upd (by rw [eR]; exact hpR), (F5.trans (f7.frR hs hc)).own hp⟩
            rw [mupd_same, ← List.append_assoc, List.map_append (l₁ := l ++ sm)]; rfl
  · rintro σ M1 ⟨l, g1, x5, x6, x7, x8, x9, x10, rfl, hM1, L, W1, F1⟩
    walk_at "st"
    refine ⟨_, hM1, ?_⟩
    exact rt_same (h l g1 _ L (W1.del (by rw [Rg_eq L.stp]; exact hpR)) (F1.del hp))
end
end Dl
namespace Dl
open PySem PySem.Spec PyProof.Rows L2 Mi
section
variable {κ : Type} [DecidableEq κ]
theorem valD_mem {kvs : List (κ × D)} {k : κ} {d : D} (h : valD kvs k = some d) : ∃ q ∈ kvs, q.2 = d := by
  obtain ⟨p, hp, rfl⟩ := Option.map_eq_some_iff.mp h
  exact ⟨p, List.mem_of_find?_eq_some hp, rfl⟩
theorem valD_some {kvs : List (κ × D)} {k : κ} {q : κ × D} (h : q ∈ kvs) (e : q.1 = k) : ∃ d, valD kvs k = some d := by
  have h1 : (kvs.find? fun kv => decide (kv.1 = k)).isSome = true := List.find?_isSome.mpr ⟨q, h, decide_eq_true e⟩
  obtain ⟨p, hp⟩ := Option.isSome_iff_exists.mp h1
  exact ⟨p.2, by unfold valD; rw [hp]; rfl⟩
theorem putD_mem {kvs : List (κ × D)} {k : κ} {v : D} {q : κ × D} (h : q ∈ putD kvs k v) : q ∈ kvs ∨ q.2 = v := by
  unfold putD at h
  split at h
  · obtain ⟨p, hp, rfl⟩ := List.mem_map.mp h
    split
    · exact .inr rfl
    · exact .inl hp
  · rcases List.mem_append.mp h with h1 | h1
    · exact .inl h1
    · rw [List.mem_singleton.mp h1]; exact .inr rfl
theorem putD_val {kvs : List (κ × D)} {k : κ} {v : D} : ∃ d, valD (putD kvs k v) k = some d := by
  unfold putD
  split
  · rename_i h
    obtain ⟨p, hp, e⟩ := List.any_eq_true.mp h
    have e := of_decide_eq_true e
    exact valD_some (List.mem_map.mpr ⟨p, hp, rfl⟩) (by rw [if_pos e]; exact e)
  · exact valD_some (List.mem_append_right _ (List.mem_singleton.mpr rfl)) rfl
theorem putD_len {kvs : List (κ × D)} {k : κ} {v : D} : (putD kvs k v).length ≤ kvs.length + 1 := by
  unfold putD
  split
  · rw [List.length_map]; omega
  · rw [List.length_append]; exact Nat.le_refl _
end
def KvOk (C : Nat) (kvs : List (List Key × D)) : Prop := ∀ q ∈ kvs, ∃ c, q.2 = N c ∧ c < C
theorem KvOk.get {C : Nat} {kvs : List (List Key × D)} {k : List Key} {d : D} (h : KvOk C kvs) (e : valD kvs k = some d) : ∃ c, d = N c ∧ c < C := by
  obtain ⟨q, hq, rfl⟩ := valD_mem e
  exact h q hq
theorem KvOk.put {C : Nat} {kvs : List (List Key × D)} {k : List Key} {c : Nat} (h : KvOk C kvs) : KvOk (C + 1) (putD kvs k (N c)) ∨ ¬ c < C + 1 := by
  by_cases hc : c < C + 1
  · refine .inl fun q hq => ?_
    rcases putD_mem hq with h1 | h1
    · obtain ⟨x, e, hx⟩ := h q h1
      exact ⟨x, e, Nat.lt_succ_of_lt hx⟩
    · exact ⟨c, h1, hc⟩
  · exact .inr hc
section
variable {R : List Addr} {M0 M M' : Mh} {n C L Lp Ls : Nat} {τ : Addr → Option Ty}
theorem HeapOk.pushL {p : Addr} {b : Bool} {x : Nat} (h : HeapOk R M0 n C L Lp Ls τ M) (t : τ p = some (.l b)) (hx : x < if b = true then C else n) : ∃ ds, M p = some (.lst ds) ∧ ds.length ≤ L ∧ HeapOk R M0 n C (L + 1) Lp Ls τ (mupd M p (.lst (ds ++ [N x]))) := by
  obtain ⟨_, _, o, e, l, rfl, h1, h2, h3⟩ := h.ok p _ t
  refine ⟨_, e, by rw [List.length_map]; exact h3, (h.mono (Nat.le_refl _) (Nat.le_refl _) (Nat.le_succ _) (Nat.le_refl _) (Nat.le_refl _)).put t ⟨l ++ [x], by rw [List.map_append]; rfl, fun y hy => ?_, fun z => by simp, by rw [List.length_append]; exact Nat.succ_le_succ h3⟩⟩
  rcases List.mem_append.mp hy with hy | hy
  · exact h1 y hy
  · rw [List.mem_singleton.mp hy]; exact hx
theorem HeapOk.pushP {p : Addr} {q : Bool × Nat} (h : HeapOk R M0 n C L Lp Ls τ M) (t : τ p = some .p) (hx : q.2 < C) : ∃ ds, M p = some (.lst ds) ∧ ds.length ≤ Lp ∧ HeapOk R M0 n C L (Lp + 1) Ls τ (mupd M p (.lst (ds ++ [partD q]))) := by
  obtain ⟨_, _, o, e, l, rfl, h1, h3⟩ := h.ok p _ t
  refine ⟨_, e, by rw [List.length_map]; exact h3, (h.mono (Nat.le_refl _) (Nat.le_refl _) (Nat.le_refl _) (Nat.le_succ _) (Nat.le_refl _)).put t ⟨l ++ [q], by rw [List.map_append]; rfl, fun y hy => ?_, by rw [List.length_append]; exact Nat.succ_le_succ h3⟩⟩
  rcases List.mem_append.mp hy with hy | hy
  · exact h1 y hy
  · rw [List.mem_singleton.mp hy]; exact hx
theorem HeapOk.pushS {p : Addr} {i : Itm} (h : HeapOk R M0 n C L Lp Ls τ M) (t : τ p = some .s) (hi : ScrOk τ n C i) : ∃ ds, M p = some (.lst ds) ∧ ds.length ≤ Ls ∧ HeapOk R M0 n C L Lp (Ls + 1) τ (mupd M p (.lst (ds ++ [i.d]))) := by
  obtain ⟨_, _, o, e, l, rfl, h1, h3⟩ := h.ok p _ t
  refine ⟨_, e, by rw [List.length_map]; exact h3, (h.mono (Nat.le_refl _) (Nat.le_refl _) (Nat.le_refl _) (Nat.le_refl _) (Nat.le_succ _)).put t ⟨l ++ [i], by rw [List.map_append]; rfl, fun y hy => ?_, by rw [List.length_append]; exact Nat.succ_le_succ h3⟩⟩
  rcases List.mem_append.mp hy with hy | hy
  · exact h1 y hy
  · rw [List.mem_singleton.mp hy]; exact hi
theorem HeapOk.extS {p q : Addr} (h : HeapOk R M0 n C L Lp Ls τ M) (t : τ p = some .s) (tq : τ q = some .p) : ∃ ds es, M p = some (.lst ds) ∧ M q = some (.lst es) ∧ ds.length ≤ Ls ∧ es.length ≤ Lp ∧ HeapOk R M0 n C L Lp (Ls + Lp) τ (mupd M p (.lst (ds ++ es))) := by
  obtain ⟨_, _, o, e, l, rfl, h1, h3⟩ := h.ok p _ t
  obtain ⟨_, _, o, e2, k, rfl, k1, k3⟩ := h.ok q _ tq
  refine ⟨_, _, e, e2, by rw [List.length_map]; exact h3, by rw [List.length_map]; exact k3, (h.mono (Nat.le_refl _) (Nat.le_refl _) (Nat.le_refl _) (Nat.le_refl _) (Nat.le_add_right _ _)).put t ⟨l ++ k.map fun u => .io u.1 false u.2, ?_, fun y hy => ?_, by rw [List.length_append, List.length_map]; omega⟩⟩
  · rw [List.map_append, List.map_map]; rfl
  · rcases List.mem_append.mp hy with hy | hy
    · exact h1 y hy
    · obtain ⟨u, hu, rfl⟩ := List.mem_map.mp hy
      exact ⟨rfl, k1 u hu⟩
theorem HeapOk.envR {ea : Addr} (h : HeapOk R M0 n C L Lp Ls τ M) (e : τ ea = some .e) : ∃ (c r g t : Addr) (sp : List (Nat × Nat)), M ea = some (.dK (Ev.kvs ⟨.ref c, .ref r, .lst (sp.map spanD), .ref g, .ref t, [], [], [], [], []⟩)) ∧
    τ c = some (.l false) ∧ τ r = some (.l false) ∧ τ g = some (.l true) ∧ τ t = some (.l true) := by
  obtain ⟨_, _, o, h3, c, r, g, t, sp, rfl, tc, tr, tg, tt, _, _⟩ := h.ok _ _ e
  exact ⟨c, r, g, t, sp, h3, tc, tr, tg, tt⟩
theorem HeapOk.lenS {p : Addr} (h : HeapOk R M0 n C L Lp Ls τ M) (t : τ p = some .s) : ∃ its : List Itm, M p = some (.lst (its.map Itm.d)) ∧ (∀ i ∈ its, ScrOk τ n C i) ∧ its.length ≤ Ls := by
  obtain ⟨_, _, o, e, l, rfl, h1, h2⟩ := h.ok p _ t
  exact ⟨l, e, h1, h2⟩
theorem HeapOk.lenP {p : Addr} (h : HeapOk R M0 n C L Lp Ls τ M) (t : τ p = some .p) : ∃ ds, M p = some (.lst ds) := by
  obtain ⟨_, _, o, e, l, rfl, _⟩ := h.ok p _ t
  exact ⟨_, e⟩
end
/-- what holds while a par's scripts are made -/
structure Mk (sa ca wa sca : Addr) (M0 : Mh) (xs es : List Addr) (g : Gw) (τ : Addr → Option Ty) (L Lp Ls : Nat) (M : Mh) : Prop where
  hp : HeapOk (Rg sa ca wa g) M0 g.u.c g.C L Lp Ls τ M
  wd : WdAt sa ca wa g M
  fr : FrR (Rg sa ca wa g) M0 M
  sc : M sca = some (.lst (xs.map D.ref))
  xs_ : ∀ x ∈ xs, τ x = some .s
  es_ : ∀ e ∈ es, τ e = some .e
  ts : τ sca = none
  sR : sca ∉ Rg sa ca wa g
  s0 : M0 sca = none
section
variable {sa ca wa sca : Addr} {M0 M M' : Mh} {xs es : List Addr} {g : Gw} {τ : Addr → Option Ty} {L Lp Ls L' Lp' Ls' : Nat}
theorem Mk.mono (h : Mk sa ca wa sca M0 xs es g τ L Lp Ls M) (h1 : L ≤ L') (h2 : Lp ≤ Lp') (h3 : Ls ≤ Ls') : Mk sa ca wa sca M0 xs es g τ L' Lp' Ls' M :=
  ⟨h.hp.mono (Nat.le_refl _) (Nat.le_refl _) h1 h2 h3, h.wd, h.fr, h.sc, h.xs_, h.es_, h.ts, h.sR, h.s0⟩
theorem Mk.free (h : Mk sa ca wa sca M0 xs es g τ L Lp Ls M) {p : Addr} (hp : M p = none) : M0 p = none ∧ p ∉ Rg sa ca wa g ∧ τ p = none := by
  have n := h.wd.fresh hp
  refine ⟨?_, n, h.hp.free hp⟩
  cases e : M0 p with
  | none => rfl
  | some o => rw [h.fr _ _ n e] at hp; cases hp
theorem Mk.dr (h : Mk sa ca wa sca M0 xs es g τ L Lp Ls M) (S : StAt sa ca M') (f : Fr2 sa ca M M') : Mk sa ca wa sca M0 xs es g τ L Lp Ls M' := by
  have f2 : FrR (Rg sa ca wa g) M M' := f.frR (by simp) (by simp)
  exact ⟨h.hp.fr f2, h.wd.fr S f, h.fr.trans f2, f2 _ _ h.sR h.sc, h.xs_, h.es_, h.ts, h.sR, h.s0⟩
/-- a typed object is changed -/
theorem Mk.put {p : Addr} {t : Ty} {o : MO} (h : Mk sa ca wa sca M0 xs es g τ L Lp Ls M) (e : τ p = some t) (k : HeapOk (Rg sa ca wa g) M0 g.u.c g.C L' Lp' Ls' τ (mupd M p o)) : Mk sa ca wa sca M0 xs es g τ L' Lp' Ls' (mupd M p o) := by
  obtain ⟨h1, h2, _⟩ := h.hp.ok p t e
  exact ⟨k, h.wd.upd h1, h.fr.own h2, by rw [mupd_ne (fun z => by rw [← z, h.ts] at e; cases e)]; exact h.sc, h.xs_, h.es_, h.ts, h.sR, h.s0⟩
/-- an untyped object of the walk's own is changed -/
theorem Mk.own {p : Addr} {o : MO} (h : Mk sa ca wa sca M0 xs es g τ L Lp Ls M) (e : τ p = none) (h0 : M0 p = none) (hR : p ∉ Rg sa ca wa g) (hs : p ≠ sca) : Mk sa ca wa sca M0 xs es g τ L Lp Ls (mupd M p o) := by
  refine ⟨⟨fun a t e2 => ?_⟩, h.wd.upd hR, h.fr.own h0, by rw [mupd_ne (Ne.symm hs)]; exact h.sc, h.xs_, h.es_, h.ts, h.sR, h.s0⟩
  obtain ⟨h1, h2, o2, h3, h4⟩ := h.hp.ok a t e2
  exact ⟨h1, h2, o2, by rw [mupd_ne (fun z => by rw [z, e] at e2; cases e2)]; exact h3, h4⟩
theorem Mk.del {p : Addr} (h : Mk sa ca wa sca M0 xs es g τ L Lp Ls M) (e : τ p = none) (h0 : M0 p = none) (hR : p ∉ Rg sa ca wa g) (hs : p ≠ sca) : Mk sa ca wa sca M0 xs es g τ L Lp Ls (mdel M p) := by
  refine ⟨⟨fun a t e2 => ?_⟩, h.wd.del hR, h.fr.del h0, by rw [mdel_ne (Ne.symm hs)]; exact h.sc, h.xs_, h.es_, h.ts, h.sR, h.s0⟩
  obtain ⟨h1, h2, o2, h3, h4⟩ := h.hp.ok a t e2
  exact ⟨h1, h2, o2, by rw [mdel_ne (fun z => by rw [z, e] at e2; cases e2)]; exact h3, h4⟩
/-- a new typed object -/
theorem Mk.new {p : Addr} {t : Ty} {o : MO} (h : Mk sa ca wa sca M0 xs es g τ L Lp Ls M) (hp : M p = none) (ho : TyOk τ g.u.c g.C L Lp Ls t o) : Mk sa ca wa sca M0 xs es g (tins τ p t) L Lp Ls (mupd M p o) := by
  obtain ⟨f0, f1, f2⟩ := h.free hp
  have hs : sca ≠ p := fun z => by have := h.sc; rw [z, hp] at this; cases this
  have hm : TMono τ (tins τ p t) := tins_mono f2
  exact ⟨h.hp.new hp f0 f1 ho, h.wd.upd f1, h.fr.own f0, by rw [mupd_ne hs]; exact h.sc, fun x hx => hm _ _ (h.xs_ x hx), fun x hx => hm _ _ (h.es_ x hx), by rw [tins_ne hs]; exact h.ts, h.sR, h.s0⟩
/-- more cells -/
theorem Mk.cells {k : Nat} (h : Mk sa ca wa sca M0 xs es g τ L Lp Ls M) : Mk sa ca wa sca M0 xs es (g.mc k) τ L Lp Ls (mupd M wa (.dK (g.mc k).u.kvs)) := by
  have f : FrR (Rg sa ca wa g) M (mupd M wa (.dK (g.mc k).u.kvs)) := FrR.refl.mem (by simp)
  exact ⟨(h.hp.mono (Nat.le_add_right _ _) (Nat.le_refl _) (Nat.le_refl _) (Nat.le_refl _) (Nat.le_refl _)).fr f, h.wd.put (u' := (g.mc k).u) rfl, h.fr.trans f, f _ _ h.sR h.sc, h.xs_, h.es_, h.ts, h.sR, h.s0⟩
def Gw.ch (g : Gw) : Gw := { g with inn := g.inn + 1 }
theorem Gw.ch_C (g : Gw) : g.ch.C = g.C + 1 := by simp only [Gw.ch, Gw.C]; omega
/-- one more channel -/
theorem Mk.chan (h : Mk sa ca wa sca M0 xs es g τ L Lp Ls M) (hC : g.C < 24) : Mk sa ca wa sca M0 xs es g.ch τ L Lp Ls (mupd M g.u.cha (.lst (g.ks.map kindD ++ [S "inner"]))) := by
  have f : FrR (Rg sa ca wa g) M (mupd M g.u.cha (.lst (g.ks.map kindD ++ [S "inner"]))) := FrR.refl.mem (by simp)
  exact ⟨(h.hp.mono (Nat.le_refl _) (by rw [Gw.ch_C]; exact Nat.le_succ _) (Nat.le_refl _) (Nat.le_refl _) (Nat.le_refl _)).fr f, h.wd.push hC, h.fr.trans f, f _ _ h.sR h.sc, h.xs_, h.es_, h.ts, h.sR, h.s0⟩
end
end Dl
namespace Dl
open PySem PySem.Spec PyProof.Rows L2 Mi
/-- the world has more cells and channels -/
structure Grw (k : Nat) (g g' : Gw) : Prop where
  c1 : g.u.c ≤ g'.u.c
  c2 : g'.u.c ≤ g.u.c + k
  t : g'.u.t = g.u.t
  l : g'.u.l = g.u.l
  i : g'.u.i = g.u.i
  al : g'.u.al = g.u.al
  lo : g'.u.lo = g.u.lo
  cha : g'.u.cha = g.u.cha
  ins : g'.ins = g.ins
  outs : g'.outs = g.outs
  n : g.inn ≤ g'.inn
theorem Grw.refl {g : Gw} : Grw 0 g g := ⟨Nat.le_refl _, Nat.le_refl _, rfl, rfl, rfl, rfl, rfl, rfl, rfl, rfl, Nat.le_refl _⟩
theorem Grw.trans {k j : Nat} {g g1 g2 : Gw} (a : Grw k g g1) (b : Grw j g1 g2) : Grw (k + j) g g2 :=
  ⟨Nat.le_trans a.c1 b.c1, by have := a.c2; have := b.c2; omega, b.t.trans a.t, b.l.trans a.l, b.i.trans a.i, b.al.trans a.al, b.lo.trans a.lo, b.cha.trans a.cha, b.ins.trans a.ins, b.outs.trans a.outs, Nat.le_trans a.n b.n⟩
theorem Grw.mono {k j : Nat} {g g1 : Gw} (a : Grw k g g1) (h : k ≤ j) : Grw j g g1 := { a with c2 := Nat.le_trans a.c2 (Nat.add_le_add_left h _) }
theorem Grw.stp {k : Nat} {g g1 : Gw} (a : Grw k g g1) : Stp g g1 := ⟨a.c1, Nat.le_of_eq a.i, Nat.le_of_eq a.l, Nat.le_of_eq a.t.symm, a.n, a.ins, a.outs, a.cha, a.al, a.lo⟩
theorem Grw.mc {g : Gw} {k : Nat} : Grw k g (g.mc k) := ⟨Nat.le_add_right _ _, Nat.le_refl _, rfl, rfl, rfl, rfl, rfl, rfl, rfl, rfl, Nat.le_refl _⟩
theorem Grw.ch {g : Gw} : Grw 0 g g.ch := ⟨Nat.le_refl _, Nat.le_refl _, rfl, rfl, rfl, rfl, rfl, rfl, rfl, rfl, Nat.le_succ _⟩
theorem TMono.refl {τ : Addr → Option Ty} : TMono τ τ := fun _ _ e => e
theorem TMono.trans {a b c : Addr → Option Ty} (h : TMono a b) (k : TMono b c) : TMono a c := fun _ _ e => k _ _ (h _ _ e)
structure Mt (sa ca wa sca ka : Addr) (M0 : Mh) (xs es : List Addr) (g : Gw) (τ : Addr → Option Ty) (L Lp Ls kb : Nat) (M : Mh) : Prop where
  m : Mk sa ca wa sca M0 xs es g τ L Lp Ls M
  ka_ : ∃ kvs, M ka = some (.dT kvs) ∧ KvOk g.C kvs ∧ kvs.length ≤ kb
  kt : τ ka = none
  k0 : M0 ka = none
  kR : ka ∉ Rg sa ca wa g
  ks : ka ≠ sca
section
variable {sa ca wa sca ka : Addr} {M0 M M' : Mh} {xs es : List Addr} {g : Gw} {τ : Addr → Option Ty} {L Lp Ls L' Lp' Ls' kb kb' : Nat}
theorem Mt.mono (h : Mt sa ca wa sca ka M0 xs es g τ L Lp Ls kb M) (h1 : L ≤ L') (h2 : Lp ≤ Lp') (h3 : Ls ≤ Ls') (h4 : kb ≤ kb') : Mt sa ca wa sca ka M0 xs es g τ L' Lp' Ls' kb' M := by
  obtain ⟨kvs, a, b, c⟩ := h.ka_
  exact ⟨h.m.mono h1 h2 h3, ⟨kvs, a, b, Nat.le_trans c h4⟩, h.kt, h.k0, h.kR, h.ks⟩
theorem Mt.dr (h : Mt sa ca wa sca ka M0 xs es g τ L Lp Ls kb M) (S : StAt sa ca M') (f : Fr2 sa ca M M') : Mt sa ca wa sca ka M0 xs es g τ L Lp Ls kb M' := by
  obtain ⟨kvs, a, b, c⟩ := h.ka_
  have f2 : FrR (Rg sa ca wa g) M M' := f.frR (by simp) (by simp)
  exact ⟨h.m.dr S f, ⟨kvs, f2 _ _ h.kR a, b, c⟩, h.kt, h.k0, h.kR, h.ks⟩
theorem Mt.put {p : Addr} {t : Ty} {o : MO} (h : Mt sa ca wa sca ka M0 xs es g τ L Lp Ls kb M) (e : τ p = some t) (k : HeapOk (Rg sa ca wa g) M0 g.u.c g.C L' Lp' Ls' τ (mupd M p o)) : Mt sa ca wa sca ka M0 xs es g τ L' Lp' Ls' kb (mupd M p o) := by
  obtain ⟨kvs, a, b, c⟩ := h.ka_
  have n : ka ≠ p := fun z => by rw [← z, h.kt] at e; cases e
  exact ⟨h.m.put e k, ⟨kvs, by rw [mupd_ne n]; exact a, b, c⟩, h.kt, h.k0, h.kR, h.ks⟩
theorem Mt.own {p : Addr} {o : MO} (h : Mt sa ca wa sca ka M0 xs es g τ L Lp Ls kb M) (e : τ p = none) (h0 : M0 p = none) (hR : p ∉ Rg sa ca wa g) (hs : p ≠ sca) (hk : p ≠ ka) : Mt sa ca wa sca ka M0 xs es g τ L Lp Ls kb (mupd M p o) := by
  obtain ⟨kvs, a, b, c⟩ := h.ka_
  exact ⟨h.m.own e h0 hR hs, ⟨kvs, by rw [mupd_ne (Ne.symm hk)]; exact a, b, c⟩, h.kt, h.k0, h.kR, h.ks⟩
theorem Mt.del {p : Addr} (h : Mt sa ca wa sca ka M0 xs es g τ L Lp Ls kb M) (e : τ p = none) (h0 : M0 p = none) (hR : p ∉ Rg sa ca wa g) (hs : p ≠ sca) (hk : p ≠ ka) : Mt sa ca wa sca ka M0 xs es g τ L Lp Ls kb (mdel M p) := by
  obtain ⟨kvs, a, b, c⟩ := h.ka_
  exact ⟨h.m.del e h0 hR hs, ⟨kvs, by rw [mdel_ne (Ne.symm hk)]; exact a, b, c⟩, h.kt, h.k0, h.kR, h.ks⟩
theorem Mt.new {p : Addr} {t : Ty} {o : MO} (h : Mt sa ca wa sca ka M0 xs es g τ L Lp Ls kb M) (hp : M p = none) (ho : TyOk τ g.u.c g.C L Lp Ls t o) : Mt sa ca wa sca ka M0 xs es g (tins τ p t) L Lp Ls kb (mupd M p o) := by
  obtain ⟨kvs, a, b, c⟩ := h.ka_
  have n : ka ≠ p := fun z => by rw [z, hp] at a; cases a
  exact ⟨h.m.new hp ho, ⟨kvs, by rw [mupd_ne n]; exact a, b, c⟩, by rw [tins_ne n]; exact h.kt, h.k0, h.kR, h.ks⟩
theorem Mt.cells {k : Nat} (h : Mt sa ca wa sca ka M0 xs es g τ L Lp Ls kb M) : Mt sa ca wa sca ka M0 xs es (g.mc k) τ L Lp Ls kb (mupd M wa (.dK (g.mc k).u.kvs)) := by
  obtain ⟨kvs, a, b, c⟩ := h.ka_
  have f : FrR (Rg sa ca wa g) M (mupd M wa (.dK (g.mc k).u.kvs)) := FrR.refl.mem (by simp)
  exact ⟨h.m.cells, ⟨kvs, f _ _ h.kR a, b, c⟩, h.kt, h.k0, h.kR, h.ks⟩
theorem Mt.chan (h : Mt sa ca wa sca ka M0 xs es g τ L Lp Ls kb M) (hC : g.C < 24) : Mt sa ca wa sca ka M0 xs es g.ch τ L Lp Ls kb (mupd M g.u.cha (.lst (g.ks.map kindD ++ [S "inner"]))) := by
  obtain ⟨kvs, a, b, c⟩ := h.ka_
  have f : FrR (Rg sa ca wa g) M (mupd M g.u.cha (.lst (g.ks.map kindD ++ [S "inner"]))) := FrR.refl.mem (by simp)
  refine ⟨h.m.chan hC, ⟨kvs, f _ _ h.kR a, fun q hq => ?_, c⟩, h.kt, h.k0, h.kR, h.ks⟩
  obtain ⟨x, e, hx⟩ := b q hq
  exact ⟨x, e, by rw [Gw.ch_C]; omega⟩
end
end Dl
namespace Dl
open PySem PySem.Spec PyProof.Rows L2 Mi
local macro_rules | `(tactic| walk_at "dl") => `(tactic| simp only [dRet, dOp, dSl, dV, dNoP, dPart, dLst, dLstM, dCons, dNil, dC, startD, rAdd, rAddM, rIx, rEq, rNe, rII, rII0, rIB0, rMul, rIsN, rNotN, isNon, dNeg, dTest, dAnd, dOr, dNot, dAndV, dOrV, dNotV, dIf, dTup, dFrz, dCB, rLen, rInt1, rAbs1, rMin2, rAll1, dBM, rApp, rExt, rPop0,
  dGet, dPut, dNext, dSeq, dDrop, dIfS, dName, dgNil, dgCons, dgTup, dAsg, dSub, rSet, dPar, dIL, dIT, dIR, dIE, dIZ, dFor, dYes, dCall, dLc, dLcM, dLcF, dPair, dGetT, dInT, dPutT, dNewT, wipeD,
  natsD, isL_lst, isL_ref, seqIn_tup, seqIn_lst, rIn, flatD, eqD, List.all_cons, List.all_nil, List.any_cons, List.any_nil, sizeLine_eq, Nat.reduceLeDiff, Nat.reduceLT, Bool.or_false, Bool.and_true, Bool.true_and, Bool.false_and, Bool.false_or, Bool.or_true, Bool.true_or, Bool.and_false, tupAt, optE, endsOf,
  List.map_cons, List.map_nil, List.length_cons, List.length_nil, List.cons_append, List.nil_append, List.append_nil, List.getElem?_cons_zero, List.getElem?_cons_succ, List.getElem?_nil, List.set_cons_zero, List.set_cons_succ, List.replicate_succ, List.replicate_zero, List.length_append, List.replicate,
  of_sE, String.reduceEq, decide_true, decide_false, Bool.false_eq_true, Bool.not_true, Bool.not_false, reduceIte, exists_eq_left, exists_eq_left', true_and, and_true, if_true, if_false, ite_true, ite_false, Nat.reduceAdd, Nat.reduceSub, Nat.reduceBEq, BEq.rfl, beq_self_eq_true, D.ref.injEq, D.int.injEq, D.str.injEq, D.lst.injEq, D.tup.injEq, List.cons.injEq, exists_and_left, exists_const, and_self])
local macro_rules | `(tactic| walk_at "s0") => `(tactic| (dsimp only [startD, List.length_cons, List.length_nil, List.map_cons, List.map_nil, List.cons_append, List.nil_append, Nat.reduceAdd, Nat.reduceSub, List.replicate_succ, List.replicate_zero]))
local macro_rules | `(tactic| walk_at "st") => `(tactic| ((conv => whnf); (try dsimp only [List.set_cons_zero, List.set_cons_succ]); repeat ((refine ⟨Nat.le_of_ble_eq_true rfl, ?_⟩); (conv => whnf); (try dsimp only [List.set_cons_zero, List.set_cons_succ]))))

section
variable {P : Program} {K : PySem.W.Frag} {mg : Str → Option Value} {w : World} {base : Heap}
def spMeet : SpD := sp4 fun a b c d M Q => ∃ (sa ca wa sca : Addr) (M0 : Mh) (xs es : List Addr) (g : Gw) (τ : Addr → Option Ty) (L : Nat), a = .ref sa ∧ b = .ref wa ∧ c = .ref sca ∧ d = .lst (es.map D.ref) ∧ 2 ≤ xs.length ∧ xs.length ≤ 4 ∧ es.length = xs.length ∧
  Mk sa ca wa sca M0 xs es g τ L 0 0 M ∧ L ≤ 1000 ∧ g.u.c ≤ 800 ∧
  ∀ τ' g' M', TMono τ τ' → Grw 12 g g' → Mk sa ca wa sca M0 xs es g' τ' (L + 18) 18 240 M' → Q .non M'
abbrev n_law_meetings : List Str := ["_law_state_here", "_law_world", "_law_scripts", "_law_envs", "_law_known", "_law_group", "_law_many_here", "_law_parts_here", "_law_script", "_law_k", "_law_giver", "_law_taker"]
theorem sc_law_meetings : FnScope n_law_meetings ["_law_state_here", "_law_world", "_law_scripts", "_law_envs"] (defScope s_law_meetings) := ⟨rfl, rfl, rfl, by decide +kernel, rfl, by decide +kernel, by decide +kernel⟩
/-- _law_meetings; slots 0 _law_state_here, 1 _law_world, 2 _law_scripts, 3 _law_envs, 4 _law_known, 5 _law_group, 6 _law_many_here, 7 _law_parts_here, 8 _law_script, 9 _law_k, 10 _law_giver, 11 _law_taker; cells []; calls ['_law_draw', '_law_more_cells', '_law_pick'] -/
theorem ok_law_meetings (B : Bl K mg) (Tx : Txt K mg "_law_meetings" s_law_meetings) (c_law_draw : Have P w K mg base "_law_draw" ["_law_state_here", "_law_many_here"] 1 spDraw) (c_law_more_cells : Have P w K mg base "_law_more_cells" ["_law_world", "_law_many_here"] 1 spMore)
    (c_law_pick : Have P w K mg base "_law_pick" ["_law_state_here", "_law_row"] 2 spPick) : Have P w K mg base "_law_meetings" ["_law_state_here", "_law_world", "_law_scripts", "_law_envs"] 3 spMeet := by
  refine have_of Tx sc_law_meetings (fun _ _ _ _ _ _ us hl => match us, hl with | [_, _, _, _], _ => rfl) len4 fun cdv f A outer s H E hr => ⟨_, (dss_cons (ds_set (i := 4) sc_law_meetings.nd rfl (Or.inl rfl) de_dnewT)
    (dss_one (ds_for (vs := [5]) PassesOwn.never rfl (di_range rfl B.range (da_cons (de_op op_add_d de_int (de_callH c_law_draw (hr.mono (by omega)) rfl (da_cons (dv 0) (da_cons de_int da_nil)))) da_nil)) (dg_name (i := 5) (by decide) sc_law_meetings.nd rfl (Or.inl rfl)) (dss_cons (ds_set (i := 6) sc_law_meetings.nd rfl (Or.inl rfl) (de_ifExp (dt_cmp op_le_d (de_op op_add_d (de_dget (hu_of hr) (dv 1) (fun _ _ => rfl)) (de_callB call_len_d rfl B.len PySem.boot_len (da_cons (dv 2) da_nil))) de_int (nomark _)) (de_callH c_law_pick (hr.mono (by omega)) rfl (da_cons (dv 0) (da_cons (de_lst (da_cons de_int (da_cons de_int (da_cons de_int (da_cons de_int da_nil))))) da_nil))) de_int))
    (dss_cons (ds_setLc (own := [("_law_script", 8)]) (i := 7) rfl sc_law_meetings.nd rfl rfl (sw_true rfl rfl rfl (by decide +kernel)) (di_list (dv 2)) (blkOk_by (N := n_law_meetings) (sc := defScope s_law_meetings) (by decide +kernel)) (fun _ _ _ _ _ => (dg_name (i := 8) (by decide) sc_law_meetings.nd rfl (Or.inl rfl))) (fun _ _ _ _ _ => dts_nil) (fun _ _ _ _ _ => (de_lstM da_nil)))
    (dss_cons (ds_for (vs := [9]) PassesOwn.never rfl (di_range rfl B.range (da_cons (de_op op_add_d de_int (de_callH c_law_draw (hr.mono (by omega)) rfl (da_cons (dv 0) (da_cons de_int da_nil)))) da_nil)) (dg_name (i := 9) (by decide) sc_law_meetings.nd rfl (Or.inl rfl)) (dss_cons (ds_set (i := 10) sc_law_meetings.nd rfl (Or.inl rfl) (de_callH c_law_draw (hr.mono (by omega)) rfl (da_cons (dv 0) (da_cons (de_callB call_len_d rfl B.len PySem.boot_len (da_cons (dv 2) da_nil)) da_nil))))
    (dss_cons (ds_set (i := 11) sc_law_meetings.nd rfl (Or.inl rfl) (de_op op_mod_d (de_callTy call_int_d rfl B.int (by decide +kernel) (da_cons (de_op op_add_d (de_op op_add_d (dv 10) de_int) (de_callH c_law_draw (hr.mono (by omega)) rfl (da_cons (dv 0) (da_cons (de_op op_sub_d (de_callB call_len_d rfl B.len PySem.boot_len (da_cons (dv 2) da_nil)) de_int) da_nil)))) da_nil)) (de_callB call_len_d rfl B.len PySem.boot_len (da_cons (dv 2) da_nil))))
    (dss_cons (ds_if (dt_w (dw_and (dt_notInT (hu_of hr) (pe_pair (dv 10) (dv 11)) (dv 4)) (dw_and1 (dt_cmp op_lt_d (de_callB call_len_d rfl B.len PySem.boot_len (da_cons (de_dget (hu_of hr) (dv 1) (fun _ _ => rfl)) da_nil)) de_int (nomark _))))) (dss_cons (ds_dputT (hu_of hr) (dv 4) (pe_pair (dv 10) (dv 11)) (de_callB call_len_d rfl B.len PySem.boot_len (da_cons (de_dget (hu_of hr) (dv 1) (fun _ _ => rfl)) da_nil)))
    (dss_cons (ds_expr (de_bm PySem.F.slot_list_append PySem.F.type_list_append mt_append_d (de_dget (hu_of hr) (dv 1) (fun _ _ => rfl)) (da_cons de_str da_nil)))
    (dss_cons (ds_expr (de_bm PySem.F.slot_list_append PySem.F.type_list_append mt_append_d (de_dget (hu_of hr) (de_ix (dv 3) (dv 10)) (fun _ _ => rfl)) (da_cons (de_dgetT (hu_of hr) (dv 4) (pe_pair (dv 10) (dv 11)) (fun _ _ => rfl)) da_nil)))
    (dss_one (ds_expr (de_bm PySem.F.slot_list_append PySem.F.type_list_append mt_append_d (de_dget (hu_of hr) (de_ix (dv 3) (dv 11)) (fun _ _ => rfl)) (da_cons (de_dgetT (hu_of hr) (dv 4) (pe_pair (dv 10) (dv 11)) (fun _ _ => rfl)) da_nil))))))) dss_nil)
    (dss_one (ds_if (dt_inT (hu_of hr) (pe_pair (dv 10) (dv 11)) (dv 4)) (dss_cons (ds_expr (de_bm PySem.F.slot_list_append PySem.F.type_list_append mt_append_d (de_ix (dv 7) (dv 10)) (da_cons (de_tup (da_cons de_str (da_cons (de_dgetT (hu_of hr) (dv 4) (pe_pair (dv 10) (dv 11)) (fun _ _ => rfl)) (da_cons de_str da_nil)))) da_nil)))
    (dss_one (ds_expr (de_bm PySem.F.slot_list_append PySem.F.type_list_append mt_append_d (de_ix (dv 7) (dv 11)) (da_cons (de_tup (da_cons de_str (da_cons (de_dgetT (hu_of hr) (dv 4) (pe_pair (dv 10) (dv 11)) (fun _ _ => rfl)) (da_cons de_str da_nil)))) da_nil))))) dss_nil))))))
    (dss_one (ds_for (vs := [9]) PassesOwn.never rfl (di_range rfl B.range (da_cons (de_callB call_len_d rfl B.len PySem.boot_len (da_cons (dv 2) da_nil)) da_nil)) (dg_name (i := 9) (by decide) sc_law_meetings.nd rfl (Or.inl rfl)) (dss_one (ds_if (dt_w (dw_and (dt_cmp op_gt_d (de_callB call_len_d rfl B.len PySem.boot_len (da_cons (de_ix (dv 7) (dv 9)) da_nil)) de_int (nomark _)) (dw_and1 (dt_cmp op_gt_d (dv 6) de_int (nomark _))))) (dss_one (ds_expr (de_bm PySem.F.slot_list_append PySem.F.type_list_append mt_append_d (de_ix (dv 2) (dv 9)) (da_cons (de_tup (da_cons de_str (da_cons (dv 6) (da_cons (de_ix (dv 7) (dv 9)) (da_cons (de_callH c_law_more_cells (hr.mono (by omega)) rfl (da_cons (dv 1) (da_cons de_int da_nil))) da_nil))))) da_nil)))) (dss_one (ds_expr (de_bm PySem.F.slot_list_extend PySem.F.type_list_extend mt_extend_d (de_ix (dv 2) (dv 9)) (da_cons (de_ix (dv 7) (dv 9)) da_nil)))))))))))))), ?_⟩
  rintro _ M Q ⟨_, _, _, _, rfl, sa, ca, wa, sca, M0, xs, es, g, τ, L, rfl, rfl, rfl, rfl, hx2, hx4, hel, K0, hL, hc8, h⟩
  walk_at "s0"
  walk_at "st"
  intro ka hka
  obtain ⟨k0, kR, kt⟩ := K0.free hka
  have ks : ka ≠ sca := fun z => by have := K0.sc; rw [← z, hka] at this; cases this
  have T0 : Mt sa ca wa sca ka M0 xs es g τ L 0 0 0 (mupd M ka (.dT [])) := ⟨K0.own kt k0 kR ks, ⟨[], mupd_same, (fun _ h => nomatch h), Nat.le_refl _⟩, kt, k0, kR, ks⟩
  walk_at "st"
  refine ⟨_, _, rfl, sa, ca, 3, rfl, rfl, by decide, by decide, T0.m.wd.st, fun n M1 hn S1 f1 => ?_⟩
  have T1 := T0.dr S1 f1
  have en : (1 : Int) + ((n : Nat) : Int) = ((1 + n : Nat) : Int) := by omega
  walk_at "st"
  rw [en]
  refine ⟨by omega, ⟨by omega, ?_⟩⟩
  rw [Int.toNat_natCast]
  refine loop_by (fun i σ M' => ∃ g1 τ1 x5 x6 x7 x8 x9 x10 x11, σ = [some (.ref sa), some (.ref wa), some (.ref sca), some (.lst (es.map D.ref)), some (.ref ka), x5, x6, x7, x8, x9, x10, x11] ∧ TMono τ τ1 ∧ Grw (4 * i) g g1 ∧
    Mt sa ca wa sca ka M0 xs es g1 τ1 (L + 6 * i) (6 * i) (80 * i) (3 * i) M') (fun _ _ _ _ _ => trivial) ?_ ?_ ⟨g, τ, _, _, _, _, _, _, _, rfl, .refl, .refl, T1⟩
  · rintro i d σ M2 nx hd ⟨g1, τ1, x5, x6, x7, x8, x9, x10, x11, rfl, m1, G1, T2⟩ hnx
    have hi : i < 1 + n := by
      have := (List.getElem?_eq_some_iff.mp hd).1
      rw [intsD_len] at this
      exact this
    walk_at "st"
    refine ⟨_, _, _, rfl, T2.m.wd.rc, rfl, ?_⟩
    walk_at "st"
    refine ⟨_, .ref T2.m.sc, ?_⟩
    refine iteP (fun c1 => ?_) (fun c1 => ?_)
    case' _ =>
      walk_at "st"
      refine ⟨_, _, rfl, sa, ca, [N 1, N 1, N 2, N 3], rfl, .inl rfl, by decide, by decide, T2.m.wd.st, fun dd M3 hdd S3 f3 => ?_⟩
      obtain ⟨many, hmany, rfl⟩ : ∃ many, many ≤ 3 ∧ dd = N many := by
        simp only [List.mem_cons, List.not_mem_nil, or_false] at hdd
        rcases hdd with rfl | rfl | rfl | rfl
        · exact ⟨1, by decide, rfl⟩
        · exact ⟨1, by decide, rfl⟩
        · exact ⟨2, by decide, rfl⟩
        · exact ⟨3, by decide, rfl⟩
      have T3 := T2.dr S3 f3
      walk_at "st"
    rotate_left
    case' _ =>
      walk_at "st"
      obtain ⟨many, hmany, emany⟩ : ∃ many, many ≤ 3 ∧ some (D.int 1) = some (N many) := ⟨1, by decide, rfl⟩
      rw [emany]
      have T3 := T2
      revert T3
      generalize M2 = M3
      intro T3
    all_goals
      refine ⟨_, T3.m.sc, ?_⟩
      intro pc hpc
      obtain ⟨p0, pR, pt⟩ := T3.m.free hpc
      have psc : pc ≠ sca := fun z => by have := T3.m.sc; rw [← z, hpc] at this; cases this
      have pka : pc ≠ ka := fun z => by obtain ⟨_, hk, _⟩ := T3.ka_; rw [← z, hpc] at hk; cases hk
      refine lc_inv (G := fun M' => M' sca = some (.lst (xs.map D.ref))) (fun j acc M' => ∃ (ps : List Addr) (τ2 : Addr → Option Ty), acc = ps.map D.ref ∧ ps.length = j ∧ TMono τ1 τ2 ∧ (∀ p ∈ ps, τ2 p = some .p) ∧ τ2 pc = none ∧ M' pc = some (.lst acc) ∧
        Mt sa ca wa sca ka M0 xs es g1 τ2 (L + 6 * i) (6 * i) (80 * i) (3 * i) M') (fun _ _ _ ⟨_, _, _, _, _, _, _, _, T⟩ => T.m.sc) ?_ ?_ ⟨[], τ1, rfl, rfl, .refl, (fun _ h => nomatch h), pt, mupd_same, T3.own pt p0 pR psc pka⟩
      · rintro j d2 acc M4 Ky Kn hd2 ⟨ps, τ2, rfl, hj, m2, hps, pt2, hM4, T4⟩ hy hn
        walk_at "st"
        intro q hq
        have qpc : pc ≠ q := fun z => by rw [z, hq] at hM4; cases hM4
        have hj4 : j < 4 := by
          have := (List.getElem?_eq_some_iff.mp hd2).1
          rw [List.length_map] at this
          omega
        have T5 := T4.new (t := .p) (o := .lst []) hq ⟨[], rfl, (fun _ h => nomatch h), Nat.zero_le _⟩
        have m5 : TMono τ2 (tins τ2 q .p) := tins_mono (T4.m.free hq).2.2
        have pt5 : tins τ2 q .p pc = none := by rw [tins_ne qpc]; exact pt2
        refine hy _ _ (by rw [mupd_ne qpc]; exact hM4) (by rw [sizeLine_eq, List.length_map]; omega) ⟨ps ++ [q], tins τ2 q .p, by rw [List.map_append]; rfl, by rw [List.length_append, hj]; rfl, m2.trans m5, fun p hp => ?_, pt5, mupd_same, T5.own pt5 p0 pR psc pka⟩
        rcases List.mem_append.mp hp with hp | hp
        · exact m5 _ _ (hps p hp)
        · rw [List.mem_singleton.mp hp]; exact tins_same
      rintro acc M4 ⟨ps, τ2, rfl, hj, m2, hps, pt2, hM4, T4⟩
      rw [List.length_map] at hj
      refine ⟨hM4, ?_⟩
      have T5 := T4.del pt2 p0 pR psc pka
      have mm := m1.trans m2
      revert T5
      generalize mdel M4 pc = M5
      intro T5
      walk_at "st"
      refine ⟨_, _, rfl, sa, ca, 3, rfl, rfl, by decide, by decide, T5.m.wd.st, fun n2 M6 hn2 S6 f6 => ?_⟩
      have T6 := T5.dr S6 f6
      have en2 : (1 : Int) + ((n2 : Nat) : Int) = ((1 + n2 : Nat) : Int) := by omega
      walk_at "st"
      rw [en2]
      refine ⟨by omega, ⟨by omega, ?_⟩⟩
      rw [Int.toNat_natCast]
      refine loop_by (fun j σ M' => ∃ g2 x9 x10 x11, σ = [some (.ref sa), some (.ref wa), some (.ref sca), some (.lst (es.map D.ref)), some (.ref ka), some d, some (N many), some (.lst (ps.map D.ref)), x8, x9, x10, x11] ∧ Grw 0 g1 g2 ∧
        Mt sa ca wa sca ka M0 xs es g2 τ2 (L + 6 * i + 2 * j) (6 * i + 2 * j) (80 * i) (3 * i + j) M') (fun _ _ _ _ _ => trivial) ?_ ?_ ⟨g1, _, _, _, rfl, .refl, T6⟩
      · rintro j d3 σ M7 nx2 hd3 ⟨g2, x9, x10, x11, rfl, G2, T7⟩ hnx2
        have hj3 : j < 1 + n2 := by
          have := (List.getElem?_eq_some_iff.mp hd3).1
          rw [intsD_len] at this
          exact this
        walk_at "st"
        refine ⟨_, .ref T7.m.sc, ?_⟩
        rw [List.length_map]
        refine ⟨_, _, rfl, sa, ca, xs.length, rfl, rfl, by omega, by omega, T7.m.wd.st, fun a M8 ha S8 f8 => ?_⟩
        have T8 := T7.dr S8 f8
        walk_at "st"
        refine ⟨_, .ref T8.m.sc, ?_⟩
        walk_at "st"
        rw [List.length_map, show ((xs.length : Nat) : Int) - 1 = ((xs.length - 1 : Nat) : Int) by omega]
        refine ⟨_, _, rfl, sa, ca, xs.length - 1, rfl, rfl, by omega, by omega, T8.m.wd.st, fun b M9 hb S9 f9 => ?_⟩
        have T9 := T8.dr S9 f9
        walk_at "st"
        refine ⟨_, .ref T9.m.sc, ?_⟩
        rw [List.length_map]
        walk_at "st"
        refine ⟨by omega, ?_⟩
        obtain ⟨t, ht, et⟩ : ∃ t, t < xs.length ∧ ((a : Int) + 1 + (b : Int)).fmod ((xs.length : Nat) : Int) = ((t : Nat) : Int) := ⟨(a + 1 + b) % xs.length, Nat.mod_lt _ (by omega), by
          rw [show (a : Int) + 1 + (b : Int) = ((a + 1 + b : Nat) : Int) by omega, Int.fmod_eq_emod_of_nonneg _ (by omega), Int.natCast_emod]⟩
        rw [et]
        have hea := List.getElem?_eq_getElem (show a < es.length by omega)
        have het := List.getElem?_eq_getElem (show t < es.length by omega)
        have hpa := List.getElem?_eq_getElem (show a < ps.length by omega)
        have hpt := List.getElem?_eq_getElem (show t < ps.length by omega)
        have tea := T9.m.es_ _ (List.mem_of_getElem? hea)
        have tet := T9.m.es_ _ (List.mem_of_getElem? het)
        have tpa := hps _ (List.mem_of_getElem? hpa)
        have tpt := hps _ (List.mem_of_getElem? hpt)
        generalize es[a] = ea at hea tea
        generalize es[t] = et' at het tet
        generalize ps[a] = pa at hpa tpa
        generalize ps[t] = pt' at hpt tpt
        obtain ⟨kvs, hK, hkv, hkl⟩ := T9.ka_
        have hC24 := T9.m.wd.C2
        walk_at "st"
        refine ⟨_, _, rfl, hK, ?_⟩
        refine t2 (fun e1 => ?_) (fun e1 => ?_)
        case' _ =>
          walk_at "st"
          refine ⟨_, _, _, rfl, T9.m.wd.rc, rfl, ?_⟩
          walk_at "st"
          refine ⟨_, .ref T9.m.wd.ch, ?_⟩
          rw [List.length_map, Gw.ks_len]
          walk_at "st"
          refine iteP (fun c2 => ?_) (fun c2 => ?_)
          case' _ =>
            have hC2 : g2.C < 24 := by omega
            walk_at "st"
            refine ⟨_, _, _, rfl, T9.m.wd.rc, rfl, ?_⟩
            walk_at "st"
            refine ⟨_, .ref T9.m.wd.ch, ?_⟩
            rw [List.length_map, Gw.ks_len]
            walk_at "st"
            refine ⟨_, _, rfl, hK, by rw [sizeLine_eq]; omega, ?_⟩
            have KA := T9.m.own (o := .dT (putD kvs [.inl (a : Int), .inl (t : Int)] (N g2.C))) T9.kt T9.k0 T9.kR T9.ks
            have hKA : mupd M9 ka (.dT (putD kvs [.inl (a : Int), .inl (t : Int)] (N g2.C))) ka = some (.dT (putD kvs [.inl (a : Int), .inl (t : Int)] (N g2.C))) := mupd_same
            revert KA hKA
            generalize mupd M9 ka (.dT (putD kvs [.inl (a : Int), .inl (t : Int)] (N g2.C))) = MA
            intro KA hKA
            walk_at "st"
            refine ⟨_, _, _, rfl, KA.wd.rc, rfl, ?_⟩
            walk_at "st"
            refine ⟨⟨_, .ref KA.wd.ch⟩, ?_⟩
            walk_at "st"
            refine ⟨_, _, rfl, KA.wd.ch, by rw [sizeLine_eq, List.length_map, Gw.ks_len]; omega, ?_⟩
            have KB := KA.chan hC2
            have TB : Mt sa ca wa sca ka M0 xs es g2.ch τ2 (L + 6 * i + 2 * j) (6 * i + 2 * j) (80 * i) (3 * i + j + 1) (mupd MA g2.u.cha (.lst (g2.ks.map kindD ++ [S "inner"]))) := by
              refine ⟨KB, ⟨putD kvs [.inl (a : Int), .inl (t : Int)] (N g2.C), ?_, fun q hq => ?_, Nat.le_trans putD_len (Nat.succ_le_succ hkl)⟩, T9.kt, T9.k0, T9.kR, T9.ks⟩
              · rw [mupd_ne (fun z => T9.kR (by rw [z]; simp))]; exact hKA
              · rw [Gw.ch_C]
                rcases putD_mem hq with h1 | h1
                · obtain ⟨x, e, hx⟩ := hkv q h1
                  exact ⟨x, e, by omega⟩
                · exact ⟨g2.C, h1, Nat.lt_succ_self _⟩
            have hkB : KvOk g2.ch.C (putD kvs [.inl (a : Int), .inl (t : Int)] (N g2.C)) := by
              intro q hq
              rw [Gw.ch_C]
              rcases putD_mem hq with h1 | h1
              · obtain ⟨x, e, hx⟩ := hkv q h1
                exact ⟨x, e, by omega⟩
              · exact ⟨g2.C, h1, Nat.lt_succ_self _⟩
            have hKB : mupd MA g2.u.cha (.lst (g2.ks.map kindD ++ [S "inner"])) ka = some (.dT (putD kvs [.inl (a : Int), .inl (t : Int)] (N g2.C))) := by rw [mupd_ne (fun z => T9.kR (by rw [z]; simp))]; exact hKA
            obtain ⟨dv1, hdv⟩ := putD_val (kvs := kvs) (k := [.inl (a : Int), .inl (t : Int)]) (v := N g2.C)
            obtain ⟨cc, ecc, hcc⟩ := hkB.get hdv
            subst ecc
            revert TB hKB
            generalize mupd MA g2.u.cha (.lst (g2.ks.map kindD ++ [S "inner"])) = MB
            intro TB hKB
            obtain ⟨c1, r1, gg1, tt1, sp1, hE1, _, _, tg1, _⟩ := TB.m.hp.envR tea
            obtain ⟨dsg, hG, hzg, HG⟩ := TB.m.hp.pushL (x := cc) tg1 hcc
            have TC := TB.put tg1 HG
            have hKC : mupd MB gg1 (.lst (dsg ++ [N cc])) ka = some (.dT (putD kvs [.inl (a : Int), .inl (t : Int)] (N g2.C))) := by
              rw [mupd_ne (fun z => by have := TB.kt; rw [z, tg1] at this; cases this)]; exact hKB
            walk_at "st"
            refine ⟨_, map_get hea, ?_⟩
            walk_at "st"
            refine ⟨_, _, _, rfl, hE1, rfl, ?_⟩
            walk_at "st"
            refine ⟨⟨_, .ref hG⟩, ?_⟩
            walk_at "st"
            refine ⟨_, _, _, rfl, hKB, hdv, ?_⟩
            walk_at "st"
            refine ⟨_, _, rfl, hG, by rw [sizeLine_eq]; omega, ?_⟩
            revert TC hKC
            generalize mupd MB gg1 (.lst (dsg ++ [N cc])) = MC
            intro TC hKC
            obtain ⟨c2', r2, gg2, tt2, sp2, hE2, _, _, _, tt2'⟩ := TC.m.hp.envR tet
            obtain ⟨dst, hT, hzt, HT⟩ := TC.m.hp.pushL (x := cc) tt2' hcc
            have TD := TC.put tt2' HT
            walk_at "st"
            refine ⟨_, map_get het, ?_⟩
            walk_at "st"
            refine ⟨_, _, _, rfl, hE2, rfl, ?_⟩
            walk_at "st"
            refine ⟨⟨_, .ref hT⟩, ?_⟩
            walk_at "st"
            refine ⟨_, _, _, rfl, hKC, hdv, ?_⟩
            walk_at "st"
            refine ⟨_, _, rfl, hT, by rw [sizeLine_eq]; omega, ?_⟩
            have T10 : Mt sa ca wa sca ka M0 xs es g2.ch τ2 (L + 6 * i + 2 * j + 2) (6 * i + 2 * j) (80 * i) (3 * i + j + 1) _ := TD
            have G10 : Grw 0 g1 g2.ch := G2.trans Grw.ch
            revert T10 G10
            generalize mupd MC tt2 (.lst (dst ++ [N cc])) = M10
            generalize g2.ch = g10
            intro T10 G10
          rotate_left
          case' _ =>
            walk_at "st"
            have T10 : Mt sa ca wa sca ka M0 xs es g2 τ2 (L + 6 * i + 2 * j + 2) (6 * i + 2 * j) (80 * i) (3 * i + j + 1) _ := T9.mono (by omega) (by omega) (by omega) (by omega)
            have G10 : Grw 0 g1 g2 := G2
            revert T10 G10
            generalize M9 = M10
            generalize g2 = g10
            intro T10 G10
        rotate_left
        rotate_left
        case' _ =>
          walk_at "st"
          have T10 : Mt sa ca wa sca ka M0 xs es g2 τ2 (L + 6 * i + 2 * j + 2) (6 * i + 2 * j) (80 * i) (3 * i + j + 1) _ := T9.mono (by omega) (by omega) (by omega) (by omega)
          have G10 : Grw 0 g1 g2 := G2
          revert T10 G10
          generalize M9 = M10
          generalize g2 = g10
          intro T10 G10
        all_goals
          walk_at "st"
          obtain ⟨kvs2, hK2, hkv2, hkl2⟩ := T10.ka_
          refine ⟨_, _, rfl, hK2, ?_⟩
          refine t2 (fun e2 => ?_) (fun e2 => ?_)
          · obtain ⟨dv2, hdv2⟩ : ∃ dd, valD kvs2 [.inl (a : Int), .inl (t : Int)] = some dd := Option.isSome_iff_exists.mp (by rw [if_neg Bool.false_ne_true] at e2; exact e2)
            obtain ⟨cd, ecd, hcd⟩ := hkv2.get hdv2
            subst ecd
            obtain ⟨dsa, hA, hza, HA⟩ := T10.m.hp.pushP (q := (true, cd)) tpa hcd
            have TE : Mt sa ca wa sca ka M0 xs es g10 τ2 (L + 6 * i + 2 * j + 2) (6 * i + 2 * j + 1) (80 * i) (3 * i + j + 1) (mupd M10 pa (.lst (dsa ++ [.tup [.str (Str.ofString "give"), N cd, .str (Str.ofString "")]]))) := T10.put tpa HA
            have hKE : mupd M10 pa (.lst (dsa ++ [.tup [.str (Str.ofString "give"), N cd, .str (Str.ofString "")]])) ka = some (.dT kvs2) := by
              rw [mupd_ne (fun z => by have := T10.kt; rw [z, tpa] at this; cases this)]; exact hK2
            walk_at "st"
            refine ⟨_, map_get hpa, ?_⟩
            walk_at "st"
            refine ⟨⟨_, .ref hA⟩, ?_⟩
            walk_at "st"
            refine ⟨_, _, _, rfl, hK2, hdv2, ?_⟩
            walk_at "st"
            refine ⟨_, _, rfl, hA, by rw [sizeLine_eq]; omega, ?_⟩
            revert TE hKE
            generalize mupd M10 pa (.lst (dsa ++ [.tup [.str (Str.ofString "give"), N cd, .str (Str.ofString "")]])) = ME
            intro TE hKE
            obtain ⟨dsb, hB, hzb, HB⟩ := TE.m.hp.pushP (q := (false, cd)) tpt hcd
            walk_at "st"
            refine ⟨_, map_get hpt, ?_⟩
            walk_at "st"
            refine ⟨⟨_, .ref hB⟩, ?_⟩
            walk_at "st"
            refine ⟨_, _, _, rfl, hKE, hdv2, ?_⟩
            walk_at "st"
            refine ⟨_, _, rfl, hB, by rw [sizeLine_eq]; omega, ?_⟩
            exact hnx2 _ _ ⟨g10, _, _, _, rfl, G10, (TE.put tpt HB).mono (by omega) (by omega) (by omega) (by omega)⟩
          · exact hnx2 _ _ ⟨g10, _, _, _, rfl, G10, T10.mono (by omega) (by omega) (by omega) (by omega)⟩
      · rintro σ M7 ⟨g2, x9, x10, x11, rfl, G2, T7⟩
        rw [intsD_len] at T7
        walk_at "st"
        refine ⟨_, .ref T7.m.sc, ?_⟩
        rw [List.length_map]
        walk_at "st"
        refine ⟨by omega, ⟨by omega, ?_⟩⟩
        rw [Int.toNat_natCast]
        refine loop_by (fun j σ M' => ∃ g2 x9, σ = [some (.ref sa), some (.ref wa), some (.ref sca), some (.lst (es.map D.ref)), some (.ref ka), some d, some (N many), some (.lst (ps.map D.ref)), x8, x9, x10, x11] ∧ Grw j g1 g2 ∧
          Mt sa ca wa sca ka M0 xs es g2 τ2 (L + 6 * i + 6) (6 * i + 6) (80 * i + 20 * j) (3 * i + 3) M') (fun _ _ _ _ _ => trivial) ?_ ?_ ⟨g2, _, rfl, G2, T7.mono (by omega) (by omega) (by omega) (by omega)⟩
        · rintro j d3 σ M8 nx2 hd3 ⟨g3, x9, rfl, G3, T8⟩ hnx2
          have hj3 : j < xs.length := by
            have := (List.getElem?_eq_some_iff.mp hd3).1
            rw [intsD_len] at this
            exact this
          have ed : d3 = N j := by
            rw [intsD_map, List.getElem?_map, List.getElem?_range hj3] at hd3
            exact (Option.some.inj hd3).symm
          subst ed
          have hxj := List.getElem?_eq_getElem hj3
          have hpj := List.getElem?_eq_getElem (show j < ps.length by omega)
          have txj := T8.m.xs_
          generalize xs[j] = xj at hxj
          generalize ps[j] = pj at hpj
          have txj := T8.m.xs_ _ (List.mem_of_getElem? hxj)
          have tpj := hps _ (List.mem_of_getElem? hpj)
          obtain ⟨dp, hdp⟩ := T8.m.hp.lenP tpj
          have done : ∀ M9 g4, Grw (j + 1) g1 g4 → Mt sa ca wa sca ka M0 xs es g4 τ2 (L + 6 * i + 6) (6 * i + 6) (80 * i + 20 * (j + 1)) (3 * i + 3) M9 → nx2 [some (.ref sa), some (.ref wa), some (.ref sca), some (.lst (es.map D.ref)), some (.ref ka), some d, some (N many), some (.lst (ps.map D.ref)), x8, some (N j), x10, x11] M9 :=
            fun M9 g4 a b => hnx2 _ _ ⟨g4, _, rfl, a, b⟩
          walk_at "st"
          refine ⟨_, map_get hpj, ?_⟩
          walk_at "st"
          refine ⟨_, .ref hdp, ?_⟩
          refine iteP (fun c1 => ?_) (fun c1 => ?_)
          · walk_at "st"
            refine iteP (fun c2 => ?_) (fun c2 => ?_)
            · obtain ⟨its1, hs1, _, _⟩ := T8.m.hp.lenS txj
              walk_at "st"
              refine ⟨_, _, T8.m.sc, map_get hxj, ?_⟩
              walk_at "st"
              refine ⟨⟨_, .ref hs1⟩, ?_⟩
              walk_at "st"
              refine ⟨_, map_get hpj, ?_⟩
              walk_at "st"
              refine ⟨_, _, rfl, wa, g3.u, 1, rfl, rfl, T8.m.wd.rc, ?_⟩
              have T9 := T8.cells (k := 1)
              obtain ⟨ds2, hs2, hz2, H2⟩ := T9.m.hp.pushS (i := .loop many pj g3.u.c) txj ⟨hmany, Nat.lt_succ_self _, tpj⟩
              walk_at "st"
              refine ⟨_, _, rfl, hs2, by rw [sizeLine_eq]; omega, ?_⟩
              exact done _ _ (G3.trans Grw.mc) ((T9.put txj H2).mono (Nat.le_refl _) (Nat.le_refl _) (by omega) (Nat.le_refl _))
            · obtain ⟨ds1, es1, hs1, hp1, hz1, hz2, H1⟩ := T8.m.hp.extS txj tpj
              walk_at "st"
              refine ⟨_, _, T8.m.sc, map_get hxj, ?_⟩
              walk_at "st"
              refine ⟨⟨_, .ref hs1⟩, ?_⟩
              walk_at "st"
              refine ⟨_, map_get hpj, ?_⟩
              walk_at "st"
              refine ⟨_, _, _, rfl, hs1, .ref hp1, by rw [sizeLine_eq]; omega, ?_⟩
              exact done _ _ (G3.mono (Nat.le_succ _)) ((T8.put txj H1).mono (Nat.le_refl _) (Nat.le_refl _) (by omega) (Nat.le_refl _))
          · obtain ⟨ds1, es1, hs1, hp1, hz1, hz2, H1⟩ := T8.m.hp.extS txj tpj
            walk_at "st"
            refine ⟨_, _, T8.m.sc, map_get hxj, ?_⟩
            walk_at "st"
            refine ⟨⟨_, .ref hs1⟩, ?_⟩
            walk_at "st"
            refine ⟨_, map_get hpj, ?_⟩
            walk_at "st"
            refine ⟨_, _, _, rfl, hs1, .ref hp1, by rw [sizeLine_eq]; omega, ?_⟩
            exact done _ _ (G3.mono (Nat.le_succ _)) ((T8.put txj H1).mono (Nat.le_refl _) (Nat.le_refl _) (by omega) (Nat.le_refl _))
        · rintro σ M8 ⟨g3, x9, rfl, G3, T8⟩
          rw [intsD_len] at G3 T8
          refine hnx _ _ ⟨g3, τ2, _, _, _, _, _, _, _, rfl, mm, (G1.trans G3).mono (by omega), T8.mono (by omega) (by omega) (by omega) (by omega)⟩
  · rintro σ M2 ⟨g1, τ1, x5, x6, x7, x8, x9, x10, x11, rfl, m1, G1, T2⟩
    rw [intsD_len] at G1 T2
    walk_at "st"
    have hn3 : 1 + n ≤ 3 := by omega
    exact h τ1 g1 _ m1 (G1.mono (by omega)) (T2.m.mono (by omega) (by omega) (by omega))
end
end Dl
namespace Dl
open PySem PySem.Spec PyProof.Rows L2 Mi
/-- a thread's script: an object of the typed heap, or data -/
def ScD (τ : Addr → Option Ty) (n C Lz : Nat) (y : D) : Prop := (∃ a, y = .ref a ∧ τ a = some .s) ∨ ∃ its : List Itm, y = .lst (its.map Itm.d) ∧ (∀ i ∈ its, ScrOk τ n C i) ∧ its.length ≤ Lz
theorem ScD.mono {τ : Addr → Option Ty} {n C Lz Lz' : Nat} {y : D} (h : ScD τ n C Lz y) (hz : Lz ≤ Lz') : ScD τ n C Lz' y := by
  rcases h with h | ⟨its, e, h1, h2⟩
  · exact .inl h
  · exact .inr ⟨its, e, h1, Nat.le_trans h2 hz⟩
structure Ms (sa ca wa sca : Addr) (M0 : Mh) (es : List Addr) (g : Gw) (τ : Addr → Option Ty) (L Lp Ls Lz : Nat) (M : Mh) : Prop where
  hp : HeapOk (Rg sa ca wa g) M0 g.u.c g.C L Lp Ls τ M
  wd : WdAt sa ca wa g M
  fr : FrR (Rg sa ca wa g) M0 M
  sc : ∃ ys : List D, M sca = some (.lst ys) ∧ ys.length = es.length ∧ ∀ y ∈ ys, ScD τ g.u.c g.C Lz y
  es_ : ∀ e ∈ es, τ e = some .e
  ts : τ sca = none
  sR : sca ∉ Rg sa ca wa g
  s0 : M0 sca = none
section
variable {sa ca wa sca : Addr} {M0 M M' : Mh} {xs es : List Addr} {g : Gw} {τ : Addr → Option Ty} {L Lp Ls Lz L' Lp' Ls' Lz' : Nat}
theorem Mk.ms (h : Mk sa ca wa sca M0 xs es g τ L Lp Ls M) (e : es.length = xs.length) : Ms sa ca wa sca M0 es g τ L Lp Ls Ls M :=
  ⟨h.hp, h.wd, h.fr, ⟨_, h.sc, by rw [List.length_map, e], fun y hy => by
    obtain ⟨a, ha, rfl⟩ := List.mem_map.mp hy
    exact .inl ⟨a, rfl, h.xs_ a ha⟩⟩, h.es_, h.ts, h.sR, h.s0⟩
theorem Ms.mono (h : Ms sa ca wa sca M0 es g τ L Lp Ls Lz M) (h1 : L ≤ L') (h4 : Lz ≤ Lz') : Ms sa ca wa sca M0 es g τ L' Lp Ls Lz' M := by
  obtain ⟨ys, a, b, c⟩ := h.sc
  exact ⟨h.hp.mono (Nat.le_refl _) (Nat.le_refl _) h1 (Nat.le_refl _) (Nat.le_refl _), h.wd, h.fr, ⟨ys, a, b, fun y hy => (c y hy).mono h4⟩, h.es_, h.ts, h.sR, h.s0⟩
theorem Ms.free (h : Ms sa ca wa sca M0 es g τ L Lp Ls Lz M) {p : Addr} (hp : M p = none) : M0 p = none ∧ p ∉ Rg sa ca wa g ∧ τ p = none ∧ p ≠ sca := by
  have n := h.wd.fresh hp
  refine ⟨?_, n, h.hp.free hp, fun z => ?_⟩
  · cases e : M0 p with
    | none => rfl
    | some o => rw [h.fr _ _ n e] at hp; cases hp
  · obtain ⟨ys, a, _⟩ := h.sc
    rw [← z, hp] at a; cases a
theorem Ms.dr (h : Ms sa ca wa sca M0 es g τ L Lp Ls Lz M) (S : StAt sa ca M') (f : Fr2 sa ca M M') : Ms sa ca wa sca M0 es g τ L Lp Ls Lz M' := by
  have f2 : FrR (Rg sa ca wa g) M M' := f.frR (by simp) (by simp)
  obtain ⟨ys, a, b, c⟩ := h.sc
  exact ⟨h.hp.fr f2, h.wd.fr S f, h.fr.trans f2, ⟨ys, f2 _ _ h.sR a, b, c⟩, h.es_, h.ts, h.sR, h.s0⟩
theorem Ms.put {p : Addr} {t : Ty} {o : MO} (h : Ms sa ca wa sca M0 es g τ L Lp Ls Lz M) (e : τ p = some t) (k : HeapOk (Rg sa ca wa g) M0 g.u.c g.C L' Lp Ls τ (mupd M p o)) : Ms sa ca wa sca M0 es g τ L' Lp Ls Lz (mupd M p o) := by
  obtain ⟨h1, h2, _⟩ := h.hp.ok p t e
  obtain ⟨ys, a, b, c⟩ := h.sc
  exact ⟨k, h.wd.upd h1, h.fr.own h2, ⟨ys, by rw [mupd_ne (fun z => by rw [← z, h.ts] at e; cases e)]; exact a, b, c⟩, h.es_, h.ts, h.sR, h.s0⟩
theorem Ms.own {p : Addr} {o : MO} (h : Ms sa ca wa sca M0 es g τ L Lp Ls Lz M) (e : τ p = none) (h0 : M0 p = none) (hR : p ∉ Rg sa ca wa g) (hs : p ≠ sca) : Ms sa ca wa sca M0 es g τ L Lp Ls Lz (mupd M p o) := by
  obtain ⟨ys, a, b, c⟩ := h.sc
  refine ⟨⟨fun a t e2 => ?_⟩, h.wd.upd hR, h.fr.own h0, ⟨ys, by rw [mupd_ne (Ne.symm hs)]; exact a, b, c⟩, h.es_, h.ts, h.sR, h.s0⟩
  obtain ⟨h1, h2, o2, h3, h4⟩ := h.hp.ok a t e2
  exact ⟨h1, h2, o2, by rw [mupd_ne (fun z => by rw [z, e] at e2; cases e2)]; exact h3, h4⟩
theorem Ms.scr {ys : List D} {i : Nat} {y : D} (h : Ms sa ca wa sca M0 es g τ L Lp Ls Lz M) (hs : M sca = some (.lst ys)) (hy : ScD τ g.u.c g.C Lz y) : Ms sa ca wa sca M0 es g τ L Lp Ls Lz (mupd M sca (.lst (ys.set i y))) := by
  obtain ⟨ys2, a, b, c⟩ := h.sc
  rw [hs] at a
  cases a
  refine ⟨⟨fun a t e2 => ?_⟩, h.wd.upd h.sR, h.fr.own h.s0, ⟨_, mupd_same, by rw [List.length_set, b], fun z hz => ?_⟩, h.es_, h.ts, h.sR, h.s0⟩
  · obtain ⟨h1, h2, o2, h3, h4⟩ := h.hp.ok a t e2
    exact ⟨h1, h2, o2, by rw [mupd_ne (fun z => by rw [z, h.ts] at e2; cases e2)]; exact h3, h4⟩
  · rcases List.mem_or_eq_of_mem_set hz with h1 | h1
    · exact c z h1
    · rw [h1]; exact hy
/-- a script's items -/
theorem Ms.its {y : D} (h : Ms sa ca wa sca M0 es g τ L Lp Ls Lz M) (hy : ScD τ g.u.c g.C Lz y) (hz : Ls ≤ Lz) : ∃ its : List Itm, LstAt (Rg sa ca wa g) M y (its.map Itm.d) ∧ (∀ i ∈ its, ScrOk τ g.u.c g.C i) ∧ its.length ≤ Lz := by
  rcases hy with ⟨a, rfl, t⟩ | ⟨its, rfl, h1, h2⟩
  · obtain ⟨h1, _, o, e, l, rfl, h2, h3⟩ := h.hp.ok a _ t
    exact ⟨l, .inr ⟨a, rfl, h1, e⟩, h2, Nat.le_trans h3 hz⟩
  · exact ⟨its, .inl rfl, h1, h2⟩
/-- the scripts' items are good for _law_items -/
theorem HeapOk.itm {R : List Addr} {n C : Nat} {i : Itm} (h : HeapOk R M0 n C L Lp Ls τ M) (k : ScrOk τ n C i) (hL : Lp ≤ 100) : ItmOk R M n C 1 i := by
  cases i with
  | io g b c => exact ⟨k.2, fun z => nomatch z⟩
  | loop m p c =>
    obtain ⟨k1, k2, k3⟩ := k
    obtain ⟨h1, _, o, e, l, rfl, h2, h3⟩ := h.ok p _ k3
    exact ⟨Nat.le_refl _, k1, k2, h1, l, e, h2, Nat.le_trans h3 hL⟩
  | nest => exact k.elim
end
end Dl
namespace Dl
open PySem PySem.Spec PyProof.Rows L2 Mi
local macro_rules | `(tactic| walk_at "dl") => `(tactic| simp only [dRet, dOp, dSl, dV, dNoP, dPart, dLst, dLstM, dCons, dNil, dC, startD, rAdd, rAddM, rIx, rEq, rNe, rII, rII0, rIB0, rMul, rIsN, rNotN, isNon, dNeg, dTest, dAnd, dOr, dNot, dAndV, dOrV, dNotV, dIf, dTup, dFrz, dCB, rLen, rInt1, rAbs1, rMin2, rAll1, dBM, rApp, rExt, rPop0,
  dGet, dPut, dNext, dSeq, dDrop, dIfS, dName, dgNil, dgCons, dgTup, dAsg, dSub, rSet, dPar, dIL, dIT, dIR, dIE, dIZ, dFor, dYes, dCall, dLc, dLcM, dLcF, dPair, dGetT, dInT, dPutT, dNewT, wipeD,
  natsD, isL_lst, isL_ref, seqIn_tup, seqIn_lst, rIn, flatD, eqD, List.all_cons, List.all_nil, List.any_cons, List.any_nil, sizeLine_eq, Nat.reduceLeDiff, Nat.reduceLT, Bool.or_false, Bool.and_true, Bool.true_and, Bool.false_and, Bool.false_or, Bool.or_true, Bool.true_or, Bool.and_false, tupAt, optE, endsOf,
  List.map_cons, List.map_nil, List.length_cons, List.length_nil, List.cons_append, List.nil_append, List.append_nil, List.getElem?_cons_zero, List.getElem?_cons_succ, List.getElem?_nil, List.set_cons_zero, List.set_cons_succ, List.replicate_succ, List.replicate_zero, List.length_append, List.replicate,
  of_sE, String.reduceEq, decide_true, decide_false, Bool.false_eq_true, Bool.not_true, Bool.not_false, reduceIte, exists_eq_left, exists_eq_left', true_and, and_true, if_true, if_false, ite_true, ite_false, Nat.reduceAdd, Nat.reduceSub, Nat.reduceBEq, BEq.rfl, beq_self_eq_true, D.ref.injEq, D.int.injEq, D.str.injEq, D.lst.injEq, D.tup.injEq, List.cons.injEq, exists_and_left, exists_const, and_self])
local macro_rules | `(tactic| walk_at "s0") => `(tactic| (dsimp only [startD, List.length_cons, List.length_nil, List.map_cons, List.map_nil, List.cons_append, List.nil_append, Nat.reduceAdd, Nat.reduceSub, List.replicate_succ, List.replicate_zero]))
local macro_rules | `(tactic| walk_at "st") => `(tactic| ((conv => whnf); (try dsimp only [List.set_cons_zero, List.set_cons_succ]); repeat ((refine ⟨Nat.le_of_ble_eq_true rfl, ?_⟩); (conv => whnf); (try dsimp only [List.set_cons_zero, List.set_cons_succ]))))

section
variable {P : Program} {K : PySem.W.Frag} {mg : Str → Option Value} {w : World} {base : Heap}
def spShared : SpD := sp4 fun a b c d M Q => ∃ (sa ca wa sca ea : Addr) (M0 : Mh) (es : List Addr) (g : Gw) (τ : Addr → Option Ty) (L Lp Ls Lz bd : Nat) (v : Ev), a = .ref sa ∧ b = .ref ea ∧ c = .lst (es.map D.ref) ∧ d = .ref sca ∧ 2 ≤ es.length ∧ es.length ≤ 4 ∧
  Ms sa ca wa sca M0 es g τ L Lp Ls Lz M ∧ EnvAt (Rg sa ca wa g) M0 ea v ∧ v.ok g.u.c g.C ∧ v.cs.length ≤ bd ∧ v.gs.length ≤ bd ∧ v.ts.length ≤ bd ∧ L ≤ 1000 ∧ Ls ≤ Lz ∧ Lz ≤ 1000 ∧ bd ≤ 100000 ∧
  ∀ M', Ms sa ca wa sca M0 es g τ (L + 7 * bd) Lp Ls (Lz + 4 * bd) M' → Q .non M'
abbrev n_law_shared : List Str := ["_law_state_here", "_law_env_here", "_law_envs", "_law_scripts", "_law_cell", "_law_at", "_law_k", "_law_c"]
theorem sc_law_shared : FnScope n_law_shared ["_law_state_here", "_law_env_here", "_law_envs", "_law_scripts"] (defScope s_law_shared) := ⟨rfl, rfl, rfl, by decide +kernel, rfl, by decide +kernel, by decide +kernel⟩
/-- _law_shared; slots 0 _law_state_here, 1 _law_env_here, 2 _law_envs, 3 _law_scripts, 4 _law_cell, 5 _law_at, 6 _law_k, 7 _law_c; cells ['_law_c']; calls ['_law_draw'] -/
theorem ok_law_shared (B : Bl K mg) (Tx : Txt K mg "_law_shared" s_law_shared) (c_law_draw : Have P w K mg base "_law_draw" ["_law_state_here", "_law_many_here"] 1 spDraw) :
    Have P w K mg base "_law_shared" ["_law_state_here", "_law_env_here", "_law_envs", "_law_scripts"] 2 spShared := by
  refine have_of Tx sc_law_shared (fun _ _ _ _ _ _ us hl => match us, hl with | [_, _, _, _], _ => rfl) len4 fun cdv f A outer s H E hr => ⟨_, (dss_cons (ds_for (vs := [4]) PassesOwn.never rfl (di_any (de_dget (hu_of hr) (dv 1) (fun _ _ => rfl))) (dg_name (i := 4) (by decide) sc_law_shared.nd rfl (Or.inl rfl)) (dss_cons (ds_set (i := 5) sc_law_shared.nd rfl (Or.inl rfl) (de_callH c_law_draw (hr.mono (by omega)) rfl (da_cons (dv 0) (da_cons (de_op op_add_d (de_callB call_len_d rfl B.len PySem.boot_len (da_cons (dv 2) da_nil)) de_int) da_nil))))
    (dss_cons (ds_for (vs := [6]) PassesOwn.never rfl (di_range rfl B.range (da_cons (de_callB call_len_d rfl B.len PySem.boot_len (da_cons (dv 2) da_nil)) da_nil)) (dg_name (i := 6) (by decide) sc_law_shared.nd rfl (Or.inl rfl)) (dss_one (ds_if (dt_cmp op_in_d (dv 5) (de_tup (da_cons (dv 6) (da_cons (de_callB call_len_d rfl B.len PySem.boot_len (da_cons (dv 2) da_nil)) da_nil))) rfl) (dss_one (ds_expr (de_bm PySem.F.slot_list_append PySem.F.type_list_append mt_append_d (de_dget (hu_of hr) (de_ix (dv 2) (dv 6)) (fun _ _ => rfl)) (da_cons (dv 4) da_nil)))) dss_nil)))
    (dss_one (ds_if (dt_cmp op_lt_d (dv 5) (de_callB call_len_d rfl B.len PySem.boot_len (da_cons (dv 2) da_nil)) (nomark _)) (dss_one (ds_expr (de_bm PySem.F.slot_list_append PySem.F.type_list_append mt_append_d (de_dget (hu_of hr) (de_ix (dv 2) (dv 5)) (fun _ _ => rfl)) (da_cons (dv 4) da_nil)))) dss_nil)))))
    (dss_cons (ds_for (vs := [7]) PassesOwn.never rfl (di_any (de_dget (hu_of hr) (dv 1) (fun _ _ => rfl))) (dg_name (i := 7) (by decide) sc_law_shared.nd rfl (Or.inr rfl)) (dss_cons (ds_set (i := 5) sc_law_shared.nd rfl (Or.inl rfl) (de_callH c_law_draw (hr.mono (by omega)) rfl (da_cons (dv 0) (da_cons (de_callB call_len_d rfl B.len PySem.boot_len (da_cons (dv 2) da_nil)) da_nil))))
    (dss_cons (ds_expr (de_bm PySem.F.slot_list_append PySem.F.type_list_append mt_append_d (de_dget (hu_of hr) (de_ix (dv 2) (dv 5)) (fun _ _ => rfl)) (da_cons (dv 7) da_nil)))
    (dss_one (ds_asg (vs := []) (de_op op_add_d (de_ix (dv 3) (dv 5)) (de_lc (own := [("_law_k", 6)]) rfl sc_law_shared.nd (di_range rfl B.range (da_cons (de_callH c_law_draw (hr.mono (by omega)) rfl (da_cons (dv 0) (da_cons de_int da_nil))) da_nil)) (blkOk_by (N := n_law_shared) (sc := defScope s_law_shared) (by decide +kernel)) (fun _ _ _ _ _ => (dg_name (i := 6) (by decide) sc_law_shared.nd rfl (Or.inl rfl))) (fun _ _ _ _ _ => dts_nil) (fun _ _ _ _ _ => (de_tup (da_cons de_str (da_cons (dv 7) (da_cons de_str da_nil))))))) (dg_sub (dv 3) (dv 5)))))))
    (dss_one (ds_for (vs := [7]) PassesOwn.never rfl (di_any (de_dget (hu_of hr) (dv 1) (fun _ _ => rfl))) (dg_name (i := 7) (by decide) sc_law_shared.nd rfl (Or.inr rfl)) (dss_cons (ds_set (i := 5) sc_law_shared.nd rfl (Or.inl rfl) (de_callH c_law_draw (hr.mono (by omega)) rfl (da_cons (dv 0) (da_cons (de_callB call_len_d rfl B.len PySem.boot_len (da_cons (dv 2) da_nil)) da_nil))))
    (dss_cons (ds_expr (de_bm PySem.F.slot_list_append PySem.F.type_list_append mt_append_d (de_dget (hu_of hr) (de_ix (dv 2) (dv 5)) (fun _ _ => rfl)) (da_cons (dv 7) da_nil)))
    (dss_one (ds_asg (vs := []) (de_op op_add_d (de_ix (dv 3) (dv 5)) (de_lc (own := [("_law_k", 6)]) rfl sc_law_shared.nd (di_range rfl B.range (da_cons (de_callH c_law_draw (hr.mono (by omega)) rfl (da_cons (dv 0) (da_cons de_int da_nil))) da_nil)) (blkOk_by (N := n_law_shared) (sc := defScope s_law_shared) (by decide +kernel)) (fun _ _ _ _ _ => (dg_name (i := 6) (by decide) sc_law_shared.nd rfl (Or.inl rfl))) (fun _ _ _ _ _ => dts_nil) (fun _ _ _ _ _ => (de_tup (da_cons de_str (da_cons (dv 7) (da_cons de_str da_nil))))))) (dg_sub (dv 3) (dv 5)))))))))), ?_⟩
  rintro _ M Q ⟨_, _, _, _, rfl, sa, ca, wa, sca, ea, M0, es, g, τ, L, Lp, Ls, Lz, bd, v, rfl, rfl, rfl, rfl, he2, he4, T0, E0, V, hlc, hlg, hlt, hL, hsz, hLz, hbd, h⟩
  have cellsAt : ∀ {L' Lz' M'}, Ms sa ca wa sca M0 es g τ L' Lp Ls Lz' M' → EnvAt (Rg sa ca wa g) M' ea v := fun T => E0.frR T.fr
  walk_at "s0"
  walk_at "st"
  refine ⟨_, _, _, rfl, (cellsAt T0).rc, rfl, ?_⟩
  refine ⟨_, (cellsAt T0).c.isL, ?_⟩
  refine loop_by (fun i σ M' => ∃ x4 x5 x6 x7, σ = [some (.ref sa), some (.ref ea), some (.lst (es.map D.ref)), some (.ref sca), x4, x5, x6, x7] ∧ Ms sa ca wa sca M0 es g τ (L + 5 * i) Lp Ls Lz M') (fun i σ M' _ ⟨_, _, _, _, _, T⟩ => (cellsAt T).c.isL) ?_ ?_ ⟨_, _, _, _, rfl, T0⟩
  · rintro i d σ M1 nx hd ⟨x4, x5, x6, x7, rfl, T1⟩ hnx
    have hi : i < v.cs.length := by
      have := (List.getElem?_eq_some_iff.mp hd).1
      rw [List.length_map] at this
      exact this
    obtain ⟨cl, hcl, rfl⟩ := mem_N (List.mem_of_getElem? hd)
    have hcn := V.c cl hcl
    walk_at "st"
    refine ⟨_, .lst, ?_⟩
    rw [List.length_map]
    walk_at "st"
    rw [show ((es.length : Nat) : Int) + 1 = ((es.length + 1 : Nat) : Int) by omega]
    refine ⟨_, _, rfl, sa, ca, es.length + 1, rfl, rfl, by omega, by omega, T1.wd.st, fun a M2 ha S2 f2 => ?_⟩
    have T2 := T1.dr S2 f2
    walk_at "st"
    refine ⟨_, .lst, ?_⟩
    rw [List.length_map]
    walk_at "st"
    refine ⟨by omega, ⟨by omega, ?_⟩⟩
    rw [Int.toNat_natCast]
    refine loop_by (fun j σ M' => ∃ x6, σ = [some (.ref sa), some (.ref ea), some (.lst (es.map D.ref)), some (.ref sca), some (N cl), some (N a), x6, x7] ∧ Ms sa ca wa sca M0 es g τ (L + 5 * i + j) Lp Ls Lz M') (fun _ _ _ _ _ => trivial) ?_ ?_ ⟨_, rfl, T2⟩
    · rintro j d σ M3 nx2 hd2 ⟨x6, rfl, T3⟩ hnx2
      have hj : j < es.length := by
        have := (List.getElem?_eq_some_iff.mp hd2).1
        rw [intsD_len] at this
        exact this
      have ed : d = N j := by
        rw [intsD_map, List.getElem?_map, List.getElem?_range hj] at hd2
        exact (Option.some.inj hd2).symm
      subst ed
      have hej := List.getElem?_eq_getElem hj
      generalize es[j] = ej at hej
      have tej := T3.es_ _ (List.mem_of_getElem? hej)
      obtain ⟨c1, r1, gg1, tt1, sp1, hE1, tc1, tr1, tg1, tt1'⟩ := T3.hp.envR tej
      obtain ⟨dsr, hR, hzr, HR⟩ := T3.hp.pushL (x := cl) tr1 hcn
      walk_at "st"
      refine ⟨_, .lst, ?_⟩
      rw [List.length_map]
      walk_at "st"
      refine ⟨_, .inr rfl, rfl, rfl, ?_⟩
      refine t2 (fun e1 => ?_) (fun e1 => ?_)
      · walk_at "st"
        refine ⟨_, map_get hej, ?_⟩
        walk_at "st"
        refine ⟨_, _, _, rfl, hE1, rfl, ?_⟩
        walk_at "st"
        refine ⟨⟨_, .ref hR⟩, ?_⟩
        walk_at "st"
        refine ⟨_, _, rfl, hR, by rw [sizeLine_eq]; omega, ?_⟩
        exact hnx2 _ _ ⟨_, rfl, T3.put tr1 HR⟩
      · exact hnx2 _ _ ⟨_, rfl, T3.mono (Nat.le_succ _) (Nat.le_refl _)⟩
    · rintro σ M3 ⟨x6, rfl, T3⟩
      rw [intsD_len] at T3
      walk_at "st"
      refine ⟨_, .lst, ?_⟩
      rw [List.length_map]
      refine iteP (fun c1 => ?_) (fun c1 => ?_)
      · have hea := List.getElem?_eq_getElem (show a < es.length by omega)
        generalize es[a] = ej at hea
        have tea := T3.es_ _ (List.mem_of_getElem? hea)
        obtain ⟨c1, r1, gg1, tt1, sp1, hE1, tc1, tr1, tg1, tt1'⟩ := T3.hp.envR tea
        obtain ⟨dsr, hR, hzr, HR⟩ := T3.hp.pushL (x := cl) tc1 hcn
        walk_at "st"
        refine ⟨_, map_get hea, ?_⟩
        walk_at "st"
        refine ⟨_, _, _, rfl, hE1, rfl, ?_⟩
        walk_at "st"
        refine ⟨⟨_, .ref hR⟩, ?_⟩
        walk_at "st"
        refine ⟨_, _, rfl, hR, by rw [sizeLine_eq]; omega, ?_⟩
        exact hnx _ _ ⟨_, _, _, _, rfl, (T3.put tc1 HR).mono (by omega) (Nat.le_refl _)⟩
      · exact hnx _ _ ⟨_, _, _, _, rfl, T3.mono (by omega) (Nat.le_refl _)⟩
  · rintro σ M1 ⟨x4, x5, x6, x7, rfl, T1⟩
    rw [List.length_map] at T1
    walk_at "st"
    refine ⟨_, _, _, rfl, (cellsAt T1).rc, rfl, ?_⟩
    refine ⟨_, (cellsAt T1).g.isL, ?_⟩
    refine loop_by (fun i σ M' => ∃ x4 x5 x6 x7, σ = [some (.ref sa), some (.ref ea), some (.lst (es.map D.ref)), some (.ref sca), x4, x5, x6, x7] ∧ Ms sa ca wa sca M0 es g τ (L + 5 * v.cs.length + i) Lp Ls (Lz + 2 * i) M') (fun i σ M' _ ⟨_, _, _, _, _, T⟩ => (cellsAt T).g.isL) ?_ ?_ ⟨_, _, _, _, rfl, T1⟩
    · rintro i d σ M2 nx hd ⟨x4, x5, x6, x7, rfl, T2⟩ hnx
      have hi : i < v.gs.length := by
        have := (List.getElem?_eq_some_iff.mp hd).1
        rw [List.length_map] at this
        exact this
      obtain ⟨cl, hcl, rfl⟩ := mem_N (List.mem_of_getElem? hd)
      have hcn := V.g cl hcl
      walk_at "st"
      refine ⟨_, .lst, ?_⟩
      rw [List.length_map]
      refine ⟨_, _, rfl, sa, ca, es.length, rfl, rfl, by omega, by omega, T2.wd.st, fun a M3 ha S3 f3 => ?_⟩
      have T3 := T2.dr S3 f3
      have hea := List.getElem?_eq_getElem ha
      generalize es[a] = ej at hea
      have tea := T3.es_ _ (List.mem_of_getElem? hea)
      obtain ⟨c1, r1, gg1, tt1, sp1, hE1, tc1, tr1, tg1, tt1'⟩ := T3.hp.envR tea
      obtain ⟨dsr, hR, hzr, HR⟩ := T3.hp.pushL (x := cl) tg1 hcn
      have T4 := T3.put tg1 HR
      walk_at "st"
      refine ⟨_, map_get hea, ?_⟩
      walk_at "st"
      refine ⟨_, _, _, rfl, hE1, rfl, ?_⟩
      walk_at "st"
      refine ⟨⟨_, .ref hR⟩, ?_⟩
      walk_at "st"
      refine ⟨_, _, rfl, hR, by rw [sizeLine_eq]; omega, ?_⟩
      revert T4
      generalize mupd M3 gg1 (.lst (dsr ++ [N cl])) = M4
      intro T4
      obtain ⟨ys, hys, hyl, hyo⟩ := T4.sc
      have hya := List.getElem?_eq_getElem (show a < ys.length by omega)
      generalize ys[a] = y at hya
      have hy := hyo y (List.mem_of_getElem? hya)
      obtain ⟨its, Ly, hits, hitl⟩ := T4.its hy (by omega)
      walk_at "st"
      refine ⟨_, _, hys, atI_nat hya, ?_⟩
      walk_at "st"
      refine ⟨_, _, rfl, sa, ca, 3, rfl, rfl, by decide, by decide, T4.wd.st, fun k M5 hk S5 f5 => ?_⟩
      have T5 := T4.dr S5 f5
      have Ly5 := Ly.frR (f5.frR (by simp) (by simp))
      have hys5 := f5 _ _ (fun z => T4.sR (by rw [z]; simp)) (fun z => T4.sR (by rw [z]; simp)) hys
      walk_at "st"
      refine ⟨by omega, ⟨by omega, ?_⟩⟩
      rw [Int.toNat_natCast]
      intro p hp
      obtain ⟨p0, pR, pt, psc⟩ := T5.free hp
      rw [intsD_map]
      refine lc_map (G := fun _ => True) (List.range k) N (fun _ => true) (fun _ => (Itm.io true false cl).d) (by rw [sizeLine_eq, List.length_range]; omega) (by exact fun _ => trivial) (fun u hu acc Ky Kn hh => ?_) ?_
      · walk_at "st"
        exact hh
      rw [filter_all]
      simp only [del_upd hp]
      have T6z : Ms sa ca wa sca M0 es g τ _ Lp Ls _ M5 := T5
      have hlk : (List.map (fun _ => (Itm.io true false cl).d) (List.range k)).length = k := by rw [List.length_map, List.length_range]
      have sz : (its.map Itm.d).length + (List.map (fun _ => (Itm.io true false cl).d) (List.range k)).length ≤ sizeLine := by rw [hlk, List.length_map, sizeLine_eq]; omega
      have ny : ScD τ g.u.c g.C (Lz + 2 * (i + 1)) (.lst (its.map Itm.d ++ List.map (fun _ => (Itm.io true false cl).d) (List.range k))) := by
        refine .inr ⟨its ++ (List.range k).map (fun _ => .io true false cl), by rw [List.map_append, List.map_map]; rfl, fun u hu => ?_, by rw [List.length_append, List.length_map, List.length_range]; omega⟩
        rcases List.mem_append.mp hu with hu | hu
        · exact hits u hu
        · obtain ⟨_, _, rfl⟩ := List.mem_map.mp hu
          exact ⟨rfl, hcn⟩
      have nz := (T5.mono (L' := _) (Nat.le_refl _) (show Lz + 2 * i ≤ Lz + 2 * (i + 1) by omega)).scr (i := a) hys5 ny
      have goal : nx [some (.ref sa), some (.ref ea), some (.lst (es.map D.ref)), some (.ref sca), x4, some (N a), x6, some (N cl)] (mupd M5 sca (.lst (ys.set a (.lst (its.map Itm.d ++ List.map (fun _ => (Itm.io true false cl).d) (List.range k)))))) := hnx _ _ ⟨_, _, _, _, rfl, nz⟩
      have ixa := ixN_nat (n := ys.length) (t := a) (by omega)
      rcases hy with ⟨ya, rfl, _⟩ | ⟨_, rfl, _⟩
      · exact ⟨_, _, Ly5.isL, .lst, sz, _, _, _, a, rfl, rfl, hys5, ixa, goal⟩
      · exact ⟨_, _, Ly5.isL, .lst, sz, _, _, _, a, rfl, rfl, hys5, ixa, goal⟩
    · rintro σ T1m ⟨x4, x5, x6, x7, rfl, T6⟩
      rw [List.length_map] at T6
      skip
      walk_at "st"
      refine ⟨_, _, _, rfl, (cellsAt T6).rc, rfl, ?_⟩
      refine ⟨_, (cellsAt T6).t.isL, ?_⟩
      refine loop_by (fun i σ M' => ∃ x4 x5 x6 x7, σ = [some (.ref sa), some (.ref ea), some (.lst (es.map D.ref)), some (.ref sca), x4, x5, x6, x7] ∧ Ms sa ca wa sca M0 es g τ (L + 5 * v.cs.length + v.gs.length + i) Lp Ls (Lz + 2 * v.gs.length + 2 * i) M') (fun i σ M' _ ⟨_, _, _, _, _, T⟩ => (cellsAt T).t.isL) ?_ ?_ ⟨_, _, _, _, rfl, T6⟩
      · rintro i d σ M2 nx hd ⟨x4, x5, x6, x7, rfl, T2⟩ hnx
        have hi : i < v.ts.length := by
          have := (List.getElem?_eq_some_iff.mp hd).1
          rw [List.length_map] at this
          exact this
        obtain ⟨cl, hcl, rfl⟩ := mem_N (List.mem_of_getElem? hd)
        have hcn := V.t cl hcl
        walk_at "st"
        refine ⟨_, .lst, ?_⟩
        rw [List.length_map]
        refine ⟨_, _, rfl, sa, ca, es.length, rfl, rfl, by omega, by omega, T2.wd.st, fun a M3 ha S3 f3 => ?_⟩
        have T3 := T2.dr S3 f3
        have hea := List.getElem?_eq_getElem ha
        generalize es[a] = ej at hea
        have tea := T3.es_ _ (List.mem_of_getElem? hea)
        obtain ⟨c1, r1, gg1, tt1, sp1, hE1, tc1, tr1, tg1, tt1'⟩ := T3.hp.envR tea
        obtain ⟨dsr, hR, hzr, HR⟩ := T3.hp.pushL (x := cl) tt1' hcn
        have T4 := T3.put tt1' HR
        walk_at "st"
        refine ⟨_, map_get hea, ?_⟩
        walk_at "st"
        refine ⟨_, _, _, rfl, hE1, rfl, ?_⟩
        walk_at "st"
        refine ⟨⟨_, .ref hR⟩, ?_⟩
        walk_at "st"
        refine ⟨_, _, rfl, hR, by rw [sizeLine_eq]; omega, ?_⟩
        revert T4
        generalize mupd M3 tt1 (.lst (dsr ++ [N cl])) = M4
        intro T4
        obtain ⟨ys, hys, hyl, hyo⟩ := T4.sc
        have hya := List.getElem?_eq_getElem (show a < ys.length by omega)
        generalize ys[a] = y at hya
        have hy := hyo y (List.mem_of_getElem? hya)
        obtain ⟨its, Ly, hits, hitl⟩ := T4.its hy (by omega)
        walk_at "st"
        refine ⟨_, _, hys, atI_nat hya, ?_⟩
        walk_at "st"
        refine ⟨_, _, rfl, sa, ca, 3, rfl, rfl, by decide, by decide, T4.wd.st, fun k M5 hk S5 f5 => ?_⟩
        have T5 := T4.dr S5 f5
        have Ly5 := Ly.frR (f5.frR (by simp) (by simp))
        have hys5 := f5 _ _ (fun z => T4.sR (by rw [z]; simp)) (fun z => T4.sR (by rw [z]; simp)) hys
        walk_at "st"
        refine ⟨by omega, ⟨by omega, ?_⟩⟩
        rw [Int.toNat_natCast]
        intro p hp
        obtain ⟨p0, pR, pt, psc⟩ := T5.free hp
        rw [intsD_map]
        refine lc_map (G := fun _ => True) (List.range k) N (fun _ => true) (fun _ => (Itm.io false false cl).d) (by rw [sizeLine_eq, List.length_range]; omega) (by exact fun _ => trivial) (fun u hu acc Ky Kn hh => ?_) ?_
        · walk_at "st"
          exact hh
        rw [filter_all]
        simp only [del_upd hp]
        have T6z : Ms sa ca wa sca M0 es g τ _ Lp Ls _ M5 := T5
        have hlk : (List.map (fun _ => (Itm.io false false cl).d) (List.range k)).length = k := by rw [List.length_map, List.length_range]
        have sz : (its.map Itm.d).length + (List.map (fun _ => (Itm.io false false cl).d) (List.range k)).length ≤ sizeLine := by rw [hlk, List.length_map, sizeLine_eq]; omega
        have ny : ScD τ g.u.c g.C (Lz + 2 * v.gs.length + 2 * (i + 1)) (.lst (its.map Itm.d ++ List.map (fun _ => (Itm.io false false cl).d) (List.range k))) := by
          refine .inr ⟨its ++ (List.range k).map (fun _ => .io false false cl), by rw [List.map_append, List.map_map]; rfl, fun u hu => ?_, by rw [List.length_append, List.length_map, List.length_range]; omega⟩
          rcases List.mem_append.mp hu with hu | hu
          · exact hits u hu
          · obtain ⟨_, _, rfl⟩ := List.mem_map.mp hu
            exact ⟨rfl, hcn⟩
        have nz := (T5.mono (L' := _) (Nat.le_refl _) (show Lz + 2 * v.gs.length + 2 * i ≤ Lz + 2 * v.gs.length + 2 * (i + 1) by omega)).scr (i := a) hys5 ny
        have goal : nx [some (.ref sa), some (.ref ea), some (.lst (es.map D.ref)), some (.ref sca), x4, some (N a), x6, some (N cl)] (mupd M5 sca (.lst (ys.set a (.lst (its.map Itm.d ++ List.map (fun _ => (Itm.io false false cl).d) (List.range k)))))) := hnx _ _ ⟨_, _, _, _, rfl, nz⟩
        have ixa := ixN_nat (n := ys.length) (t := a) (by omega)
        rcases hy with ⟨ya, rfl, _⟩ | ⟨_, rfl, _⟩
        · exact ⟨_, _, Ly5.isL, .lst, sz, _, _, _, a, rfl, rfl, hys5, ixa, goal⟩
        · exact ⟨_, _, Ly5.isL, .lst, sz, _, _, _, a, rfl, rfl, hys5, ixa, goal⟩
      · rintro σ T6m ⟨x4, x5, x6, x7, rfl, T7⟩
        rw [List.length_map] at T7
        skip
        walk_at "st"
        exact h _ (T7.mono (by omega) (by omega))
end
end Dl
namespace Dl
open PySem PySem.Spec PyProof.Rows L2 Mi
/-- while a par's envs are made -/
structure Me (sa ca wa : Addr) (M0 : Mh) (es : List Addr) (g : Gw) (τ : Addr → Option Ty) (M : Mh) : Prop where
  hp : HeapOk (Rg sa ca wa g) M0 g.u.c g.C 2 0 0 τ M
  wd : WdAt sa ca wa g M
  fr : FrR (Rg sa ca wa g) M0 M
  es_ : ∀ e ∈ es, τ e = some .e
section
variable {sa ca wa sca : Addr} {M0 M M' : Mh} {xs es : List Addr} {g : Gw} {τ : Addr → Option Ty} {L Lp Ls Lz L' Lp' Ls' Lz' : Nat}
theorem Me.free (h : Me sa ca wa M0 es g τ M) {p : Addr} (hp : M p = none) : M0 p = none ∧ p ∉ Rg sa ca wa g ∧ τ p = none := by
  have n := h.wd.fresh hp
  refine ⟨?_, n, h.hp.free hp⟩
  cases e : M0 p with
  | none => rfl
  | some o => rw [h.fr _ _ n e] at hp; cases hp
theorem Me.own {p : Addr} {o : MO} (h : Me sa ca wa M0 es g τ M) (e : τ p = none) (h0 : M0 p = none) (hR : p ∉ Rg sa ca wa g) : Me sa ca wa M0 es g τ (mupd M p o) := by
  refine ⟨⟨fun a t e2 => ?_⟩, h.wd.upd hR, h.fr.own h0, h.es_⟩
  obtain ⟨h1, h2, o2, h3, h4⟩ := h.hp.ok a t e2
  exact ⟨h1, h2, o2, by rw [mupd_ne (fun z => by rw [z, e] at e2; cases e2)]; exact h3, h4⟩
theorem Me.del {p : Addr} (h : Me sa ca wa M0 es g τ M) (e : τ p = none) (h0 : M0 p = none) (hR : p ∉ Rg sa ca wa g) : Me sa ca wa M0 es g τ (mdel M p) := by
  refine ⟨⟨fun a t e2 => ?_⟩, h.wd.del hR, h.fr.del h0, h.es_⟩
  obtain ⟨h1, h2, o2, h3, h4⟩ := h.hp.ok a t e2
  exact ⟨h1, h2, o2, by rw [mdel_ne (fun z => by rw [z, e] at e2; cases e2)]; exact h3, h4⟩
theorem Me.env {f ea c r gg t k : Nat} {sp : List (Nat × Nat)} (h : Me sa ca wa M0 es g τ M) (K : NewEnv M M' (g.u.c + k) ea c r gg t f sp) (W : WdAt sa ca wa (g.mc k) M') (F : FrR (Rg sa ca wa g) M M') :
    ∃ τ', Me sa ca wa M0 (es ++ [ea]) (g.mc k) τ' M' ∧ ∀ a o, M a = some o → τ' a = τ a := by
  have h1 : HeapOk (Rg sa ca wa g) M0 (g.u.c + k) g.C 2 0 0 τ M := h.hp.mono (Nat.le_add_right _ _) (Nat.le_refl _) (Nat.le_refl _) (Nat.le_refl _) (Nat.le_refl _)
  obtain ⟨τ', h2, h3, h4, h5⟩ := h1.newEnv F K (fun p hp => (h.free hp).1) (fun p hp => (h.free hp).2.1) (Nat.le_refl _)
  refine ⟨τ', ⟨h2, W, h.fr.trans F, fun e he => ?_⟩, h5⟩
  rcases List.mem_append.mp he with he | he
  · exact h3 _ _ (h.es_ e he)
  · rw [List.mem_singleton.mp he]; exact h4
theorem Me.toMk {p : Addr} (h : Me sa ca wa M0 es g τ M) (hp : M p = none) : Mk sa ca wa p M0 [] es g τ 2 0 0 (mupd M p (.lst [])) := by
  obtain ⟨f0, f1, f2⟩ := h.free hp
  have k := h.own (o := .lst []) f2 f0 f1
  exact ⟨k.hp, k.wd, k.fr, mupd_same, (fun _ h => nomatch h), k.es_, f2, f1, f0⟩
theorem Mk.scr (h : Mk sa ca wa sca M0 xs es g τ L Lp Ls M) {xs' : List Addr} (hx : ∀ x ∈ xs', τ x = some .s) : Mk sa ca wa sca M0 xs' es g τ L Lp Ls (mupd M sca (.lst (xs'.map D.ref))) := by
  refine ⟨⟨fun a t e2 => ?_⟩, h.wd.upd h.sR, h.fr.own h.s0, mupd_same, hx, h.es_, h.ts, h.sR, h.s0⟩
  obtain ⟨h1, h2, o2, h3, h4⟩ := h.hp.ok a t e2
  exact ⟨h1, h2, o2, by rw [mupd_ne (fun z => by rw [z, h.ts] at e2; cases e2)]; exact h3, h4⟩
end
end Dl
namespace Dl
open PySem PySem.Spec PyProof.Rows L2 Mi
local macro_rules | `(tactic| walk_at "dl") => `(tactic| simp only [dRet, dOp, dSl, dV, dNoP, dPart, dLst, dLstM, dCons, dNil, dC, startD, rAdd, rAddM, rIx, rEq, rNe, rII, rII0, rIB0, rMul, rIsN, rNotN, isNon, dNeg, dTest, dAnd, dOr, dNot, dAndV, dOrV, dNotV, dIf, dTup, dFrz, dCB, rLen, rInt1, rAbs1, rMin2, rAll1, dBM, rApp, rExt, rPop0,
  dGet, dPut, dNext, dSeq, dDrop, dIfS, dName, dgNil, dgCons, dgTup, dAsg, dSub, rSet, dPar, dIL, dIT, dIR, dIE, dIZ, dFor, dYes, dCall, dLc, dLcM, dLcF, dPair, dGetT, dInT, dPutT, dNewT, wipeD,
  natsD, isL_lst, isL_ref, seqIn_tup, seqIn_lst, rIn, flatD, eqD, List.all_cons, List.all_nil, List.any_cons, List.any_nil, sizeLine_eq, Nat.reduceLeDiff, Nat.reduceLT, Bool.or_false, Bool.and_true, Bool.true_and, Bool.false_and, Bool.false_or, Bool.or_true, Bool.true_or, Bool.and_false, tupAt, optE, endsOf,
  List.map_cons, List.map_nil, List.length_cons, List.length_nil, List.cons_append, List.nil_append, List.append_nil, List.getElem?_cons_zero, List.getElem?_cons_succ, List.getElem?_nil, List.set_cons_zero, List.set_cons_succ, List.replicate_succ, List.replicate_zero, List.length_append, List.replicate,
  of_sE, String.reduceEq, decide_true, decide_false, Bool.false_eq_true, Bool.not_true, Bool.not_false, reduceIte, exists_eq_left, exists_eq_left', true_and, and_true, if_true, if_false, ite_true, ite_false, Nat.reduceAdd, Nat.reduceSub, Nat.reduceBEq, BEq.rfl, beq_self_eq_true, D.ref.injEq, D.int.injEq, D.str.injEq, D.lst.injEq, D.tup.injEq, List.cons.injEq, exists_and_left, exists_const, and_self])
local macro_rules | `(tactic| walk_at "s0") => `(tactic| (dsimp only [startD, List.length_cons, List.length_nil, List.map_cons, List.map_nil, List.cons_append, List.nil_append, Nat.reduceAdd, Nat.reduceSub, List.replicate_succ, List.replicate_zero]))
local macro_rules | `(tactic| walk_at "st") => `(tactic| ((conv => whnf); (try dsimp only [List.set_cons_zero, List.set_cons_succ]); repeat ((refine ⟨Nat.le_of_ble_eq_true rfl, ?_⟩); (conv => whnf); (try dsimp only [List.set_cons_zero, List.set_cons_succ]))))

section
variable {P : Program} {K : PySem.W.Frag} {mg : Str → Option Value} {w : World} {base : Heap}
def Gw.dl (g : Gw) (m : Nat) : Gw := { g with u := { g.u with l := g.u.l - m } }
abbrev n_law_par : List Str := ["_law_state_here", "_law_env_here", "_law_world", "_law_deep", "_law_many_here", "_law_envs", "_law_k", "_law_scripts", "_law_rows", "_law_thread", "_law_script", "_law_at"]
theorem sc_law_par : FnScope n_law_par ["_law_state_here", "_law_env_here", "_law_world", "_law_deep"] (defScope s_law_par) := ⟨rfl, rfl, rfl, by decide +kernel, rfl, by decide +kernel, by decide +kernel⟩
/-- _law_par; slots 0 _law_state_here, 1 _law_env_here, 2 _law_world, 3 _law_deep, 4 _law_many_here, 5 _law_envs, 6 _law_k, 7 _law_scripts, 8 _law_rows, 9 _law_thread, 10 _law_script, 11 _law_at; cells ['_law_state_here', '_law_world']; calls ['_law_items', '_law_simple', '_law_draw', '_law_faulty', '_law_shared', '_law_meetings', '_law_env'] -/
theorem ok_law_par (B : Bl K mg) (Tx : Txt K mg "_law_par" s_law_par) {lv q : Nat} (hl : 9 ≤ lv) (c_law_draw : Have P w K mg base "_law_draw" ["_law_state_here", "_law_many_here"] 1 spDraw) (c_law_env : Have P w K mg base "_law_env" ["_law_state_here", "_law_world"] 2 spEnv)
    (c_law_meetings : Have P w K mg base "_law_meetings" ["_law_state_here", "_law_world", "_law_scripts", "_law_envs"] 3 spMeet) (c_law_shared : Have P w K mg base "_law_shared" ["_law_state_here", "_law_env_here", "_law_envs", "_law_scripts"] 2 spShared)
    (c_law_faulty : Have P w K mg base "_law_faulty" ["_law_state_here", "_law_script"] 2 spFaulty) (c_law_simple : Have P w K mg base "_law_simple" ["_law_state_here", "_law_env_here"] 9 (spEnvS fun n C s => SOk n C 7 2 2150 s))
    (c_law_items : Have P w K mg base "_law_items" ["_law_state_here", "_law_env_here", "_law_world", "_law_items_here"] lv (spItems q)) :
    Have P w K mg base "_law_par" ["_law_state_here", "_law_env_here", "_law_world", "_law_deep"] (lv + 1) (spPar (q + 1)) := by
  refine have_of Tx sc_law_par (fun _ _ _ _ _ _ us hl => match us, hl with | [_, _, _, _], _ => rfl) len4 fun cdv f A outer s H E hr => ⟨_, (dss_cons (ds_set (i := 4) sc_law_par.nd rfl (Or.inl rfl) (de_callB (call_min_d rfl) rfl B.min (by decide +kernel) (da_cons (de_dget (hu_of hr) (dv 2) (fun _ _ => rfl)) (da_cons (de_op op_add_d de_int (de_callH c_law_draw (hr.mono (by omega)) rfl (da_cons (dv 0) (da_cons de_int da_nil)))) da_nil))))
    (dss_cons (ds_if (dt_cmp op_lt_d (dv 4) de_int (nomark _)) (dss_one (ds_ret (de_tup (da_cons de_str da_nil)))) dss_nil)
    (dss_cons (ds_dput (hu_of hr) (dv 2) (de_op op_sub_d (de_dget (hu_of hr) (dv 2) (fun _ _ => rfl)) (dv 4)))
    (dss_cons (ds_setLc (own := [("_law_k", 6)]) (i := 5) rfl sc_law_par.nd rfl rfl (sw_true rfl rfl rfl (by decide +kernel)) (di_range rfl B.range (da_cons (dv 4) da_nil)) (blkOk_by (N := n_law_par) (sc := defScope s_law_par) (by decide +kernel)) (fun _ _ _ _ _ => (dg_name (i := 6) (by decide) sc_law_par.nd rfl (Or.inl rfl))) (fun _ _ _ _ _ => dts_nil) (fun _ _ _ _ _ => (de_callH c_law_env (hr.mono (by omega)) rfl (da_cons (dv 0) (da_cons (dv 2) da_nil)))))
    (dss_cons (ds_setLcM (own := [("_law_k", 6)]) (i := 7) rfl sc_law_par.nd rfl rfl (sw_true rfl rfl rfl (by decide +kernel)) (di_range rfl B.range (da_cons (dv 4) da_nil)) (blkOk_by (N := n_law_par) (sc := defScope s_law_par) (by decide +kernel)) (fun _ _ _ _ _ => (dg_name (i := 6) (by decide) sc_law_par.nd rfl (Or.inl rfl))) (fun _ _ _ _ _ => dts_nil) (fun _ _ _ _ _ => (de_lstM da_nil)))
    (dss_cons (ds_expr (de_callH c_law_meetings (hr.mono (by omega)) rfl (da_cons (dv 0) (da_cons (dv 2) (da_cons (dv 7) (da_cons (dv 5) da_nil))))))
    (dss_cons (ds_expr (de_callH c_law_shared (hr.mono (by omega)) rfl (da_cons (dv 0) (da_cons (dv 1) (da_cons (dv 5) (da_cons (dv 7) da_nil))))))
    (dss_cons (ds_set (i := 8) sc_law_par.nd rfl (Or.inl rfl) (de_lstM da_nil))
    (dss_cons (ds_for (vs := [6]) PassesOwn.never rfl (di_range rfl B.range (da_cons (dv 4) da_nil)) (dg_name (i := 6) (by decide) sc_law_par.nd rfl (Or.inl rfl)) (dss_cons (ds_set (i := 9) sc_law_par.nd rfl (Or.inl rfl) (de_dget (hu_of hr) (dv 2) (fun _ _ => rfl)))
    (dss_cons (ds_dput (hu_of hr) (dv 2) (de_op op_add_d (dv 9) de_int))
    (dss_cons (ds_set (i := 10) sc_law_par.nd rfl (Or.inl rfl) (de_callH c_law_faulty (hr.mono (by omega)) rfl (da_cons (dv 0) (da_cons (de_ix (dv 7) (dv 6)) da_nil))))
    (dss_cons (ds_if (dt_w (dw_and (dt_cmp op_gt_d (dv 3) de_int (nomark _)) (dw_and1 (dt_cmp (op_eq_d (hu2 hr)) (de_callH c_law_draw (hr.mono (by omega)) rfl (da_cons (dv 0) (da_cons de_int da_nil))) de_int (nomark _))))) (dss_cons (ds_set (i := 11) sc_law_par.nd rfl (Or.inl rfl) (de_callH c_law_draw (hr.mono (by omega)) rfl (da_cons (dv 0) (da_cons (de_op op_add_d (de_callB call_len_d rfl B.len PySem.boot_len (da_cons (dv 10) da_nil)) de_int) da_nil))))
    (dss_one (ds_set (i := 10) sc_law_par.nd rfl (Or.inl rfl) (de_op op_add_d (de_op op_add_d (de_slice (dv 10) do_none (do_some (dv 11))) (de_lst (da_cons (de_tup (da_cons de_str da_nil)) da_nil))) (de_slice (dv 10) (do_some (dv 11)) do_none))))) dss_nil)
    (dss_one (ds_expr (de_bm PySem.F.slot_list_append PySem.F.type_list_append mt_append_d (dv 8) (da_cons (de_tup (da_cons (dv 9) (da_cons (de_tup (da_cons de_str (da_cons (de_op op_add_d (de_callH c_law_items (hr.mono (by omega)) rfl (da_cons (dv 0) (da_cons (de_ix (dv 5) (dv 6)) (da_cons (dv 2) (da_cons (dv 10) da_nil))))) (de_lst (da_cons (de_callH c_law_simple (hr.mono (by omega)) rfl (da_cons (dv 0) (da_cons (de_ix (dv 5) (dv 6)) da_nil))) da_nil))) da_nil))) da_nil))) da_nil)))))))))
    (dss_one (ds_ret (de_tup (da_cons de_str (da_cons (de_frz (dv 8)) da_nil)))))))))))))), ?_⟩
  rintro _ M Q ⟨_, _, _, _, rfl, sa, ca, ea, wa, g, v, k, rfl, rfl, rfl, rfl, hk, hq, W0, E0, hp0, h⟩
  have hs : sa ∈ Rg sa ca wa g := by simp
  have hc : ca ∈ Rg sa ca wa g := by simp
  have hw : wa ∈ Rg sa ca wa g := by simp
  have hl11 := E0.l11
  have hpc : g.u.c ≤ 200 := Gw.pot_c hp0
  walk_at "s0"
  walk_at "st"
  refine ⟨_, _, _, rfl, W0.rc, rfl, ?_⟩
  walk_at "st"
  refine ⟨_, _, rfl, sa, ca, 3, rfl, rfl, by decide, by decide, W0.st, fun n M1 hn S1 f1 => ?_⟩
  have W1 := W0.fr S1 f1
  have F1 : FrR (Rg sa ca wa g) M M1 := f1.frR hs hc
  walk_at "st"
  obtain ⟨m, hm4, hml, em⟩ : ∃ m, m ≤ 4 ∧ m ≤ g.u.l ∧ (if (2 : Int) + ((n : Nat) : Int) < ((g.u.l : Nat) : Int) then (2 : Int) + ((n : Nat) : Int) else ((g.u.l : Nat) : Int)) = ((m : Nat) : Int) := by
    split
    · exact ⟨2 + n, by omega, by omega, by omega⟩
    · exact ⟨g.u.l, by omega, Nat.le_refl _, rfl⟩
  rw [em]
  refine iteP (fun c1 => ?_) (fun c1 => ?_)
  · walk_at "st"
    exact rt_same (h .skip g M1 ParOk.skip W1 F1)
  have hm2 : 2 ≤ m := by omega
  have htb := tb_step hl11 hm2 hml
  have htl := tb_le (l := g.u.l) (by omega)
  walk_at "st"
  refine ⟨_, _, _, rfl, W1.rc, rfl, ?_⟩
  walk_at "st"
  refine ⟨_, _, rfl, W1.rc, by rw [sizeLine_eq]; exact Nat.le_of_ble_eq_true rfl, ?_⟩
  rw [show ((g.u.l : Nat) : Int) - ((m : Nat) : Int) = ((g.u.l - m : Nat) : Int) by omega, show putD g.u.kvs (.inr (Str.ofString "left")) (.int ((g.u.l - m : Nat) : Int)) = (g.dl m).u.kvs from put_l g.u (g.u.l - m)]
  have W2 : WdAt sa ca wa (g.dl m) (mupd M1 wa (.dK (g.dl m).u.kvs)) := W1.put (u' := (g.dl m).u) rfl
  have F2 : FrR (Rg sa ca wa g) M (mupd M1 wa (.dK (g.dl m).u.kvs)) := F1.mem hw
  revert W2 F2
  generalize mupd M1 wa (.dK (g.dl m).u.kvs) = M2
  intro W2 F2
  have I2 : Me sa ca wa M [] (g.dl m) (fun _ => none) M2 := ⟨⟨fun _ _ e => nomatch e⟩, W2, F2, fun _ h => nomatch h⟩
  walk_at "st"
  refine ⟨by omega, ⟨by omega, ?_⟩⟩
  rw [Int.toNat_natCast]
  intro pc hpc
  obtain ⟨pc0, pcR, pct⟩ := I2.free hpc
  have e1 : (g.dl m).u.c = g.u.c := rfl
  refine lc_inv (G := fun _ => True) (fun j acc M' => ∃ (es : List Addr) (τ : Addr → Option Ty) (x : Nat), acc = es.map D.ref ∧ es.length = j ∧ x ≤ 6 * j ∧ τ pc = none ∧ M' pc = some (.lst acc) ∧ Me sa ca wa M es ((g.dl m).mc x) τ M') (fun _ _ _ _ => trivial) ?_ ?_
    ⟨[], fun _ => none, 0, rfl, rfl, Nat.le_refl _, rfl, mupd_same, I2.own rfl pc0 pcR⟩
  · rintro j d acc M3 Ky Kn hd ⟨es, τ, x, rfl, hj, hx, ht, hM3, I3⟩ hy hn
    have hjm : j < m := by
      have := (List.getElem?_eq_some_iff.mp hd).1
      rw [intsD_len] at this
      exact this
    walk_at "st"
    refine ⟨_, _, rfl, sa, ca, wa, (g.dl m).mc x, rfl, rfl, I3.wd, by show g.u.c + x ≤ 900; omega, fun e c r gg t f sp k2 M4 hk2 N4 W4 F4 => ?_⟩
    obtain ⟨τ4, I4, ht4⟩ := I3.env N4 W4 F4
    have hM4 := F4 _ _ pcR hM3
    have ht5 : τ4 pc = none := by rw [ht4 _ _ hM3]; exact ht
    have em : ((g.dl m).mc x).mc k2 = (g.dl m).mc (x + k2) := by
      show (⟨{ g.u with l := g.u.l - m, c := g.u.c + x + k2 }, g.ins, g.outs, g.inn⟩ : Gw) = ⟨{ g.u with l := g.u.l - m, c := g.u.c + (x + k2) }, g.ins, g.outs, g.inn⟩
      rw [Nat.add_assoc]
    rw [em] at I4
    exact hy _ _ hM4 (by rw [sizeLine_eq, List.length_map]; omega) ⟨es ++ [e], τ4, x + k2, by rw [List.map_append]; rfl, by rw [List.length_append, hj]; rfl, by omega, ht5, mupd_same, I4.own ht5 pc0 pcR⟩
  rintro acc M3 ⟨es, τ, x, rfl, hj, hx, ht, hM3, I3⟩
  rw [intsD_len] at hj hx
  refine ⟨hM3, ?_⟩
  have I4 := I3.del ht pc0 pcR
  revert I4
  generalize mdel M3 pc = M4
  intro I4
  walk_at "st"
  refine ⟨by omega, ⟨by omega, ?_⟩⟩
  rw [Int.toNat_natCast]
  intro sca hsca
  refine lc_inv (G := fun _ => True) (fun j acc M' => ∃ (xs : List Addr) (τ2 : Addr → Option Ty), acc = xs.map D.ref ∧ xs.length = j ∧ Mk sa ca wa sca M xs es ((g.dl m).mc x) τ2 2 0 0 M') (fun _ _ _ _ => trivial) ?_ ?_ ⟨[], τ, rfl, rfl, I4.toMk hsca⟩
  · rintro j d acc M5 Ky Kn hd ⟨xs, τ2, rfl, hj2, K5⟩ hy hn
    have hjm : j < m := by
      have := (List.getElem?_eq_some_iff.mp hd).1
      rw [intsD_len] at this
      exact this
    walk_at "st"
    intro p hp
    have K6 := K5.new (t := .s) (o := .lst []) hp ⟨[], rfl, (fun _ h => nomatch h), Nat.zero_le _⟩
    have K7 := K6.scr (xs' := xs ++ [p]) fun y hy' => by
      rcases List.mem_append.mp hy' with hy' | hy'
      · exact K6.xs_ y hy'
      · rw [List.mem_singleton.mp hy']; exact tins_same
    rw [List.map_append] at K7
    exact hy _ _ K6.sc (by rw [sizeLine_eq, List.length_map]; omega) ⟨xs ++ [p], _, by rw [List.map_append]; rfl, by rw [List.length_append, hj2]; rfl, K7⟩
  rintro acc M5 ⟨xs, τ2, rfl, hj2, K5⟩
  rw [intsD_len] at hj2
  refine ⟨K5.sc, ?_⟩
  walk_at "st"
  refine ⟨_, _, _, _, rfl, sa, ca, wa, sca, M, xs, es, (g.dl m).mc x, τ2, 2, rfl, rfl, rfl, rfl, by omega, by omega, by omega, K5, by omega, by show g.u.c + x ≤ 800; omega, fun τ3 g3 M6 m3 G3 K6 => ?_⟩
  have gl : g3.u.l = g.u.l - m := G3.l
  have gi' : g3.u.i = g.u.i := G3.i
  have gt : g3.u.t = g.u.t := G3.t
  have gc1 : g.u.c + x ≤ g3.u.c := G3.c1
  have gc2 : g3.u.c ≤ g.u.c + x + 12 := G3.c2
  have Sg : Stp g g3 := ⟨by omega, by omega, by omega, by omega, G3.n, G3.ins, G3.outs, G3.cha, G3.al, G3.lo⟩
  have eR3 := Rg_eq (sa := sa) (ca := ca) (wa := wa) Sg
  have gp : g3.pot ≤ g.pot := by simp only [Gw.pot]; omega
  have gp2 : g3.pot ≤ 200 := Nat.le_trans gp hp0
  have gc3 := Gw.pot_c gp2
  walk_at "st"
  refine ⟨_, _, _, _, rfl, sa, ca, wa, sca, ea, M, es, g3, τ3, 20, 18, 240, 240, tb g.u.l, v, rfl, rfl, rfl, rfl, by omega, by omega, K6.ms (by omega), by rw [eR3]; exact E0.at_, E0.ok.mono Sg.c Sg.C (by omega), E0.lc, E0.lg, E0.lt, by omega, by omega, by omega, by omega, fun M7 T7 => ?_⟩
  walk_at "st"
  intro pr hpr
  obtain ⟨pr0, prR, prt, prs⟩ := T7.free hpr
  rw [eR3] at prR
  have F7 : FrR (Rg sa ca wa g) M M7 := by have := T7.fr; rw [eR3] at this; exact this
  walk_at "st"
  refine ⟨by omega, ⟨by omega, ?_⟩⟩
  rw [Int.toNat_natCast]
  have H7 : HeapOk (Rg sa ca wa g) M g3.u.c g3.C (20 + 7 * tb g.u.l) 18 240 τ3 M7 := by have := T7.hp; rw [eR3] at this; exact this
  obtain ⟨ys, hys, hyl, hyo⟩ := T7.sc
  have sR : sca ∉ Rg sa ca wa g := by have := T7.sR; rw [eR3] at this; exact this
  have prsc : pr ≠ sa ∧ pr ≠ ca ∧ pr ≠ wa := by
    have := prR
    simp only [Rg, List.mem_cons, not_or] at this
    exact ⟨this.1, this.2.1, this.2.2.1⟩
  have hr12 : k + 1 = 1 ∨ k + 1 = 2 := by omega
  refine loop_by (fun i σ M' => ∃ gi rows x6 x9 x10 x11, σ = [some (.ref sa), some (.ref ea), some (.ref wa), some (N k), some (N m), some (.lst (es.map D.ref)), x6, some (.ref sca), some (.ref pr), x9, x10, x11] ∧ RowsIn (k + 1) g3 gi i rows ∧
    M' pr = some (.lst (rows.map brD)) ∧ WdAt sa ca wa gi M' ∧ FrR (Rg sa ca wa g) M7 M') (fun _ _ _ _ _ => trivial) ?_ ?_ ⟨g3, [], _, _, _, _, rfl, .nil, mupd_same, T7.wd.upd (by rw [eR3]; exact prR), FrR.refl.new hpr⟩
  · rintro i d σ M8 nx hd ⟨gi, rows, x6, x9, x10, x11, rfl, R8, hM8, W8, F8⟩ hnx
    have him : i < m := by
      have := (List.getElem?_eq_some_iff.mp hd).1
      rw [intsD_len] at this
      exact this
    have ed : d = N i := by
      rw [intsD_map, List.getElem?_map, List.getElem?_range him] at hd
      exact (Option.some.inj hd).symm
    subst ed
    have hei := List.getElem?_eq_getElem (show i < es.length by omega)
    generalize es[i] = ei at hei
    have tei := T7.es_ _ (List.mem_of_getElem? hei)
    obtain ⟨vi, Ei, Vi, vc, vg, vt⟩ := H7.env tei (by omega) (by omega)
    have hyi := List.getElem?_eq_getElem (show i < ys.length by omega)
    generalize ys[i] = y at hyi
    obtain ⟨its, Ly, hits, hitl⟩ := T7.its (hyo y (List.mem_of_getElem? hyi)) (by omega)
    rw [eR3] at Ly
    have hit7 : ∀ u ∈ its, ItmOk (Rg sa ca wa g) M7 g3.u.c g3.C 1 u := fun u hu => H7.itm (hits u hu) (by omega)
    have Si : Stp g gi := Sg.trans R8.stp
    have eRi := Rg_eq (sa := sa) (ca := ca) (wa := wa) Si
    walk_at "st"
    refine ⟨_, _, _, rfl, W8.rc, rfl, ?_⟩
    walk_at "st"
    refine ⟨_, _, rfl, W8.rc, by rw [sizeLine_eq]; exact Nat.le_of_ble_eq_true rfl, ?_⟩
    rw [show putD gi.u.kvs (.inr (Str.ofString "threads")) (.int ((gi.u.t : Int) + 1)) = gi.it.u.kvs from put_t gi.u (gi.u.t + 1)]
    have W9 : WdAt sa ca wa gi.it (mupd M8 wa (.dK gi.it.u.kvs)) := W8.put (u' := gi.it.u) rfl
    have F9 : FrR (Rg sa ca wa g) M7 (mupd M8 wa (.dK gi.it.u.kvs)) := F8.mem hw
    have hM9 : mupd M8 wa (.dK gi.it.u.kvs) pr = some (.lst (rows.map brD)) := by rw [mupd_ne prsc.2.2]; exact hM8
    revert W9 F9 hM9
    generalize mupd M8 wa (.dK gi.it.u.kvs) = M9
    intro W9 F9 hM9
    walk_at "st"
    refine ⟨_, _, F9 _ _ sR hys, atI_nat hyi, ?_⟩
    walk_at "st"
    refine ⟨_, _, rfl, sa, ca, Rg sa ca wa g, its.map Itm.d, rfl, hs, hc, Ly.frR F9, by rw [List.length_map]; omega, W9.st, fun y2 es2 Ma hy2 hsub hlen Sa fa => ?_⟩
    have Wa := W9.fr Sa fa
    have Fa := F9.trans (fa.frR hs hc)
    have hMa := fa _ _ prsc.1 prsc.2.1 hM9
    have Ly2 : LstAt (Rg sa ca wa g) Ma y2 es2 := by
      rcases hy2 with e | ⟨e, e2⟩
      · exact .inl e
      · rw [e, e2]; exact Ly.frR Fa
    obtain ⟨its2, e2, hsub2⟩ := map_sub hsub
    subst e2
    rw [List.length_map, List.length_map] at hlen
    have hit2 : ∀ u ∈ its2, ItmOk (Rg sa ca wa g) M7 g3.u.c g3.C 1 u := fun u hu => hit7 u (hsub2 u hu)
    have up2 : ∀ u ∈ its2, ItmOk (Rg sa ca wa g) M7 g3.u.c g3.C (k + 1) u := fun u hu => (hit2 u hu).up (by omega) (by omega)
    refine iteP (fun c2 => ?_) (fun c2 => ?_)
    case' _ =>
      walk_at "st"
      refine ⟨_, _, rfl, sa, ca, 3, rfl, rfl, by decide, by decide, Wa.st, fun z Mc hz Sc fc => ?_⟩
      have Wc := Wa.fr Sc fc
      have Fc := Fa.trans (fc.frR hs hc)
      have hMc := fc _ _ prsc.1 prsc.2.1 hMa
      have Lyc := Ly2.frR (fc.frR hs hc)
      walk_at "st"
      refine iteP (fun c3 => ?_) (fun c3 => ?_)
      case' _ =>
        have hk1 : k = 1 := by omega
        have Lyc2 := Lyc
        rcases Lyc with rfl | ⟨a2, rfl, na2, ea2⟩
        all_goals
          walk_at "st"
          refine ⟨_, Lyc2.isL, ?_⟩
          rw [List.length_map]
          walk_at "st"
          rw [show ((its2.length : Nat) : Int) + 1 = ((its2.length + 1 : Nat) : Int) by omega]
          refine ⟨_, _, rfl, sa, ca, its2.length + 1, rfl, rfl, by omega, by omega, Sc, fun at_ Md ha Sd fd => ?_⟩
          have Wb := Wc.fr Sd fd
          have Fb := Fc.trans (fd.frR hs hc)
          have hMb := fd _ _ prsc.1 prsc.2.1 hMc
          have Lyd := Lyc2.frR (fd.frR hs hc)
          have e1c : cutD (its2.map Itm.d) none (some ((at_ : Nat) : Int)) = (its2.map Itm.d).take at_ := cut_lo _ at_
          have e2c : cutD (its2.map Itm.d) (some ((at_ : Nat) : Int)) none = (its2.map Itm.d).drop at_ := cut_hi _ at_
          have l1 : (its2.take at_).length ≤ its2.length := by rw [List.length_take]; omega
          have l2 : (its2.drop at_).length ≤ its2.length := by rw [List.length_drop]; omega
          obtain ⟨its3, eits⟩ : ∃ its3, its3 = its2.take at_ ++ [.nest] ++ its2.drop at_ := ⟨_, rfl⟩
          have hit3 : ∀ u ∈ its3, ItmOk (Rg sa ca wa g) M7 g3.u.c g3.C (k + 1) u := by
            intro u hu
            rw [eits] at hu
            rcases List.mem_append.mp hu with hu | hu
            · rcases List.mem_append.mp hu with hu | hu
              · exact up2 u (List.mem_of_mem_take hu)
              · rw [List.mem_singleton.mp hu]; show 2 ≤ k + 1; omega
            · exact up2 u (List.mem_of_mem_drop hu)
          have hlen3 : its3.length ≤ 600000 := by
            rw [eits, List.length_append, List.length_append, List.length_singleton]; omega
          walk_at "st"
          refine ⟨_, Lyd.isL, ?_⟩
          rw [e1c]
          walk_at "st"
          refine ⟨_, _, .lst, .lst, by rw [sizeLine_eq, List.length_take, List.length_map, List.length_singleton]; omega, ?_⟩
          walk_at "st"
          refine ⟨_, Lyd.isL, ?_⟩
          rw [e2c]
          walk_at "st"
          refine ⟨_, _, .lst, .lst, by rw [sizeLine_eq, List.length_append, List.length_take, List.length_drop, List.length_map, List.length_singleton]; omega, ?_⟩
          walk_at "st"
          have Ly3 : LstAt (Rg sa ca wa g) Md (.lst ((its2.map Itm.d).take at_ ++ [.tup [.str (Str.ofString "nest")]] ++ (its2.map Itm.d).drop at_)) (its3.map Itm.d) := .inl (by rw [eits, List.map_append, List.map_append, List.map_take, List.map_drop]; rfl)
          revert Ly3 Wb Fb hMb
          generalize Md = Mb
          generalize D.lst ((its2.map Itm.d).take at_ ++ [.tup [.str (Str.ofString "nest")]] ++ (its2.map Itm.d).drop at_) = y3
          intro Wb Fb hMb Ly3
      rotate_left
      rotate_left
      case' _ =>
        walk_at "st"
        obtain ⟨its3, eits⟩ : ∃ its3, its3 = its2 := ⟨_, rfl⟩
        have hit3 : ∀ u ∈ its3, ItmOk (Rg sa ca wa g) M7 g3.u.c g3.C (k + 1) u := by rw [eits]; exact up2
        have hlen3 : its3.length ≤ 600000 := by rw [eits]; omega
        have Wb := Wc
        have Fb := Fc
        have hMb := hMc
        have Ly3 : LstAt (Rg sa ca wa g) Mc y2 (its3.map Itm.d) := by rw [eits]; exact Lyc
        revert Wb Fb hMb Ly3
        generalize Mc = Mb
        generalize y2 = y3
        intro Wb Fb hMb Ly3
    rotate_left
    rotate_left
    rotate_left
    case' _ =>
      walk_at "st"
      obtain ⟨its3, eits⟩ : ∃ its3, its3 = its2 := ⟨_, rfl⟩
      have hit3 : ∀ u ∈ its3, ItmOk (Rg sa ca wa g) M7 g3.u.c g3.C (k + 1) u := by rw [eits]; exact up2
      have hlen3 : its3.length ≤ 600000 := by rw [eits]; omega
      have Wb := Wa
      have Fb := Fa
      have hMb := hMa
      have Ly3 : LstAt (Rg sa ca wa g) Ma y2 (its3.map Itm.d) := by rw [eits]; exact Ly2
      revert Wb Fb hMb Ly3
      generalize Ma = Mb
      generalize y2 = y3
      intro Wb Fb hMb Ly3
    all_goals
      have Sit : Stp gi gi.it := ⟨Nat.le_refl _, Nat.le_refl _, Nat.le_refl _, Nat.le_succ _, Nat.le_refl _, rfl, rfl, rfl, rfl, rfl⟩
      have hR8 := R8.pot
      have hit0 : gi.it.pot ≤ 200 := by show gi.pot ≤ 200; omega
      have lgi := R8.stp.l
      have eIt : Rg sa ca wa gi.it = Rg sa ca wa g := eRi
      have tbm : tb g3.u.l ≤ tb gi.u.l := tb_mono lgi
      have Eb : EnvIn (Rg sa ca wa g) Mb ei gi.it vi := ⟨Ei.frR Fb, Vi.mono (R8.stp.trans Sit).c (R8.stp.trans Sit).C (by have := Gw.pot_c hit0; omega), by show vi.cs.length ≤ tb gi.u.l; rw [gl] at tbm; omega, by show vi.gs.length ≤ tb gi.u.l; rw [gl] at tbm; omega, by show vi.ts.length ≤ tb gi.u.l; rw [gl] at tbm; omega, by show gi.u.l ≤ 11; omega⟩
      refine ⟨⟨_, .ref hMb⟩, ?_⟩
      walk_at "st"
      refine ⟨_, map_get hei, ?_⟩
      walk_at "st"
      refine ⟨_, _, _, _, rfl, sa, ca, ei, wa, gi.it, vi, its3, k + 1, rfl, rfl, rfl, by rw [eIt]; exact Ly3, by omega, .inr (by show gi.u.l + 3 ≤ q; omega), fun u hu => by rw [eIt]; exact (hit3 u hu).mono Fb (R8.stp.trans Sit).c (R8.stp.trans Sit).C, Wb, by rw [eIt]; exact Eb, hit0, fun l g' Me Le We Fe => ?_⟩
      rw [eIt] at Fe
      have Se := (Si.trans Sit).trans Le.stp
      have hpe : g'.pot ≤ 200 := Nat.le_trans Le.pot hit0
      have Ee := Eb.go Fe Le.stp hpe
      have eRe := Rg_eq (sa := sa) (ca := ca) (wa := wa) Se
      have hle := Le.len hit0
      walk_at "st"
      refine ⟨_, map_get hei, ?_⟩
      walk_at "st"
      refine ⟨_, _, rfl, sa, ca, ei, _, vi, g'.u.c, g'.C, rfl, rfl, We.st, hs, hc, Ee.at_, Ee.ok, fun s Mf hs7 Sf ff => ?_⟩
      have Wf := We.fr Sf ff
      have Ff := (Fb.trans Fe).trans (ff.frR hs hc)
      have hMf := ff _ _ prsc.1 prsc.2.1 (Fe _ _ prR hMb)
      walk_at "st"
      refine ⟨_, _, .lst, .lst, by rw [sizeLine_eq, List.length_map, List.length_singleton]; omega, ?_⟩
      walk_at "st"
      have hrl := R8.len
      refine ⟨_, _, rfl, hMf, by rw [sizeLine_eq, List.length_map]; omega, ?_⟩
      refine hnx _ _ ⟨g', rows ++ [(gi.u.t, .seq (l ++ [s]))], _, _, _, _, rfl, R8.step Le hs7 (by omega), ?_, Wf.upd (by rw [eRe]; exact prR), fun x mo n e => ?_⟩
      · rw [mupd_same, List.map_append]
        show _ = some (MO.lst (rows.map brD ++ [.tup [N gi.u.t, .tup [S "seq", .lst (stmsD (l ++ [s]))]]]))
        rw [stmsD_map, List.map_append]
        rfl
      · rw [mupd_ne (fun z => by rw [z, hpr] at e; cases e)]
        exact Ff x mo n e
  · rintro σ M8 ⟨gi, rows, x6, x9, x10, x11, rfl, R8, hM8, W8, F8⟩
    rw [intsD_len] at R8
    walk_at "st"
    refine ⟨_, hM8, ?_⟩
    have ed : (Stm.par rows).d = .tup [S "par", .lst (rows.map brD)] := by rw [← brsD_map]; rfl
    have fin := h (.par rows) gi (mdel M8 pr) (R8.par hr12 Sg (by omega) gt gi' gp hm2 hm4) (W8.del (by rw [Rg_eq (Sg.trans R8.stp)]; exact prR)) ((F7.trans F8).del pr0)
    rw [ed] at fin
    walk_at "st"
    exact rt_same fin
end
end Dl
namespace Dl
open PySem PySem.Spec PyProof.Rows L2 Mi
/-! ### a core's body -/
structure BodyOk (g0 g : Gw) (a b : Nat) (l : List Stm) : Prop where
  wf : swf g.u.c g.u.t g.C l
  cnt : g.u.t = 1 + cnts l
  tl : g.u.t + g.u.l = 12
  pot : g.pot ≤ g0.pot
  work : works l + pw 2 g ≤ pw 2 g0 + a
  wt : wts l + pt 2 g ≤ pt 2 g0 + b
  dep : deps l ≤ 31
  stp : Stp g0 g
theorem BodyOk.mono {g0 g : Gw} {a b a' b' : Nat} {l : List Stm} (h : BodyOk g0 g a b l) (h1 : a ≤ a') (h2 : b ≤ b') : BodyOk g0 g a' b' l :=
  { h with work := Nat.le_trans h.work (Nat.add_le_add_left h1 _), wt := Nat.le_trans h.wt (Nat.add_le_add_left h2 _) }
theorem BodyOk.plain {g0 g : Gw} {a b : Nat} {l : List Stm} {s : Stm} (h : BodyOk g0 g a b l) (k : SOk g.u.c g.C 7 2 2150 s) : BodyOk g0 g (a + 7) (b + 2152) (l ++ [s]) := by
  obtain ⟨k1, k2, k3, k4, k5⟩ := k
  have h1 := h.cnt
  have h2 := h.work
  have h3 := h.wt
  have h4 := h.dep
  refine ⟨swf_app h.wf ⟨k1 _, trivial⟩, ?_, h.tl, h.pot, ?_, ?_, ?_, h.stp⟩
  · rw [cnts_app]; simp only [cnts]; omega
  · rw [works_app]; simp only [works]; omega
  · rw [wts_app]; simp only [wts]; omega
  · rw [deps_app]; simp only [deps]; omega
theorem BodyOk.par {g0 g g' : Gw} {a b : Nat} {l : List Stm} {s : Stm} (h : BodyOk g0 g a b l) (k : ParOk 2 g g' s) (hl : g.u.l ≤ 11) : BodyOk g0 g' (a + 1) (b + 62) (l ++ [s]) := by
  have k1 := k.cnt
  have k2 := k.work
  have k3 := k.wt
  have k4 := k.dep
  have k5 := k.tl
  have k6 := k.pot
  have h1 := h.cnt
  have h2 := h.work
  have h3 := h.wt
  have h4 := h.dep
  have h5 := h.tl
  have h6 := h.pot
  simp only [db] at k4
  refine ⟨swf_app (swf_mono k.stp.c k.stp.t k.stp.C _ h.wf) ⟨k.wf, trivial⟩, ?_, by omega, by omega, ?_, ?_, ?_, h.stp.trans k.stp⟩
  · rw [cnts_app]; simp only [cnts]; omega
  · rw [works_app]; simp only [works]; omega
  · rw [wts_app]; simp only [wts]; omega
  · rw [deps_app]; simp only [deps]; omega
def BodyOk.core {g0 g : Gw} {a b : Nat} {l : List Stm} (h : BodyOk g0 g a b l) (ha : a ≤ 100) (hb : b ≤ 20000) (hl : g0.u.l = 11) (hi : g0.u.i = if g0.u.lo = true then 14 else 30) (hp : g0.pot ≤ 200) (hC : g.C ≤ 24) (hin : g.ins ≤ 10) : CoreOk ⟨g.u.c, g.ks, .seq l⟩ := by
  have h1 := h.cnt
  have h2 := h.work
  have h3 := h.wt
  have h4 := h.dep
  have h5 := h.tl
  have h6 := h.pot
  have e1 : (Stm.seq l).cnt = cnts l := rfl
  have e2 : g.ks.length = g.C := g.ks_len
  have hc : g.u.c ≤ 200 := by simp only [Gw.pot] at h6 hp; omega
  have p1 : pw 2 g0 ≤ 2056 := by
    simp only [pw, hl, hi]
    cases g0.u.lo <;> decide
  have p2 : pt 2 g0 ≤ 13563000 := by
    simp only [pt, hl, hi]
    cases g0.u.lo <;> decide
  refine ⟨g.ins, g.outs, g.inn, rfl, hin, ?_, by dsimp only; omega, by dsimp only; omega, by dsimp only; omega, ?_, ?_, ?_⟩
  · show swf g.u.c (1 + (Stm.seq l).cnt) g.ks.length l
    rw [e1, e2, ← h1]; exact h.wf
  · simp only [Stm.dep]; omega
  · simp only [Stm.work]; omega
  · simp only [Stm.wt]; omega
end Dl
namespace Dl
open PySem PySem.Spec PyProof.Rows L2 Mi
local macro_rules | `(tactic| walk_at "dl") => `(tactic| simp only [dRet, dOp, dSl, dV, dNoP, dPart, dLst, dLstM, dCons, dNil, dC, startD, rAdd, rAddM, rIx, rEq, rNe, rII, rII0, rIB0, rMul, rIsN, rNotN, isNon, dNeg, dTest, dAnd, dOr, dNot, dAndV, dOrV, dNotV, dIf, dTup, dFrz, dCB, rLen, rInt1, rAbs1, rMin2, rAll1, dBM, rApp, rExt, rPop0,
  dGet, dPut, dNext, dSeq, dDrop, dIfS, dName, dgNil, dgCons, dgTup, dAsg, dSub, rSet, dPar, dIL, dIT, dIR, dIE, dIZ, dFor, dYes, dCall, dLc, dLcM, dLcF, dPair, dGetT, dInT, dPutT, dNewT, wipeD,
  natsD, isL_lst, isL_ref, seqIn_tup, seqIn_lst, rIn, flatD, eqD, List.all_cons, List.all_nil, List.any_cons, List.any_nil, sizeLine_eq, Nat.reduceLeDiff, Nat.reduceLT, Bool.or_false, Bool.and_true, Bool.true_and, Bool.false_and, Bool.false_or, Bool.or_true, Bool.true_or, Bool.and_false, tupAt, optE, endsOf,
  List.map_cons, List.map_nil, List.length_cons, List.length_nil, List.cons_append, List.nil_append, List.append_nil, List.getElem?_cons_zero, List.getElem?_cons_succ, List.getElem?_nil, List.set_cons_zero, List.set_cons_succ, List.replicate_succ, List.replicate_zero, List.length_append, List.replicate,
  of_sE, String.reduceEq, decide_true, decide_false, Bool.false_eq_true, Bool.not_true, Bool.not_false, reduceIte, exists_eq_left, exists_eq_left', true_and, and_true, if_true, if_false, ite_true, ite_false, Nat.reduceAdd, Nat.reduceSub, Nat.reduceBEq, BEq.rfl, beq_self_eq_true, D.ref.injEq, D.int.injEq, D.str.injEq, D.lst.injEq, D.tup.injEq, List.cons.injEq, exists_and_left, exists_const, and_self])
local macro_rules | `(tactic| walk_at "s0") => `(tactic| (dsimp only [startD, List.length_cons, List.length_nil, List.map_cons, List.map_nil, List.cons_append, List.nil_append, Nat.reduceAdd, Nat.reduceSub, List.replicate_succ, List.replicate_zero]))
local macro_rules | `(tactic| walk_at "st") => `(tactic| ((conv => whnf); (try dsimp only [List.set_cons_zero, List.set_cons_succ]); repeat ((refine ⟨Nat.le_of_ble_eq_true rfl, ?_⟩); (conv => whnf); (try dsimp only [List.set_cons_zero, List.set_cons_succ]))))

section
variable {P : Program} {K : PySem.W.Frag} {mg : Str → Option Value} {w : World} {base : Heap}
theorem gen_ok (B : Bl K mg) (Ti : Txt K mg "_law_items" s_law_items) (Tp : Txt K mg "_law_par" s_law_par) (c_law_draw : Have P w K mg base "_law_draw" ["_law_state_here", "_law_many_here"] 1 spDraw)
    (c_law_simple : Have P w K mg base "_law_simple" ["_law_state_here", "_law_env_here"] 9 (spEnvS fun n C s => SOk n C 7 2 2150 s)) (c_law_expression : Have P w K mg base "_law_expression" ["_law_state_here", "_law_env_here", "_law_deep"] 7 (spExpr 3))
    (c_law_alt : Have P w K mg base "_law_alt" ["_law_state_here", "_law_env_here", "_law_c"] 10 spAlt) (c_law_target : Have P w K mg base "_law_target" ["_law_state_here", "_law_env_here"] 4 (spEnvE fun n e => e.tgt = true ∧ EOk n 2 98 e))
    (c_law_wrapped : Have P w K mg base "_law_wrapped" ["_law_state_here", "_law_env_here", "_law_world", "_law_part"] 9 spWrapped) (c_law_env : Have P w K mg base "_law_env" ["_law_state_here", "_law_world"] 2 spEnv)
    (c_law_meetings : Have P w K mg base "_law_meetings" ["_law_state_here", "_law_world", "_law_scripts", "_law_envs"] 3 spMeet) (c_law_shared : Have P w K mg base "_law_shared" ["_law_state_here", "_law_env_here", "_law_envs", "_law_scripts"] 2 spShared)
    (c_law_faulty : Have P w K mg base "_law_faulty" ["_law_state_here", "_law_script"] 2 spFaulty) :
    ∀ q, Have P w K mg base "_law_items" ["_law_state_here", "_law_env_here", "_law_world", "_law_items_here"] (q + 10) (spItems q) ∧ Have P w K mg base "_law_par" ["_law_state_here", "_law_env_here", "_law_world", "_law_deep"] (q + 10) (spPar q)
  | 0 => ⟨(have_none Ti (fun _ _ _ _ _ _ us hl => match us, hl with | [_, _, _, _], _ => rfl) fun ds M Q ⟨_, _, _, _, _, _, _, _, _, _, _, _, _, _, _, _, _, _, hq, _⟩ => by rcases hq with ⟨_, h⟩ | h <;> omega).mono (Nat.zero_le _),
      (have_none Tp (fun _ _ _ _ _ _ us hl => match us, hl with | [_, _, _, _], _ => rfl) fun ds M Q ⟨_, _, _, _, _, _, _, _, _, _, _, _, _, _, _, _, _, hq, _⟩ => by omega).mono (Nat.zero_le _)⟩
  | q + 1 => by
    obtain ⟨hi, hp⟩ := gen_ok B Ti Tp c_law_draw c_law_simple c_law_expression c_law_alt c_law_target c_law_wrapped c_law_env c_law_meetings c_law_shared c_law_faulty q
    exact ⟨ok_law_items B Ti (by omega) c_law_draw c_law_simple c_law_expression c_law_alt c_law_target c_law_wrapped hp hi, ok_law_par B Tp (by omega) c_law_draw c_law_env c_law_meetings c_law_shared c_law_faulty c_law_simple hi⟩
theorem put_takes (v : Ev) (y : D) : putD v.kvs (.inr (Str.ofString "takes")) y = ({ v with xt := y } : Ev).kvs := rfl
theorem put_gives (v : Ev) (y : D) : putD v.kvs (.inr (Str.ofString "gives")) y = ({ v with xg := y } : Ev).kvs := rfl
theorem st_new {sa ca p : Addr} {M : Mh} (S : StAt sa ca M) (h : M p = none) : p ≠ sa ∧ p ≠ ca := by
  obtain ⟨⟨cells, seed, m1, m2⟩, _⟩ := S
  exact ⟨fun z => (by rw [z, m1] at h; cases h), fun z => (by rw [z, m2] at h; cases h)⟩
abbrev n_law_core : List Str := ["_law_state_here", "_law_alts", "_law_ins", "_law_outs", "_law_channels", "_law_k", "_law_loops", "_law_world", "_law_env_here", "_law_c", "_law_body"]
theorem sc_law_core : FnScope n_law_core ["_law_state_here", "_law_alts"] (defScope s_law_core) := ⟨rfl, rfl, rfl, by decide +kernel, rfl, by decide +kernel, by decide +kernel⟩
/-- _law_core; slots 0 _law_state_here, 1 _law_alts, 2 _law_ins, 3 _law_outs, 4 _law_channels, 5 _law_k, 6 _law_loops, 7 _law_world, 8 _law_env_here, 9 _law_c, 10 _law_body; cells ['_law_env_here', '_law_ins', '_law_state_here']; calls ['_law_draw', '_law_expression', '_law_simple', '_law_par', '_law_set', '_law_env'] -/
theorem ok_law_core (B : Bl K mg) (Tx : Txt K mg "_law_core" s_law_core) (c_law_draw : Have P w K mg base "_law_draw" ["_law_state_here", "_law_many_here"] 1 spDraw) (c_law_env : Have P w K mg base "_law_env" ["_law_state_here", "_law_world"] 2 spEnv)
    (c_law_simple : Have P w K mg base "_law_simple" ["_law_state_here", "_law_env_here"] 9 (spEnvS fun n C s => SOk n C 7 2 2150 s)) (c_law_expression : Have P w K mg base "_law_expression" ["_law_state_here", "_law_env_here", "_law_deep"] 7 (spExpr 3))
    (c_law_set : Have P w K mg base "_law_set" ["_law_state_here", "_law_env_here"] 8 (spEnvS fun n C s => SOk n C 1 0 604 s)) (c_law_par : Have P w K mg base "_law_par" ["_law_state_here", "_law_env_here", "_law_world", "_law_deep"] 23 (spPar 13)) :
    Have P w K mg base "_law_core" ["_law_state_here", "_law_alts"] 24 spCore := by
  refine have_of Tx sc_law_core (fun _ _ _ _ _ _ us hl => match us, hl with | [_, _], _ => rfl) len2 fun cdv f A outer s H E hr => ⟨_, (dss_cons (ds_set (i := 2) sc_law_core.nd rfl (Or.inr rfl) (de_callH c_law_draw (hr.mono (by omega)) rfl (da_cons (dv 0) (da_cons de_int da_nil))))
    (dss_cons (ds_set (i := 3) sc_law_core.nd rfl (Or.inl rfl) (de_callH c_law_draw (hr.mono (by omega)) rfl (da_cons (dv 0) (da_cons de_int da_nil))))
    (dss_cons (ds_set (i := 4) sc_law_core.nd rfl (Or.inl rfl) (de_op op_addM_d (de_lc (own := [("_law_k", 5)]) rfl sc_law_core.nd (di_range rfl B.range (da_cons (dv 2) da_nil)) (blkOk_by (N := n_law_core) (sc := defScope s_law_core) (by decide +kernel)) (fun _ _ _ _ _ => (dg_name (i := 5) (by decide) sc_law_core.nd rfl (Or.inl rfl))) (fun _ _ _ _ _ => dts_nil) (fun _ _ _ _ _ => de_str)) (de_lc (own := [("_law_k", 5)]) rfl sc_law_core.nd (di_range rfl B.range (da_cons (dv 3) da_nil)) (blkOk_by (N := n_law_core) (sc := defScope s_law_core) (by decide +kernel)) (fun _ _ _ _ _ => (dg_name (i := 5) (by decide) sc_law_core.nd rfl (Or.inl rfl))) (fun _ _ _ _ _ => dts_nil) (fun _ _ _ _ _ => de_str))))
    (dss_cons (ds_set (i := 6) sc_law_core.nd rfl (Or.inl rfl) (de_cmp (op_eq_d (hu2 hr)) (de_callH c_law_draw (hr.mono (by omega)) rfl (da_cons (dv 0) (da_cons de_int da_nil))) de_int (nomark _)))
    (dss_cons (ds_set (i := 7) sc_law_core.nd rfl (Or.inl rfl) (de_disp (pps_one de_int (pps_one de_int (pps_one (de_ifExp (dt_val (dv 6)) de_int de_int) (pps_one de_int (pps_one (dv 4) (pps_one (dv 1) (pps_one (dv 6) pps_end))))))) rfl rfl (fun z => nomatch z) (by decide)))
    (dss_cons (ds_set (i := 8) sc_law_core.nd rfl (Or.inr rfl) (de_callH c_law_env (hr.mono (by omega)) rfl (da_cons (dv 0) (da_cons (dv 7) da_nil))))
    (dss_cons (ds_dput (hu_of hr) (dv 8) (de_lc (own := [("_law_c", 9)]) rfl sc_law_core.nd (di_range rfl B.range (da_cons (dv 2) da_nil)) (blkOk_by (N := n_law_core) (sc := defScope s_law_core) (by decide +kernel)) (fun _ _ _ _ _ => (dg_name (i := 9) (by decide) sc_law_core.nd rfl (Or.inl rfl))) (fun _ _ _ _ _ => dts_nil) (fun _ _ _ _ _ => (dv 9))))
    (dss_cons (ds_dput (hu_of hr) (dv 8) (de_lc (own := [("_law_c", 9)]) rfl sc_law_core.nd (di_range rfl B.range (da_cons (dv 3) da_nil)) (blkOk_by (N := n_law_core) (sc := defScope s_law_core) (by decide +kernel)) (fun _ _ _ _ _ => (dg_name (i := 9) (by decide) sc_law_core.nd rfl (Or.inl rfl))) (fun _ _ _ _ _ => dts_nil) (fun _ _ _ _ _ => (de_op op_add_d (dv 2) (dv 9)))))
    (dss_cons (ds_setLcM (own := [("_law_k", 5)]) (i := 10) rfl sc_law_core.nd rfl rfl (sw_true rfl rfl rfl (by decide +kernel)) (di_range rfl B.range (da_cons (de_callH c_law_draw (hr.mono (by omega)) rfl (da_cons (dv 0) (da_cons de_int da_nil))) da_nil)) (blkOk_by (N := n_law_core) (sc := defScope s_law_core) (by decide +kernel)) (fun _ _ _ _ _ => (dg_name (i := 5) (by decide) sc_law_core.nd rfl (Or.inl rfl))) (fun _ _ _ _ _ => dts_nil) (fun _ _ _ _ _ => (de_callH c_law_set (hr.mono (by omega)) rfl (da_cons (dv 0) (da_cons (dv 8) da_nil)))))
    (dss_cons (ds_for (vs := [5]) PassesOwn.never rfl (di_range rfl B.range (da_cons (de_op op_add_d de_int (de_callH c_law_draw (hr.mono (by omega)) rfl (da_cons (dv 0) (da_cons de_int da_nil)))) da_nil)) (dg_name (i := 5) (by decide) sc_law_core.nd rfl (Or.inl rfl)) (dss_cons (ds_expr (de_bm PySem.F.slot_list_append PySem.F.type_list_append mt_append_d (dv 10) (da_cons (de_callH c_law_par (hr.mono (by omega)) rfl (da_cons (dv 0) (da_cons (dv 8) (da_cons (dv 7) (da_cons de_int da_nil))))) da_nil)))
    (dss_one (ds_expr (de_bm PySem.F.slot_list_append PySem.F.type_list_append mt_append_d (dv 10) (da_cons (de_callH c_law_simple (hr.mono (by omega)) rfl (da_cons (dv 0) (da_cons (dv 8) da_nil))) da_nil))))))
    (dss_cons (ds_for (vs := [9]) PassesOwn.never rfl (di_list (de_dget (hu_of hr) (dv 8) (fun _ _ => rfl))) (dg_name (i := 9) (by decide) sc_law_core.nd rfl (Or.inl rfl)) (dss_one (ds_if (dt_cmp (op_eq_d (hu2 hr)) (de_callH c_law_draw (hr.mono (by omega)) rfl (da_cons (dv 0) (da_cons de_int da_nil))) de_int (nomark _)) (dss_one (ds_expr (de_bm PySem.F.slot_list_append PySem.F.type_list_append mt_append_d (dv 10) (da_cons (de_tup (da_cons de_str (da_cons (dv 9) (da_cons (de_callH c_law_expression (hr.mono (by omega)) rfl (da_cons (dv 0) (da_cons (dv 8) (da_cons de_int da_nil)))) da_nil)))) da_nil)))) dss_nil)))
    (dss_one (ds_ret (de_tup (da_cons de_str (da_cons (de_dget (hu_of hr) (dv 7) (fun _ _ => rfl)) (da_cons (de_frz (de_dget (hu_of hr) (dv 7) (fun _ _ => rfl))) (da_cons (de_tup (da_cons de_str (da_cons (de_frz (dv 10)) da_nil))) da_nil)))))))))))))))))), ?_⟩
  rintro _ M Q ⟨_, _, rfl, sa, ca, al, rfl, rfl, S0, h⟩
  walk_at "s0"
  walk_at "st"
  refine ⟨_, _, rfl, sa, ca, 3, rfl, rfl, by decide, by decide, S0, fun a M1 ha S1 f1 => ?_⟩
  walk_at "st"
  refine ⟨_, _, rfl, sa, ca, 3, rfl, rfl, by decide, by decide, S1, fun b M2 hb S2 f2 => ?_⟩
  walk_at "st"
  refine ⟨by omega, ⟨by omega, ?_⟩⟩
  rw [Int.toNat_natCast, intsD_map]
  intro p1 hp1
  refine lc_map (G := fun _ => True) (List.range a) N (fun _ => true) (fun _ => S "in") (by rw [sizeLine_eq, List.length_range]; omega) (by exact fun _ => trivial) (fun u hu acc Ky Kn hh => ?_) ?_
  · walk_at "st"
    exact hh
  rw [filter_all]
  simp only [del_upd hp1]
  walk_at "st"
  refine ⟨by omega, ⟨by omega, ?_⟩⟩
  rw [Int.toNat_natCast, intsD_map]
  intro p2 hp2
  refine lc_map (G := fun _ => True) (List.range b) N (fun _ => true) (fun _ => S "out") (by rw [sizeLine_eq, List.length_range]; omega) (by exact fun _ => trivial) (fun u hu acc Ky Kn hh => ?_) ?_
  · walk_at "st"
    exact hh
  rw [filter_all]
  simp only [del_upd hp2]
  walk_at "st"
  refine ⟨_, _, .lst, .lst, by rw [sizeLine_eq, List.length_map, List.length_map, List.length_range, List.length_range]; omega, ?_⟩
  intro cha hcha
  have nch := st_new S2 hcha
  have S3 : StAt sa ca (mupd M2 cha (.lst (List.map (fun _ => S "in") (List.range a) ++ List.map (fun _ => S "out") (List.range b)))) := S2.upd nch.1 nch.2
  have hM3 : mupd M2 cha (.lst (List.map (fun _ => S "in") (List.range a) ++ List.map (fun _ => S "out") (List.range b))) cha = some (.lst (List.map (fun _ => S "in") (List.range a) ++ List.map (fun _ => S "out") (List.range b))) := mupd_same
  revert S3 hM3
  generalize mupd M2 cha (.lst (List.map (fun _ => S "in") (List.range a) ++ List.map (fun _ => S "out") (List.range b))) = M3
  intro S3 hM3
  walk_at "st"
  refine ⟨_, _, rfl, sa, ca, 2, rfl, rfl, by decide, by decide, S3, fun z M4 hz S4 f4 => ?_⟩
  have hM4 := f4 _ _ nch.1 nch.2 hM3
  walk_at "st"
  generalize decide ((z : Int) = 0) = lo
  intro wa hwa
  have nwa := st_new S4 hwa
  have nwc : cha ≠ wa := fun z => by rw [z, hwa] at hM4; cases hM4
  obtain ⟨it, eit⟩ : ∃ it : Nat, it = if lo = true then 14 else 30 := ⟨_, rfl⟩
  have hG0 : WdAt sa ca wa ⟨⟨1, 11, it, 0, cha, al, lo⟩, a, b, 0⟩ (mupd (mupd M4 wa (.dK [])) wa (.dK (Wd.kvs ⟨1, 11, it, 0, cha, al, lo⟩))) := by
    refine ⟨(S4.upd nwa.1 nwa.2).upd nwa.1 nwa.2, mupd_same, ?_, nwa.1, nwa.2, nch.1, nch.2, nwc, ?_⟩
    · show mupd _ wa _ cha = _
      rw [mupd_ne nwc, mupd_ne nwc, hM4]
      simp only [Gw.ks, List.map_append, List.map_replicate, List.map_const', List.length_range, List.replicate_zero, List.append_nil]
      rfl
    · show a + (b + 0) ≤ 24
      omega
  obtain ⟨g0, eg0⟩ : ∃ g0 : Gw, g0 = ⟨⟨1, 11, it, 0, cha, al, lo⟩, a, b, 0⟩ := ⟨_, rfl⟩
  have g_t : g0.u.t = 1 := by rw [eg0]
  have g_l : g0.u.l = 11 := by rw [eg0]
  have g_c : g0.u.c = 0 := by rw [eg0]
  have g_in : g0.ins = a := by rw [eg0]
  have g_out : g0.outs = b := by rw [eg0]
  have g_n : g0.inn = 0 := by rw [eg0]
  have g_cha : g0.u.cha = cha := by rw [eg0]
  have g_it : g0.u.i ≤ 30 := by
    rw [eg0]
    dsimp only
    rw [eit]
    split <;> omega
  have g_p : g0.pot ≤ 200 := by
    simp only [Gw.pot]
    omega
  cases lo
  case' _ =>
    walk_at "st"
    refine ⟨mupd_same, Nat.le_of_ble_eq_true rfl, by simp only [List.map_cons, List.map_nil]; decide, ?_⟩
    have W5 : WdAt sa ca wa g0 (mupd (mupd M4 wa (.dK [])) wa (.dK [(.inr (Str.ofString "threads"), .int 1), (.inr (Str.ofString "left"), .int 11), (.inr (Str.ofString "items"), .int 30), (.inr (Str.ofString "cells"), .int 0), (.inr (Str.ofString "channels"), .ref cha), (.inr (Str.ofString "alts"), .bl al), (.inr (Str.ofString "loops"), .bl false)])) := by
      first
        | (have e3 : it = 30 := eit; rw [e3] at hG0; rw [eg0, e3]; exact hG0)
        | (have e3 : it = 14 := eit; rw [e3] at hG0; rw [eg0, e3]; exact hG0)
    have g_i : g0.u.i = if g0.u.lo = true then 14 else 30 := by rw [eg0, eit]
    clear eg0 hG0
    revert W5
    generalize mupd (mupd M4 wa (.dK [])) wa (.dK [(.inr (Str.ofString "threads"), .int 1), (.inr (Str.ofString "left"), .int 11), (.inr (Str.ofString "items"), .int 30), (.inr (Str.ofString "cells"), .int 0), (.inr (Str.ofString "channels"), .ref cha), (.inr (Str.ofString "alts"), .bl al), (.inr (Str.ofString "loops"), .bl false)]) = M5
    intro W5
  rotate_left
  case' _ =>
    walk_at "st"
    refine ⟨mupd_same, Nat.le_of_ble_eq_true rfl, by simp only [List.map_cons, List.map_nil]; decide, ?_⟩
    have W5 : WdAt sa ca wa g0 (mupd (mupd M4 wa (.dK [])) wa (.dK [(.inr (Str.ofString "threads"), .int 1), (.inr (Str.ofString "left"), .int 11), (.inr (Str.ofString "items"), .int 14), (.inr (Str.ofString "cells"), .int 0), (.inr (Str.ofString "channels"), .ref cha), (.inr (Str.ofString "alts"), .bl al), (.inr (Str.ofString "loops"), .bl true)])) := by
      first
        | (have e3 : it = 30 := eit; rw [e3] at hG0; rw [eg0, e3]; exact hG0)
        | (have e3 : it = 14 := eit; rw [e3] at hG0; rw [eg0, e3]; exact hG0)
    have g_i : g0.u.i = if g0.u.lo = true then 14 else 30 := by rw [eg0, eit]
    clear eg0 hG0
    revert W5
    generalize mupd (mupd M4 wa (.dK [])) wa (.dK [(.inr (Str.ofString "threads"), .int 1), (.inr (Str.ofString "left"), .int 11), (.inr (Str.ofString "items"), .int 14), (.inr (Str.ofString "cells"), .int 0), (.inr (Str.ofString "channels"), .ref cha), (.inr (Str.ofString "alts"), .bl al), (.inr (Str.ofString "loops"), .bl true)]) = M5
    intro W5
  all_goals
    have R := W5.st
    walk_at "st"
    refine ⟨_, _, rfl, sa, ca, wa, g0, rfl, rfl, W5, by omega, fun ea c r gg t f sp k M6 hk N6 W6 F6 => ?_⟩
    have eaR := W5.fresh N6.fe
    have hs : sa ∈ Rg sa ca wa g0 := by simp
    have hc : ca ∈ Rg sa ca wa g0 := by simp
    have hea := N6.he
    walk_at "st"
    have nm : ∀ {M' : Mh} {q : Addr}, WdAt sa ca wa (g0.mc k) M' → M' q = none → q ∉ Rg sa ca wa g0 := fun W hq => W.fresh hq
    refine ⟨by omega, ⟨by omega, ?_⟩⟩
    rw [Int.toNat_natCast, intsD_map]
    intro p3 hp3
    refine lc_map (G := fun _ => True) (List.range a) N (fun _ => true) N (by rw [sizeLine_eq, List.length_range]; omega) (by exact fun _ => trivial) (fun u hu acc Ky Kn hh => ?_) ?_
    · walk_at "st"
      exact hh
    rw [filter_all]
    simp only [del_upd hp3]
    walk_at "st"
    refine ⟨_, _, rfl, hea, by rw [sizeLine_eq]; exact Nat.le_of_ble_eq_true rfl, ?_⟩
    rw [put_takes]
    have W7 := W6.upd (p := ea) (o := .dK (Ev.kvs ⟨.ref c, .ref r, .lst (sp.map spanD), .ref gg, .lst ((List.range a).map N), [], [], [], [], []⟩)) eaR
    have F7 := F6.own (p := ea) (o := .dK (Ev.kvs ⟨.ref c, .ref r, .lst (sp.map spanD), .ref gg, .lst ((List.range a).map N), [], [], [], [], []⟩)) N6.fe
    have hea7 : mupd M6 ea (.dK (Ev.kvs ⟨.ref c, .ref r, .lst (sp.map spanD), .ref gg, .lst ((List.range a).map N), [], [], [], [], []⟩)) ea = _ := mupd_same
    have hc7 : mupd M6 ea (.dK (Ev.kvs ⟨.ref c, .ref r, .lst (sp.map spanD), .ref gg, .lst ((List.range a).map N), [], [], [], [], []⟩)) c = some (.lst [N f, N (f + 1)]) := by rw [mupd_ne N6.d7.symm]; exact N6.hc
    have hr7 : mupd M6 ea (.dK (Ev.kvs ⟨.ref c, .ref r, .lst (sp.map spanD), .ref gg, .lst ((List.range a).map N), [], [], [], [], []⟩)) r = some (.lst [N f, N (f + 1)]) := by rw [mupd_ne N6.d8.symm]; exact N6.hr
    revert W7 F7 hea7 hc7 hr7
    generalize mupd M6 ea (.dK (Ev.kvs ⟨.ref c, .ref r, .lst (sp.map spanD), .ref gg, .lst ((List.range a).map N), [], [], [], [], []⟩)) = M7
    intro W7 F7 hea7 hc7 hr7
    walk_at "st"
    refine ⟨by omega, ⟨by omega, ?_⟩⟩
    rw [Int.toNat_natCast, intsD_map]
    intro p4 hp4
    refine lc_map (G := fun _ => True) (List.range b) N (fun _ => true) (fun x => N (a + x)) (by rw [sizeLine_eq, List.length_range]; omega) (by exact fun _ => trivial) (fun u hu acc Ky Kn hh => ?_) ?_
    · walk_at "st"
      exact hh
    rw [filter_all]
    simp only [del_upd hp4]
    walk_at "st"
    refine ⟨_, _, rfl, hea7, by rw [sizeLine_eq]; exact Nat.le_of_ble_eq_true rfl, ?_⟩
    rw [put_gives]
    have W8 := W7.upd (p := ea) (o := (.dK (Ev.kvs ⟨.ref c, .ref r, .lst (sp.map spanD), .lst ((List.range b).map fun x => N (a + x)), .lst ((List.range a).map N), [], [], [], [], []⟩))) eaR
    have F8 := F7.own (p := ea) (o := (.dK (Ev.kvs ⟨.ref c, .ref r, .lst (sp.map spanD), .lst ((List.range b).map fun x => N (a + x)), .lst ((List.range a).map N), [], [], [], [], []⟩))) N6.fe
    have hea8 : mupd M7 ea (.dK (Ev.kvs ⟨.ref c, .ref r, .lst (sp.map spanD), .lst ((List.range b).map fun x => N (a + x)), .lst ((List.range a).map N), [], [], [], [], []⟩)) ea = _ := mupd_same
    have hc8 : mupd M7 ea (.dK (Ev.kvs ⟨.ref c, .ref r, .lst (sp.map spanD), .lst ((List.range b).map fun x => N (a + x)), .lst ((List.range a).map N), [], [], [], [], []⟩)) c = some (.lst [N f, N (f + 1)]) := by rw [mupd_ne N6.d7.symm]; exact hc7
    have hr8 : mupd M7 ea (.dK (Ev.kvs ⟨.ref c, .ref r, .lst (sp.map spanD), .lst ((List.range b).map fun x => N (a + x)), .lst ((List.range a).map N), [], [], [], [], []⟩)) r = some (.lst [N f, N (f + 1)]) := by rw [mupd_ne N6.d8.symm]; exact hr7
    revert W8 F8 hea8 hc8 hr8
    generalize mupd M7 ea (.dK (Ev.kvs ⟨.ref c, .ref r, .lst (sp.map spanD), .lst ((List.range b).map fun x => N (a + x)), .lst ((List.range a).map N), [], [], [], [], []⟩)) = M8
    intro W8 F8 hea8 hc8 hr8
    obtain ⟨v8, ev8⟩ : ∃ v8 : Ev, v8 = ⟨.ref c, .ref r, .lst (sp.map spanD), .lst ((List.range b).map fun x => N (a + x)), .lst ((List.range a).map N), [f, f + 1], [f, f + 1], sp, (List.range b).map (a + ·), List.range a⟩ := ⟨_, rfl⟩
    have g_p1 : (g0.mc k).pot ≤ 200 := by
      simp only [Gw.pot, Gw.mc]
      omega
    have hff : ∀ x ∈ [f, f + 1], x < (g0.mc k).u.c := by
      intro x hx
      have h2 := N6.f2
      show x < g0.u.c + k
      simp only [List.mem_cons, List.not_mem_nil, or_false] at hx
      rcases hx with rfl | rfl <;> omega
    have hCC : (g0.mc k).C = a + b := by
      show g0.ins + (g0.outs + g0.inn) = a + b
      omega
    have tb11 : tb (g0.mc k).u.l = 10 := by
      show tb g0.u.l = 10
      rw [g_l]
      rfl
    have E8 : EnvIn (Rg sa ca wa g0) M8 ea (g0.mc k) v8 := by
      rw [ev8]
      refine ⟨⟨hea8, eaR, .inr ⟨c, rfl, W5.fresh N6.fc, hc8⟩, .inr ⟨r, rfl, W5.fresh N6.fr, hr8⟩, .inl rfl, .inl (by dsimp only; rw [List.map_map]; rfl), .inl rfl⟩, ?_, ?_, ?_, ?_, ?_⟩
      · refine ⟨by simp, hff, hff, by simp, N6.s, fun x hx => ?_, fun x hx => ?_, Nat.le_of_ble_eq_true rfl, Nat.le_of_ble_eq_true rfl, by have := N6.sl; dsimp only; omega, by dsimp only; rw [List.length_map, List.length_range]; omega, by dsimp only; rw [List.length_range]; omega, by show g0.u.c + k ≤ 1000; omega⟩
        · obtain ⟨u, hu, rfl⟩ := List.mem_map.mp hx
          rw [hCC]
          have := List.mem_range.mp hu
          omega
        · rw [hCC]
          have := List.mem_range.mp hx
          omega
      · rw [tb11]; exact Nat.le_of_ble_eq_true rfl
      · rw [tb11]; dsimp only; rw [List.length_map, List.length_range]; omega
      · rw [tb11]; dsimp only; rw [List.length_range]; omega
      · show g0.u.l ≤ 11
        omega
    have kg : v8.xg = .lst ((List.range b).map fun x => N (a + x)) := by rw [ev8]
    clear ev8
    walk_at "st"
    refine ⟨_, _, rfl, sa, ca, 3, rfl, rfl, by decide, by decide, W8.st, fun nb M9 hnb S9 f9 => ?_⟩
    have W9 := W8.fr S9 f9
    have F9 : FrR (Rg sa ca wa g0) M8 M9 := f9.frR hs hc
    walk_at "st"
    refine ⟨by omega, ⟨by omega, ?_⟩⟩
    rw [Int.toNat_natCast]
    intro pb hpb
    have pbR : pb ∉ Rg sa ca wa g0 := W9.fresh hpb
    have hpb8 : M8 pb = none := by
      cases e : M8 pb with
      | none => rfl
      | some o => rw [F9 _ _ pbR e] at hpb; cases hpb
    have pbs : pb ≠ sa ∧ pb ≠ ca ∧ pb ≠ wa := by
      simp only [Rg, List.mem_cons, not_or] at pbR
      exact ⟨pbR.1, pbR.2.1, pbR.2.2.1⟩
    have B0 : BodyOk (g0.mc k) (g0.mc k) 0 0 [] := ⟨trivial, by show g0.u.t = _; rw [g_t]; rfl, by show g0.u.t + g0.u.l = 12; omega, Nat.le_refl _, by simp [works], by simp [wts], by decide, .refl⟩
    refine lc_inv (G := fun _ => True) (fun i acc M' => ∃ l : List Stm, acc = l.map Stm.d ∧ l.length = i ∧ BodyOk (g0.mc k) (g0.mc k) (7 * i) (2152 * i) l ∧ M' pb = some (.lst acc) ∧ WdAt sa ca wa (g0.mc k) M' ∧ FrR (Rg sa ca wa g0) M8 M') (fun _ _ _ _ => trivial) ?_ ?_ ⟨[], rfl, rfl, B0, mupd_same, W9.upd pbR, F9.own hpb8⟩
    · rintro i d acc Ma Ky Kn hd ⟨l, rfl, hli, Bl_, hMa, Wa, Fa⟩ hy hn
      have hin : i < nb := by
        have := (List.getElem?_eq_some_iff.mp hd).1
        rw [intsD_len] at this
        exact this
      have Ea := E8.go Fa .refl g_p1
      walk_at "st"
      refine ⟨_, _, rfl, sa, ca, ea, _, v8, (g0.mc k).u.c, (g0.mc k).C, rfl, rfl, Wa.st, hs, hc, Ea.at_, Ea.ok, fun s Mb hsb Sb fb => ?_⟩
      have Wb := Wa.fr Sb fb
      have hMb := fb _ _ pbs.1 pbs.2.1 hMa
      have up : SOk (g0.mc k).u.c (g0.mc k).C 7 2 2150 s := ⟨hsb.1, by have := hsb.2.1; omega, by have := hsb.2.2.1; omega, hsb.2.2.2.1, by have := hsb.2.2.2.2; omega⟩
      exact hy _ _ hMb (by rw [sizeLine_eq, List.length_map]; omega) ⟨l ++ [s], by rw [List.map_append]; rfl, by rw [List.length_append, hli]; rfl, (Bl_.plain up).mono (by omega) (by omega), mupd_same, Wb.upd pbR, (Fa.trans (fb.frR hs hc)).own hpb8⟩
    rintro acc Ma ⟨l, rfl, hli, Bl_, hMa, Wa, Fa⟩
    rw [intsD_len] at hli Bl_
    have Bl2 := Bl_.mono (a' := 14) (b' := 4304) (by omega) (by omega)
    refine ⟨hMa, ?_⟩
    walk_at "st"
    refine ⟨_, _, rfl, sa, ca, 2, rfl, rfl, by decide, by decide, Wa.st, fun n2 Mb hn2 Sb fb => ?_⟩
    have Wb := Wa.fr Sb fb
    have Fb := Fa.trans (fb.frR hs hc)
    have hMb := fb _ _ pbs.1 pbs.2.1 hMa
    walk_at "st"
    rw [show (1 : Int) + ((n2 : Nat) : Int) = ((1 + n2 : Nat) : Int) by omega]
    refine ⟨by omega, ⟨by omega, ?_⟩⟩
    rw [Int.toNat_natCast]
    refine loop_by (fun i σ M' => ∃ g l x5 x9, σ = [some (.ref sa), some (.bl al), some (N a), some (N b), some (.ref cha), x5, some (.bl _), some (.ref wa), some (.ref ea), x9, some (.ref pb)] ∧ BodyOk (g0.mc k) g (14 + 8 * i) (4304 + 2214 * i) l ∧
      M' pb = some (.lst (l.map Stm.d)) ∧ WdAt sa ca wa g M' ∧ FrR (Rg sa ca wa g0) M8 M') (fun _ _ _ _ _ => trivial) ?_ ?_ ⟨_, l, _, _, rfl, Bl2, hMb, Wb, Fb⟩
    · rintro i d σ Mc nx hd ⟨g, l, x5, x9, rfl, Bc, hMc, Wc, Fc⟩ hnx
      have hin : i < 1 + n2 := by
        have := (List.getElem?_eq_some_iff.mp hd).1
        rw [intsD_len] at this
        exact this
      have hpc : g.pot ≤ 200 := Nat.le_trans Bc.pot g_p1
      have Ec := E8.go Fc Bc.stp hpc
      have eRc : Rg sa ca wa g = Rg sa ca wa g0 := Rg_eq (g := g0.mc k) Bc.stp
      have l11 := Ec.l11
      have hlen : l.length ≤ 40000 := by
        have h1 := Bc.work
        have h2 := works_len l
        have h3 := pw_le (r := 2) g_p1
        omega
      walk_at "st"
      refine ⟨⟨_, .ref hMc⟩, ?_⟩
      walk_at "st"
      refine ⟨_, _, _, _, rfl, sa, ca, ea, wa, g, v8, 1, rfl, rfl, rfl, rfl, by omega, by omega, Wc, by rw [eRc]; exact Ec, hpc, fun s g' Md Pd Wd_ Fd => ?_⟩
      rw [eRc] at Fd
      have hpd : g'.pot ≤ 200 := Nat.le_trans Pd.pot hpc
      have Ed := Ec.go Fd Pd.stp hpd
      have Bd := Bc.par Pd l11
      have eRd : Rg sa ca wa g' = Rg sa ca wa g0 := Rg_eq (g := g0.mc k) Bd.stp
      walk_at "st"
      refine ⟨_, _, rfl, Fd _ _ pbR hMc, by rw [sizeLine_eq, List.length_map]; omega, ?_⟩
      have We : WdAt sa ca wa g' (mupd Md pb (.lst (l.map Stm.d ++ [s.d]))) := Wd_.upd (by rw [eRd]; exact pbR)
      have Fe : FrR (Rg sa ca wa g0) M8 (mupd Md pb (.lst (l.map Stm.d ++ [s.d]))) := (Fc.trans Fd).own hpb8
      have hMe : mupd Md pb (.lst (l.map Stm.d ++ [s.d])) pb = some (.lst ((l ++ [s]).map Stm.d)) := by rw [mupd_same, List.map_append]; rfl
      revert We Fe hMe
      generalize mupd Md pb (.lst (l.map Stm.d ++ [s.d])) = Me_
      intro We Fe hMe
      have Ee := E8.go Fe Bd.stp hpd
      walk_at "st"
      refine ⟨⟨_, .ref hMe⟩, ?_⟩
      walk_at "st"
      refine ⟨_, _, rfl, sa, ca, ea, _, v8, g'.u.c, g'.C, rfl, rfl, We.st, hs, hc, Ee.at_, Ee.ok, fun s2 Mf hsf Sf ff => ?_⟩
      walk_at "st"
      refine ⟨_, _, rfl, ff _ _ pbs.1 pbs.2.1 hMe, by rw [sizeLine_eq, List.length_map, List.length_append, List.length_singleton]; omega, ?_⟩
      refine hnx _ _ ⟨g', (l ++ [s]) ++ [s2], _, _, rfl, (Bd.plain hsf).mono (by omega) (by omega), ?_, (We.fr Sf ff).upd (by rw [eRd]; exact pbR), (Fe.trans (ff.frR hs hc)).own hpb8⟩
      rw [mupd_same, List.map_append (l₁ := l ++ [s])]
      rfl
    · rintro σ Mc ⟨g, l, x5, x9, rfl, Bc, hMc, Wc, Fc⟩
      rw [intsD_len] at Bc
      have Bc2 := Bc.mono (a' := 30) (b' := 8732) (by omega) (by omega)
      have hpc : g.pot ≤ 200 := Nat.le_trans Bc2.pot g_p1
      have Ec := E8.go Fc Bc2.stp hpc
      have eRc : Rg sa ca wa g = Rg sa ca wa g0 := Rg_eq (g := g0.mc k) Bc2.stp
      have erc := Ec.at_.rc
      rw [Ev.kvs, kg] at erc
      walk_at "st"
      refine ⟨_, _, _, rfl, erc, rfl, ?_⟩
      have gC := Wc.C2
      have gin : g.ins = a := by rw [Bc2.stp.ins]; exact g_in
      refine loop_by (fun i σ M' => ∃ l x5 x9, σ = [some (.ref sa), some (.bl al), some (N a), some (N b), some (.ref cha), x5, some (.bl _), some (.ref wa), some (.ref ea), x9, some (.ref pb)] ∧ BodyOk (g0.mc k) g (30 + 7 * i) (8732 + 2152 * i) l ∧
        M' pb = some (.lst (l.map Stm.d)) ∧ WdAt sa ca wa g M' ∧ FrR (Rg sa ca wa g0) M8 M') (fun _ _ _ _ _ => trivial) ?_ ?_ ⟨l, _, _, rfl, Bc2, hMc, Wc, Fc⟩
      · rintro i d σ Md nx hd ⟨l, x5, x9, rfl, Bd, hMd, Wd_, Fd⟩ hnx
        obtain ⟨u, hu, rfl⟩ := List.mem_map.mp (List.mem_of_getElem? hd)
        have hib : i < b := by
          have := (List.getElem?_eq_some_iff.mp hd).1
          rw [List.length_map, List.length_range] at this
          exact this
        have hub := List.mem_range.mp hu
        have hlen : l.length ≤ 40000 := by
          have h1 := Bd.work
          have h2 := works_len l
          have h3 := pw_le (r := 2) g_p1
          omega
        walk_at "st"
        refine ⟨_, _, rfl, sa, ca, 2, rfl, rfl, by decide, by decide, Wd_.st, fun z2 Me_ hz2 Se fe => ?_⟩
        have We := Wd_.fr Se fe
        have Fe := Fd.trans (fe.frR hs hc)
        have hMe := fe _ _ pbs.1 pbs.2.1 hMd
        have Ee := E8.go Fe Bd.stp hpc
        walk_at "st"
        refine iteP (fun c5 => ?_) (fun c5 => ?_)
        · walk_at "st"
          refine ⟨⟨_, .ref hMe⟩, ?_⟩
          walk_at "st"
          refine ⟨_, _, _, rfl, sa, ca, ea, _, v8, g.u.c, g.C, 2, rfl, rfl, rfl, by decide, Se, hs, hc, Ee.at_, Ee.ok, fun e Mf he Sf ff => ?_⟩
          walk_at "st"
          refine ⟨_, _, rfl, ff _ _ pbs.1 pbs.2.1 hMe, by rw [sizeLine_eq, List.length_map]; omega, ?_⟩
          have el : len e.d ≤ 446 := he.2.2
          have gok : SOk g.u.c g.C 7 2 2150 (.give (a + u) e) := by
            have h1 := (Bd.stp.C : (g0.mc k).C ≤ g.C)
            exact ⟨fun T => ⟨by omega, he.1, by have := he.2.1; omega⟩, by simp only [Stm.work]; omega, by simp only [Stm.dep]; omega, rfl, by simp only [Stm.wt]; omega⟩
          refine hnx _ _ ⟨l ++ [.give (a + u) e], _, _, rfl, (Bd.plain gok).mono (by omega) (by omega), ?_, (We.fr Sf ff).upd (by rw [eRc]; exact pbR), (Fe.trans (ff.frR hs hc)).own hpb8⟩
          rw [mupd_same, List.map_append]
          rfl
        · exact hnx _ _ ⟨l, _, _, rfl, Bd.mono (by omega) (by omega), hMe, We, Fe⟩
      · rintro σ Md ⟨l, x5, x9, rfl, Bd, hMd, Wd_, Fd⟩
        rw [List.length_map, List.length_range] at Bd
        have ecg : g.u.cha = cha := by rw [Bc2.stp.cha]; exact g_cha
        walk_at "st"
        refine ⟨_, _, _, rfl, Wd_.rc, rfl, ?_⟩
        walk_at "st"
        refine ⟨_, _, _, rfl, Wd_.rc, rfl, ?_⟩
        walk_at "st"
        refine ⟨_, Wd_.ch, ?_⟩
        walk_at "st"
        have pbc : pb ≠ g.u.cha := fun z => by
          apply pbR
          rw [← eRc, z]
          simp
        refine ⟨_, by rw [mdel_ne pbc]; exact hMd, ?_⟩
        have CO := Bd.core (by omega) (by omega) g_l (by exact g_i) g_p1 gC (by omega)
        have S9 : StAt sa ca (mdel (mdel Md g.u.cha) pb) := by
          obtain ⟨⟨cells, seed, m1, m2⟩, ne⟩ := Wd_.st
          exact ⟨⟨cells, seed, by rw [mdel_ne (Ne.symm pbs.1), mdel_ne (Ne.symm Wd_.n3)]; exact m1, by rw [mdel_ne (Ne.symm pbs.2.1), mdel_ne (Ne.symm Wd_.n4)]; exact m2⟩, ne⟩
        have fin := h _ CO _ S9
        have ed : (Core.d ⟨g.u.c, g.ks, .seq l⟩) = .tup [S "core", N g.u.c, .lst (g.ks.map kindD), .tup [S "seq", .lst (l.map Stm.d)]] := by rw [← stmsD_map]; rfl
        rw [ed] at fin
        walk_at "st"
        exact rt_same fin
end
end Dl
namespace Dl
open PySem PySem.Spec PyProof.Rows L2 Mi
/-! ### the law's own call, where no guard is up -/
/-- the call of a def of the text, at one surrounding -/
theorem enter_at {P : Program} {w : World} {K : PySem.W.Frag} {mg : Str → Option Value} {base : Heap} {a : Addr} {fd : FuncData} {x : Str} {st : Stmt} {nn qs : List Str} {k : Nat} {B : Around} {fr : List Env} {s0 : Shared} {H0 : Hp} {args : List Value} {vals : List V} {Qv : VK} {Ev_ : XK}
    (D : FunD K x x (defArgs st) (defBody st) (defScope st) [] [] a fd) (sc : FnScope nn qs (defScope st)) (hlen : vals.length = qs.length) (room : Room (k + 1) B) (ev : Env0 P w K mg base B fr s0 H0) (bd : BindsTo s0 fd ⟨args, []⟩ (qs.zip args)) (rl : Vals vals args)
    (go : ∀ code : Value, ∃ t, PSs (cxOf CX0 P w K mg base nn x (defScope st) a code B fr s0 H0 Ev_) (defBody st) t ∧ t { nx := fun _ H' => Qv .non H', rt := Qv } (L2.start nn vals) H0) :
    codeAny (model P w) B (.call (.ref a) ⟨args, []⟩) (CR CX0 fr P w H0 s0 Qv Ev_) s0 := by
  obtain ⟨_, _, _, _, _, _, _, code, _, _, rfl, at_, ci, _, _⟩ := D.ex
  obtain ⟨t, ht, hw⟩ := go code
  have up : ∀ b o, base.get? b = some o → s0.heap.get? b = some o := fun b o e => (ev.bs b o e).1
  have kin : K.In s0.heap := ev.mod.kin.keeps up
  have free := ev.mod.nolimit.keeps up
  refine codeAny_call_function room.depth (kin _ _ at_) rfl sc.co sc.gen rfl (PySem.W.codeRec_of kin ci) (bd _ _ _ _ ?_)
  refine wpAny_newFunctionEnv_cells sc.kind (fun ⟨y, u⟩ hy => (sc.par y (List.of_mem_zip hy).1).imp id fun z => ⟨z, PySem.W.cellsFrom_some _ _ _ (.inl z)⟩) fun env he s1 fresh => ?_
  subst he
  refine ⟨free.keeps fresh.toInCall.keep, codeAny_func ?_⟩
  refine wpAny_mono (ht.run [] s1 _ H0 _ (inv_start sc room.hd ev hlen rl fresh) hw) (fun fl s2 hs => ?_) fun _ _ z => z
  cases fl with
  | ret u =>
    obtain ⟨v, _, H2, J, rv, q⟩ := hs
    exact ⟨v, H2, J.os, J.bare, J.base, J.hok, rv, q⟩
  | next =>
    obtain ⟨_, H2, J, q⟩ := hs
    exact ⟨V.non, H2, J.os, J.bare, J.base, J.hok, rfl, q⟩
  | brk =>
    obtain ⟨_, _, _, q⟩ := hs
    exact False.elim q
  | cont =>
    obtain ⟨_, _, _, q⟩ := hs
    exact False.elim q
end Dl
namespace Dl
open PySem PySem.Spec PyProof.Rows L2 Mi
/-- the script, where the law's called: an object of the written part, or a locked one -/
def ScrAt (K : PySem.W.Frag) (H : Hp) (a : Addr) (ns : List Int) : Prop := (∀ H2, SqL K H2 a (ns.map V.int)) ∨ ∃ o, H a = some (.frz o (.lst (ns.map V.int)))
theorem law_at {P : Program} {w : World} {K : PySem.W.Frag} {mg : Str → Option Value} {base : Heap} {s0 : Shared} {H0 : Hp} {f a : Addr} {fd : FuncData} {ns : List Int} (T : FunD K "law" "law" (defArgs s_law) (defBody s_law) (defScope s_law) [] [] f fd) (room : Room 150 callerA)
    (ev : Env0 P w K mg base callerA [] s0 H0) (sa : ScrAt K H0 a ns) (hz : ns.length ≤ 63)
    (body : ∀ (cdv : Value) (f : Addr) (A : Around) (outer : List Env) (s : Shared) (H : Hp) (E : XK), Room 149 (A.deeper (envOfC "law" (defScope s_law) s.heap.objs.size f cdv)) → (A.deeper (envOfC "law" (defScope s_law) s.heap.objs.size f cdv)).guards = some [] →
      ∃ t, DSs (cxOf CX0 P w K mg base n_law "law" (defScope s_law) f cdv A outer s H E).nox (defBody s_law) t ∧ ∀ ds M Q, spLaw K ds M Q → t (endsOf Q) (startD n_law.length ds) M) :
    codeAny (model P w) callerA (.call (.ref f) ⟨[.ref a], []⟩) (CR CX0 [] P w H0 s0 (fun v _ => v = .bl true) fun _ _ _ => False) s0 := by
  obtain ⟨d, rd, hd⟩ : ∃ d, Rl K H0 (.ref a) d ∧ IsScr K d ns := by
    rcases sa with h | ⟨o, e⟩
    · exact ⟨.ref a, .ref a, .inr ⟨a, rfl, h⟩⟩
    · exact ⟨.lst (ns.map D.int), .lst e (ints_rls ns), .inl rfl⟩
  refine enter_at (vals := [.ref a]) T sc_law rfl room ev (T.bindsA (ps := ["_law_script"]) (fun _ _ _ _ _ _ us hl => match us, hl with | [_], _ => rfl) s0 [.ref a] rfl) (.cons rfl .nil) fun code => ?_
  obtain ⟨t, ht, hw⟩ := body code f callerA [] s0 H0 (fun _ _ _ => False) (room.deeper _) rfl
  refine ⟨_, ht.nox, startD n_law.length [d], fun _ => none, _, RSstart (.cons rd .nil), (fun _ _ e => nomatch e), hw [d] (fun _ => none) (fun x _ => x = .bl true) ⟨d, rfl, ns, hd, hz, fun _ => rfl⟩, ?_⟩
  refine ⟨fun _ _ ⟨_, _, _, _, _, q⟩ => ?_, fun v _ ⟨x, _, _, rx, _, _, _, q⟩ => ?_, fun _ _ ⟨_, _, _, _, _, q⟩ => q.elim, fun _ _ ⟨_, _, _, _, _, q⟩ => q.elim⟩
  · exact absurd q (fun z => nomatch z)
  · have q2 : x = .bl true := q
    subst q2
    cases rx
    rfl
/-- a law's end, from its call where no guard is up -/
theorem law_end {l : PySem.W.OpenLaw} {q : Program} {loose : List Str} {XP : (Str → Option Value) → Heap → Prop} {YP : World → Heap → Prop} {d : DefRec} (hn : l.most = some 63) (hdf : d.params.defaults = [])
    (go : ∀ (w : World) (mg : Str → Option Value) (f : Addr) (h : Heap), YP w h → h.Ns mainGlobals mg → mg d.name = some (.ref f) → ∃ K : PySem.W.Frag, K.In h ∧
      ∀ (base : Heap) (s0 : Shared) (H0 : Hp) (a : Addr) (ns : List Int), ns.length ≤ 63 → K.In base → base.Ns mainGlobals mg → Env0 l.prog w K mg base callerA [] s0 H0 → ScrAt K H0 a ns →
        codeAny (model l.prog w) callerA (.call (.ref f) ⟨[.ref a], []⟩) (CR CX0 [] l.prog w H0 s0 (fun v _ => v = .bl true) fun _ _ _ => False) s0) :
    PySem.W.WalkO q loose XP YP l.row.toRowW d [] fun f vs => PySem.call f vs := by
  refine Att.attach_call hn hdf fun w _ s1 mg mb f _ _ _ _ a vs ns G Y _ _ _ hmg hobj hints hlen hg => ?_
  obtain ⟨K, kin, hgo⟩ := go w mg f _ Y G.T.g hmg
  have rv := vals_ints hints
  have hz : ns.length ≤ sizeLine := Nat.le_trans hlen (by decide)
  -- what is tracked: nothing, or the script alone, locked
  have main : ∀ H : Hp, ScrAt K H a ns → HOk l.prog w H s1.heap → (∀ b u, H b = some u → b = a ∧ K.lookup a = none ∧ ∃ o xs, u = .frz o (.lst xs)) →
      codeAny (model l.prog w) callerA (.call (.ref f) ⟨[.ref a], []⟩) (fun r s2 => r = .ok (.ret (.bool true)) ∧ OldK s1.heap s2.heap ∧ s2.os = s1.os ∧ AllBare s2.gens) s1 := by
    intro H hs hok only
    have notA : ∀ {b : Addr} {o : Obj} {es : Array DictEntry} {n : Nat}, s1.heap.get? b = some o → o.data = .dict es n → H b = none := fun {b o es n} e dt => by
      cases z : H b with
      | none => rfl
      | some u =>
        obtain ⟨rfl, _⟩ := only b u z
        rw [hobj] at e
        cases e
        have dt2 : Data.seq vs.toArray _ = Data.dict es n := dt
        cases dt2
    have nsH : ∀ {b : Addr} {m : Str → Option Value}, s1.heap.Ns b m → (hidT s1.heap H).Ns b m := fun {b m} ⟨o, es, n, e, dt, z⟩ => ⟨o, es, n, hidT_get e (notA e dt), dt, z⟩
    have kinH : K.In (hidT s1.heap H) := fun b o e => hidT_get (kin b o e) (by
      cases z : H b with
      | none => rfl
      | some u =>
        obtain ⟨rfl, z2, _⟩ := only b u z
        rw [z2] at e
        cases e)
    have md : Mod K mg (hidT s1.heap H) := ⟨kinH, nsH G.T.g, ⟨mb, nsH G.T.b, G.T.builtins⟩, G.T.nolimit.imp fun mc z => ⟨nsH z.1, z.2⟩⟩
    have ev : Env0 l.prog w K mg (hidT s1.heap H) callerA [] s1 H := by
      refine ⟨rfl, md, fun b o e => of_hidT e, Nat.le_of_eq (hidT_size _ _), trivial, fun b hb => ?_, hok, .of_eq hg⟩
      exact absurd (show b ∈ ([] : List Addr) from hb) (List.not_mem_nil)
    refine codeAny_mono (hgo _ s1 H a ns hlen kinH (nsH G.T.g) ev hs) fun r s2 h => ?_
    match r, h with
    | .error e, h => exact False.elim h
    | .ok .next, h => exact False.elim h
    | .ok .brk, h => exact False.elim h
    | .ok .cont, h => exact False.elim h
    | .ok (.ret u), h =>
      obtain ⟨v, H2, os, bare, un, hok2, r2, q⟩ := h
      have q2 : v = .bl true := q
      subst q2
      obtain rfl : u = Value.bool true := r2
      refine ⟨rfl, OldK.of_keep fun b o ob0 => ?_, os, bare⟩
      cases z : H b with
      | none => exact un.keep b o ob0 z (fun y => absurd (show b ∈ ([] : List Addr) from y) List.not_mem_nil) (by simp)
      | some u2 =>
        obtain ⟨_, _, ob, ys, rfl⟩ := only b u2 z
        have e1 := (hok b _ z).1
        have e2 := (hok2 b _ (un.frzs b ob _ z)).1
        rw [ob0] at e1
        cases e1
        exact e2
  cases hk : K.lookup a with
  | some o =>
    have e := kin a o hk
    rw [hobj] at e
    cases e
    exact main (fun _ => none) (.inl fun H2 => .inr ⟨_, vs.toArray, _, hk, rfl, rfl, rfl, by rw [List.size_toArray, hints.length]; exact hz, by simpa using rv⟩) (fun _ _ z => nomatch z) fun _ _ z => nomatch z
  | none =>
    refine main (fun b => if b = a then some (.frz { cls := .type "list", data := .seq vs.toArray } (.lst (ns.map V.int))) else none) (.inr ⟨_, if_pos rfl⟩) (fun b u z => ?_) fun b u z => ?_
    · by_cases hb : b = a
      · have z2 := (if_pos hb).symm.trans z
        cases z2
        rw [hb]
        exact ⟨hobj, by rw [List.length_map]; exact hz, vs, _, rv, hobj⟩
      · exact absurd ((if_neg hb).symm.trans z) (fun y => nomatch y)
    · by_cases hb : b = a
      · have z2 := (if_pos hb).symm.trans z
        cases z2
        exact ⟨hb, hk, _, _, rfl⟩
      · exact absurd ((if_neg hb).symm.trans z) (fun y => nomatch y)
end Dl
namespace Dl
open PySem PySem.Spec PyProof.Rows L2 Mi
theorem law_all {P : Program} {w : World} {K : PySem.W.Frag} {mg : Str → Option Value} {base : Heap} (B : Bl K mg)
    (T_parts : Txt K mg "parts" s_parts)
    (T_inner_statements : Txt K mg "inner_statements" s_inner_statements)
    (T_branches : Txt K mg "branches" s_branches)
    (T_threads_of : Txt K mg "threads_of" s_threads_of)
    (T_thread_number : Txt K mg "thread_number" s_thread_number)
    (T_at : Txt K mg "at" s_at)
    (T_initial : Txt K mg "initial" s_initial)
    (T_calculate : Txt K mg "calculate" s_calculate)
    (T_place : Txt K mg "place" s_place)
    (T_value : Txt K mg "value" s_value)
    (T_giver_on : Txt K mg "giver_on" s_giver_on)
    (T_row_redexes : Txt K mg "row_redexes" s_row_redexes)
    (T_thread_redexes : Txt K mg "thread_redexes" s_thread_redexes)
    (T_redexes : Txt K mg "redexes" s_redexes)
    (T_opened : Txt K mg "opened" s_opened)
    (T_after_alt : Txt K mg "after_alt" s_after_alt)
    (T_after_test : Txt K mg "after_test" s_after_test)
    (T_after_step : Txt K mg "after_step" s_after_step)
    (T_with_cell : Txt K mg "with_cell" s_with_cell)
    (T_with_item : Txt K mg "with_item" s_with_item)
    (T_step : Txt K mg "step" s_step)
    (T_received : Txt K mg "received" s_received)
    (T_perform : Txt K mg "perform" s_perform)
    (T_event : Txt K mg "event" s_event)
    (T_law_state : Txt K mg "_law_state" s_law_state)
    (T_law_draw : Txt K mg "_law_draw" s_law_draw)
    (T_law_pick : Txt K mg "_law_pick" s_law_pick)
    (T_law_number : Txt K mg "_law_number" s_law_number)
    (T_law_operator : Txt K mg "_law_operator" s_law_operator)
    (T_law_index : Txt K mg "_law_index" s_law_index)
    (T_law_read : Txt K mg "_law_read" s_law_read)
    (T_law_expression : Txt K mg "_law_expression" s_law_expression)
    (T_law_target : Txt K mg "_law_target" s_law_target)
    (T_law_set : Txt K mg "_law_set" s_law_set)
    (T_law_simple : Txt K mg "_law_simple" s_law_simple)
    (T_law_more_cells : Txt K mg "_law_more_cells" s_law_more_cells)
    (T_law_env : Txt K mg "_law_env" s_law_env)
    (T_law_alt : Txt K mg "_law_alt" s_law_alt)
    (T_law_wrapped : Txt K mg "_law_wrapped" s_law_wrapped)
    (T_law_items : Txt K mg "_law_items" s_law_items)
    (T_law_meetings : Txt K mg "_law_meetings" s_law_meetings)
    (T_law_shared : Txt K mg "_law_shared" s_law_shared)
    (T_law_faulty : Txt K mg "_law_faulty" s_law_faulty)
    (T_law_par : Txt K mg "_law_par" s_law_par)
    (T_law_core : Txt K mg "_law_core" s_law_core)
    (T_law_inputs : Txt K mg "_law_inputs" s_law_inputs)
    (T_law_choices : Txt K mg "_law_choices" s_law_choices)
    (T_law_parts : Txt K mg "_law_parts" s_law_parts)
    (T_law_many : Txt K mg "_law_many" s_law_many)
    (T_law_first : Txt K mg "_law_first" s_law_first)
    (T_law_binary : Txt K mg "_law_binary" s_law_binary)
    (T_law_value : Txt K mg "_law_value" s_law_value)
    (T_law_where : Txt K mg "_law_where" s_law_where)
    (T_law_ready : Txt K mg "_law_ready" s_law_ready)
    (T_law_on : Txt K mg "_law_on" s_law_on)
    (T_law_open : Txt K mg "_law_open" s_law_open)
    (T_law_take_word : Txt K mg "_law_take_word" s_law_take_word)
    (T_law_take_step : Txt K mg "_law_take_step" s_law_take_step)
    (T_law_got : Txt K mg "_law_got" s_law_got)
    (T_law_do : Txt K mg "_law_do" s_law_do)
    (T_law_choice : Txt K mg "_law_choice" s_law_choice)
    (cdv : Value) (f : Addr) (A : Around) (outer : List Env) (s : Shared) (H : Hp) (E : XK) (hr : Room 149 (A.deeper (envOfC "law" (defScope s_law) s.heap.objs.size f cdv))) (hgd : (A.deeper (envOfC "law" (defScope s_law) s.heap.objs.size f cdv)).guards = some []) :
    ∃ t, DSs (cxOf CX0 P w K mg base n_law "law" (defScope s_law) f cdv A outer s H E).nox (defBody s_law) t ∧ ∀ ds M Q, spLaw K ds M Q → t (endsOf Q) (startD n_law.length ds) M := by
  have c_with_item := ok_with_item (P := P) (w := w) (base := base) T_with_item
  have c_with_cell := ok_with_cell (P := P) (w := w) (base := base) T_with_cell
  have c_value := (words_ok (P := P) (w := w) (base := base) B T_calculate T_place T_value 7).1
  have c_place := (words_ok (P := P) (w := w) (base := base) B T_calculate T_place T_value 6).2
  have c_at := ok_at (P := P) (w := w) (base := base) B T_at
  have c_giver_on := ok_giver_on (P := P) (w := w) (base := base) B T_giver_on
  have c_row_redexes := ok_row_redexes (P := P) (w := w) (base := base) B T_row_redexes c_giver_on
  have c_thread_redexes := ok_thread_redexes (P := P) (w := w) (base := base) B T_thread_redexes c_row_redexes
  have c_redexes := ok_redexes (P := P) (w := w) (base := base) B T_redexes c_thread_redexes
  have c_opened := ok_opened (P := P) (w := w) (base := base) B T_opened c_value c_place
  have c_after_alt := ok_after_alt (P := P) (w := w) (base := base) B T_after_alt
  have c_after_test := ok_after_test (P := P) (w := w) (base := base) B T_after_test c_at c_value
  have c_after_step := ok_after_step (P := P) (w := w) (base := base) B T_after_step c_at c_value c_place c_opened c_after_alt c_after_test
  have c_step := ok_step (P := P) (w := w) (base := base) B T_step c_at c_value c_place c_with_item c_with_cell c_after_step
  have c_received := ok_received (P := P) (w := w) (base := base) B T_received c_at c_with_item c_with_cell
  have c_event := ok_event (P := P) (w := w) (base := base) B T_event
  have c_perform := ok_perform (P := P) (w := w) (base := base) B T_perform c_at c_with_item c_step c_received
  have c_law_value := lwords_ok (P := P) (w := w) (base := base) B T_law_binary T_law_value 7
  have c_law_where := (ok_law_where B T_law_where (lwords_ok (P := P) (w := w) (base := base) B T_law_binary T_law_value 6)).mono (show 8 ≤ 9 by omega)
  have c_law_on := ok_law_on (P := P) (w := w) (base := base) B T_law_on
  have c_law_open := ok_law_open (P := P) (w := w) (base := base) B T_law_open c_law_value c_law_where
  have c_law_take_word := ok_law_take_word (P := P) (w := w) (base := base) B T_law_take_word c_law_value c_law_where c_law_on
  have c_law_take_step := ok_law_take_step (P := P) (w := w) (base := base) B T_law_take_step c_law_where c_law_on c_law_open c_law_take_word
  have c_law_got := ok_law_got (P := P) (w := w) (base := base) B T_law_got c_law_on
  have c_law_choice := ok_law_choice (P := P) (w := w) (base := base) B T_law_choice
  have c_law_do := ok_law_do (P := P) (w := w) (base := base) B T_law_do c_law_on c_law_got c_law_take_step
  have c_law_ready := ok_law_ready (P := P) (w := w) (base := base) B T_law_ready
  have c_law_parts := ok_law_parts (P := P) (w := w) (base := base) B T_law_parts
  have c_parts := ok_parts (P := P) (w := w) (base := base) B T_parts
  have c_inner_statements := ok_inner_statements (P := P) (w := w) (base := base) B T_inner_statements c_parts
  have c_law_many := many_ok (P := P) (w := w) (base := base) B T_law_many c_law_parts 60
  have c_branches := branches_ok (P := P) (w := w) (base := base) B T_branches c_inner_statements 60
  have c_threads_of := ok_threads_of (P := P) (w := w) (base := base) B T_threads_of T_thread_number c_branches
  have c_initial := ok_initial (P := P) (w := w) (base := base) B T_initial c_at c_threads_of
  have c_law_first := ok_law_first (P := P) (w := w) (base := base) B T_law_first c_law_many
  have c_law_state := ok_law_state (P := P) (w := w) (base := base) B T_law_state
  have c_law_draw := ok_law_draw (P := P) (w := w) (base := base) B T_law_draw
  have c_law_pick := ok_law_pick (P := P) (w := w) (base := base) B T_law_pick c_law_draw
  have c_law_number := ok_law_number (P := P) (w := w) (base := base) B T_law_number c_law_draw c_law_pick
  have c_law_operator := ok_law_operator (P := P) (w := w) (base := base) B T_law_operator c_law_pick
  have c_law_index := ok_law_index (P := P) (w := w) (base := base) B T_law_index c_law_draw c_law_pick
  have c_law_read := ok_law_read (P := P) (w := w) (base := base) B T_law_read c_law_draw c_law_pick c_law_index
  have c_law_target := ok_law_target (P := P) (w := w) (base := base) B T_law_target c_law_draw c_law_pick c_law_index
  have c_law_expression := expr_ok (P := P) (w := w) (base := base) B T_law_expression c_law_draw c_law_pick c_law_number c_law_operator c_law_read 3
  have c_law_set := ok_law_set (P := P) (w := w) (base := base) B T_law_set c_law_target c_law_expression
  have c_law_simple := ok_law_simple (P := P) (w := w) (base := base) B T_law_simple c_law_draw c_law_pick c_law_set c_law_expression
  have c_law_alt := ok_law_alt (P := P) (w := w) (base := base) B T_law_alt c_law_draw c_law_simple c_law_target c_law_expression
  have c_law_more_cells := ok_law_more_cells (P := P) (w := w) (base := base) B T_law_more_cells
  have c_law_faulty := ok_law_faulty (P := P) (w := w) (base := base) B T_law_faulty c_law_draw
  have c_law_choices := ok_law_choices (P := P) (w := w) (base := base) B T_law_choices c_law_draw c_law_pick
  have c_law_inputs := ok_law_inputs (P := P) (w := w) (base := base) B T_law_inputs c_law_draw c_law_pick
  have c_law_env := ok_law_env (P := P) (w := w) (base := base) B T_law_env c_law_draw c_law_more_cells
  have c_law_wrapped := ok_law_wrapped (P := P) (w := w) (base := base) B T_law_wrapped c_law_draw c_law_more_cells c_law_set c_law_expression
  have c_law_meetings := ok_law_meetings (P := P) (w := w) (base := base) B T_law_meetings c_law_draw c_law_more_cells c_law_pick
  have c_law_shared := ok_law_shared (P := P) (w := w) (base := base) B T_law_shared c_law_draw
  have c_law_par := (gen_ok (P := P) (w := w) (base := base) B T_law_items T_law_par c_law_draw c_law_simple c_law_expression c_law_alt c_law_target c_law_wrapped c_law_env c_law_meetings c_law_shared c_law_faulty 13).2
  have c_law_core := ok_law_core (P := P) (w := w) (base := base) B T_law_core c_law_draw c_law_env c_law_simple c_law_expression c_law_set c_law_par
  exact law_body B c_law_state c_law_draw (c_law_core.mono (show 24 ≤ 140 by omega)) c_law_inputs c_law_choices c_law_first c_initial c_redexes c_law_ready c_law_choice c_event c_perform c_law_do cdv f A outer s H E hr hgd
end Dl
namespace Hd
open PySem L2 PySem.Spec PyProof.Rows
def d_parts : He.DefD := ⟨("parts", none), "parts", "parts", defArgs Dl.s_parts, defBody Dl.s_parts, defScope Dl.s_parts, [], []⟩
def d_inner_statements : He.DefD := ⟨("inner_statements", none), "inner_statements", "inner_statements", defArgs Dl.s_inner_statements, defBody Dl.s_inner_statements, defScope Dl.s_inner_statements, [], []⟩
def d_branches : He.DefD := ⟨("branches", none), "branches", "branches", defArgs Dl.s_branches, defBody Dl.s_branches, defScope Dl.s_branches, [], []⟩
def d_threads_of : He.DefD := ⟨("threads_of", none), "threads_of", "threads_of", defArgs Dl.s_threads_of, defBody Dl.s_threads_of, defScope Dl.s_threads_of, [], []⟩
def d_thread_number : He.DefD := ⟨("thread_number", none), "thread_number", "thread_number", defArgs Dl.s_thread_number, defBody Dl.s_thread_number, defScope Dl.s_thread_number, [], []⟩
def d_at : He.DefD := ⟨("at", none), "at", "at", defArgs Dl.s_at, defBody Dl.s_at, defScope Dl.s_at, [], []⟩
def d_initial : He.DefD := ⟨("initial", none), "initial", "initial", defArgs Dl.s_initial, defBody Dl.s_initial, defScope Dl.s_initial, [], []⟩
def d_calculate : He.DefD := ⟨("calculate", none), "calculate", "calculate", defArgs Dl.s_calculate, defBody Dl.s_calculate, defScope Dl.s_calculate, [], []⟩
def d_place : He.DefD := ⟨("place", none), "place", "place", defArgs Dl.s_place, defBody Dl.s_place, defScope Dl.s_place, [], []⟩
def d_value : He.DefD := ⟨("value", none), "value", "value", defArgs Dl.s_value, defBody Dl.s_value, defScope Dl.s_value, [], []⟩
def d_giver_on : He.DefD := ⟨("giver_on", none), "giver_on", "giver_on", defArgs Dl.s_giver_on, defBody Dl.s_giver_on, defScope Dl.s_giver_on, [], []⟩
def d_row_redexes : He.DefD := ⟨("row_redexes", none), "row_redexes", "row_redexes", defArgs Dl.s_row_redexes, defBody Dl.s_row_redexes, defScope Dl.s_row_redexes, [], []⟩
def d_thread_redexes : He.DefD := ⟨("thread_redexes", none), "thread_redexes", "thread_redexes", defArgs Dl.s_thread_redexes, defBody Dl.s_thread_redexes, defScope Dl.s_thread_redexes, [], []⟩
def d_redexes : He.DefD := ⟨("redexes", none), "redexes", "redexes", defArgs Dl.s_redexes, defBody Dl.s_redexes, defScope Dl.s_redexes, [], []⟩
def d_opened : He.DefD := ⟨("opened", none), "opened", "opened", defArgs Dl.s_opened, defBody Dl.s_opened, defScope Dl.s_opened, [], []⟩
def d_after_alt : He.DefD := ⟨("after_alt", none), "after_alt", "after_alt", defArgs Dl.s_after_alt, defBody Dl.s_after_alt, defScope Dl.s_after_alt, [], []⟩
def d_after_test : He.DefD := ⟨("after_test", none), "after_test", "after_test", defArgs Dl.s_after_test, defBody Dl.s_after_test, defScope Dl.s_after_test, [], []⟩
def d_after_step : He.DefD := ⟨("after_step", none), "after_step", "after_step", defArgs Dl.s_after_step, defBody Dl.s_after_step, defScope Dl.s_after_step, [], []⟩
def d_with_cell : He.DefD := ⟨("with_cell", none), "with_cell", "with_cell", defArgs Dl.s_with_cell, defBody Dl.s_with_cell, defScope Dl.s_with_cell, [], []⟩
def d_with_item : He.DefD := ⟨("with_item", none), "with_item", "with_item", defArgs Dl.s_with_item, defBody Dl.s_with_item, defScope Dl.s_with_item, [], []⟩
def d_step : He.DefD := ⟨("step", none), "step", "step", defArgs Dl.s_step, defBody Dl.s_step, defScope Dl.s_step, [], []⟩
def d_received : He.DefD := ⟨("received", none), "received", "received", defArgs Dl.s_received, defBody Dl.s_received, defScope Dl.s_received, [], []⟩
def d_perform : He.DefD := ⟨("perform", none), "perform", "perform", defArgs Dl.s_perform, defBody Dl.s_perform, defScope Dl.s_perform, [], []⟩
def d_event : He.DefD := ⟨("event", none), "event", "event", defArgs Dl.s_event, defBody Dl.s_event, defScope Dl.s_event, [], []⟩
def d_law_state : He.DefD := ⟨("_law_state", none), "_law_state", "_law_state", defArgs Dl.s_law_state, defBody Dl.s_law_state, defScope Dl.s_law_state, [], []⟩
def d_law_draw : He.DefD := ⟨("_law_draw", none), "_law_draw", "_law_draw", defArgs Dl.s_law_draw, defBody Dl.s_law_draw, defScope Dl.s_law_draw, [], []⟩
def d_law_pick : He.DefD := ⟨("_law_pick", none), "_law_pick", "_law_pick", defArgs Dl.s_law_pick, defBody Dl.s_law_pick, defScope Dl.s_law_pick, [], []⟩
def d_law_number : He.DefD := ⟨("_law_number", none), "_law_number", "_law_number", defArgs Dl.s_law_number, defBody Dl.s_law_number, defScope Dl.s_law_number, [], []⟩
def d_law_operator : He.DefD := ⟨("_law_operator", none), "_law_operator", "_law_operator", defArgs Dl.s_law_operator, defBody Dl.s_law_operator, defScope Dl.s_law_operator, [], []⟩
def d_law_index : He.DefD := ⟨("_law_index", none), "_law_index", "_law_index", defArgs Dl.s_law_index, defBody Dl.s_law_index, defScope Dl.s_law_index, [], []⟩
def d_law_read : He.DefD := ⟨("_law_read", none), "_law_read", "_law_read", defArgs Dl.s_law_read, defBody Dl.s_law_read, defScope Dl.s_law_read, [], []⟩
def d_law_expression : He.DefD := ⟨("_law_expression", none), "_law_expression", "_law_expression", defArgs Dl.s_law_expression, defBody Dl.s_law_expression, defScope Dl.s_law_expression, [], []⟩
def d_law_target : He.DefD := ⟨("_law_target", none), "_law_target", "_law_target", defArgs Dl.s_law_target, defBody Dl.s_law_target, defScope Dl.s_law_target, [], []⟩
def d_law_set : He.DefD := ⟨("_law_set", none), "_law_set", "_law_set", defArgs Dl.s_law_set, defBody Dl.s_law_set, defScope Dl.s_law_set, [], []⟩
def d_law_simple : He.DefD := ⟨("_law_simple", none), "_law_simple", "_law_simple", defArgs Dl.s_law_simple, defBody Dl.s_law_simple, defScope Dl.s_law_simple, [], []⟩
def d_law_more_cells : He.DefD := ⟨("_law_more_cells", none), "_law_more_cells", "_law_more_cells", defArgs Dl.s_law_more_cells, defBody Dl.s_law_more_cells, defScope Dl.s_law_more_cells, [], []⟩
def d_law_env : He.DefD := ⟨("_law_env", none), "_law_env", "_law_env", defArgs Dl.s_law_env, defBody Dl.s_law_env, defScope Dl.s_law_env, [], []⟩
def d_law_alt : He.DefD := ⟨("_law_alt", none), "_law_alt", "_law_alt", defArgs Dl.s_law_alt, defBody Dl.s_law_alt, defScope Dl.s_law_alt, [], []⟩
def d_law_wrapped : He.DefD := ⟨("_law_wrapped", none), "_law_wrapped", "_law_wrapped", defArgs Dl.s_law_wrapped, defBody Dl.s_law_wrapped, defScope Dl.s_law_wrapped, [], []⟩
def d_law_items : He.DefD := ⟨("_law_items", none), "_law_items", "_law_items", defArgs Dl.s_law_items, defBody Dl.s_law_items, defScope Dl.s_law_items, [], []⟩
def d_law_meetings : He.DefD := ⟨("_law_meetings", none), "_law_meetings", "_law_meetings", defArgs Dl.s_law_meetings, defBody Dl.s_law_meetings, defScope Dl.s_law_meetings, [], []⟩
def d_law_shared : He.DefD := ⟨("_law_shared", none), "_law_shared", "_law_shared", defArgs Dl.s_law_shared, defBody Dl.s_law_shared, defScope Dl.s_law_shared, [], []⟩
def d_law_faulty : He.DefD := ⟨("_law_faulty", none), "_law_faulty", "_law_faulty", defArgs Dl.s_law_faulty, defBody Dl.s_law_faulty, defScope Dl.s_law_faulty, [], []⟩
def d_law_par : He.DefD := ⟨("_law_par", none), "_law_par", "_law_par", defArgs Dl.s_law_par, defBody Dl.s_law_par, defScope Dl.s_law_par, [], []⟩
def d_law_core : He.DefD := ⟨("_law_core", none), "_law_core", "_law_core", defArgs Dl.s_law_core, defBody Dl.s_law_core, defScope Dl.s_law_core, [], []⟩
def d_law_inputs : He.DefD := ⟨("_law_inputs", none), "_law_inputs", "_law_inputs", defArgs Dl.s_law_inputs, defBody Dl.s_law_inputs, defScope Dl.s_law_inputs, [], []⟩
def d_law_choices : He.DefD := ⟨("_law_choices", none), "_law_choices", "_law_choices", defArgs Dl.s_law_choices, defBody Dl.s_law_choices, defScope Dl.s_law_choices, [], []⟩
def d_law_parts : He.DefD := ⟨("_law_parts", none), "_law_parts", "_law_parts", defArgs Dl.s_law_parts, defBody Dl.s_law_parts, defScope Dl.s_law_parts, [], []⟩
def d_law_many : He.DefD := ⟨("_law_many", none), "_law_many", "_law_many", defArgs Dl.s_law_many, defBody Dl.s_law_many, defScope Dl.s_law_many, [], []⟩
def d_law_first : He.DefD := ⟨("_law_first", none), "_law_first", "_law_first", defArgs Dl.s_law_first, defBody Dl.s_law_first, defScope Dl.s_law_first, [], []⟩
def d_law_binary : He.DefD := ⟨("_law_binary", none), "_law_binary", "_law_binary", defArgs Dl.s_law_binary, defBody Dl.s_law_binary, defScope Dl.s_law_binary, [], []⟩
def d_law_value : He.DefD := ⟨("_law_value", none), "_law_value", "_law_value", defArgs Dl.s_law_value, defBody Dl.s_law_value, defScope Dl.s_law_value, [], []⟩
def d_law_where : He.DefD := ⟨("_law_where", none), "_law_where", "_law_where", defArgs Dl.s_law_where, defBody Dl.s_law_where, defScope Dl.s_law_where, [], []⟩
def d_law_ready : He.DefD := ⟨("_law_ready", none), "_law_ready", "_law_ready", defArgs Dl.s_law_ready, defBody Dl.s_law_ready, defScope Dl.s_law_ready, [], []⟩
def d_law_on : He.DefD := ⟨("_law_on", none), "_law_on", "_law_on", defArgs Dl.s_law_on, defBody Dl.s_law_on, defScope Dl.s_law_on, [], []⟩
def d_law_open : He.DefD := ⟨("_law_open", none), "_law_open", "_law_open", defArgs Dl.s_law_open, defBody Dl.s_law_open, defScope Dl.s_law_open, [], []⟩
def d_law_take_word : He.DefD := ⟨("_law_take_word", none), "_law_take_word", "_law_take_word", defArgs Dl.s_law_take_word, defBody Dl.s_law_take_word, defScope Dl.s_law_take_word, [], []⟩
def d_law_take_step : He.DefD := ⟨("_law_take_step", none), "_law_take_step", "_law_take_step", defArgs Dl.s_law_take_step, defBody Dl.s_law_take_step, defScope Dl.s_law_take_step, [], []⟩
def d_law_got : He.DefD := ⟨("_law_got", none), "_law_got", "_law_got", defArgs Dl.s_law_got, defBody Dl.s_law_got, defScope Dl.s_law_got, [], []⟩
def d_law_do : He.DefD := ⟨("_law_do", none), "_law_do", "_law_do", defArgs Dl.s_law_do, defBody Dl.s_law_do, defScope Dl.s_law_do, [], []⟩
def d_law_choice : He.DefD := ⟨("_law_choice", none), "_law_choice", "_law_choice", defArgs Dl.s_law_choice, defBody Dl.s_law_choice, defScope Dl.s_law_choice, [], []⟩
def d_law : He.DefD := ⟨("law", none), "law", "law", defArgs Dl.s_law, defBody Dl.s_law, defScope Dl.s_law, [], []⟩
def fn0 : List He.DefD := [d_parts, d_inner_statements, d_branches, d_threads_of, d_thread_number, d_at, d_initial, d_calculate, d_place, d_value, d_giver_on, d_row_redexes, d_thread_redexes, d_redexes, d_opened, d_after_alt, d_after_test, d_after_step, d_with_cell, d_with_item]
def fa0 : List He.Fa := [.glo "parts", .glo "inner_statements", .glo "branches", .glo "threads_of", .glo "thread_number", .glo "at", .glo "initial", .glo "calculate", .glo "place", .glo "value", .glo "giver_on", .glo "row_redexes", .glo "thread_redexes", .glo "redexes", .glo "opened", .glo "after_alt", .glo "after_test", .glo "after_step", .glo "with_cell", .glo "with_item"]
def lo0 : List Str := ["parts", "inner_statements", "branches", "threads_of", "thread_number", "at", "initial", "calculate", "place", "value", "giver_on", "row_redexes", "thread_redexes", "redexes", "opened", "after_alt", "after_test", "after_step", "with_cell", "with_item"]
def fn1 : List He.DefD := [d_step, d_received, d_perform, d_event, d_law_state, d_law_draw, d_law_pick, d_law_number, d_law_operator, d_law_index, d_law_read, d_law_expression, d_law_target, d_law_set, d_law_simple, d_law_more_cells, d_law_env, d_law_alt, d_law_wrapped, d_law_items]
def fa1 : List He.Fa := [.glo "step", .glo "received", .glo "perform", .glo "event", .glo "_law_state", .glo "_law_draw", .glo "_law_pick", .glo "_law_number", .glo "_law_operator", .glo "_law_index", .glo "_law_read", .glo "_law_expression", .glo "_law_target", .glo "_law_set", .glo "_law_simple", .glo "_law_more_cells", .glo "_law_env", .glo "_law_alt", .glo "_law_wrapped", .glo "_law_items"]
def lo1 : List Str := ["step", "received", "perform", "event", "_law_state", "_law_draw", "_law_pick", "_law_number", "_law_operator", "_law_index", "_law_read", "_law_expression", "_law_target", "_law_set", "_law_simple", "_law_more_cells", "_law_env", "_law_alt", "_law_wrapped", "_law_items"]
def fn2 : List He.DefD := [d_law_meetings, d_law_shared, d_law_faulty, d_law_par, d_law_core, d_law_inputs, d_law_choices, d_law_parts, d_law_many, d_law_first, d_law_binary, d_law_value, d_law_where, d_law_ready, d_law_on, d_law_open, d_law_take_word, d_law_take_step, d_law_got, d_law_do]
def fa2 : List He.Fa := [.glo "_law_meetings", .glo "_law_shared", .glo "_law_faulty", .glo "_law_par", .glo "_law_core", .glo "_law_inputs", .glo "_law_choices", .glo "_law_parts", .glo "_law_many", .glo "_law_first", .glo "_law_binary", .glo "_law_value", .glo "_law_where", .glo "_law_ready", .glo "_law_on", .glo "_law_open", .glo "_law_take_word", .glo "_law_take_step", .glo "_law_got", .glo "_law_do"]
def lo2 : List Str := ["_law_meetings", "_law_shared", "_law_faulty", "_law_par", "_law_core", "_law_inputs", "_law_choices", "_law_parts", "_law_many", "_law_first", "_law_binary", "_law_value", "_law_where", "_law_ready", "_law_on", "_law_open", "_law_take_word", "_law_take_step", "_law_got", "_law_do"]
def fn3 : List He.DefD := [d_law_choice, d_law]
def fa3 : List He.Fa := [.glo "_law_choice", .glo "law"]
def lo3 : List Str := ["_law_choice"]
def fn : List He.DefD := fn0 ++ fn1 ++ fn2 ++ fn3
def faB : List He.Fa := [.free "len", .free "range", .free "int", .free "repr", .free "isinstance", .free "zip", .free "enumerate", .free "sorted", .free "all", .free "min", .free "abs", .free "tuple", .free "list", .int "WORDS" 65536]
def fa : List He.Fa := faB ++ fa0 ++ fa1 ++ fa2 ++ fa3
def lo : List Str := lo0 ++ lo1 ++ lo2 ++ lo3 ++ (["WORDS", "FAULTED", "STOPPED"] : List Str)
def ex (K : PySem.W.Frag) : Bool := He.tupB K "FAULTED" [.str "faulted"] && (He.tupB K "STOPPED" [.str "stopped"] && (He.Fa.ok K (.glo "FAULTED") && He.Fa.ok K (.glo "STOPPED")))
abbrev R : PySem.W.OpenRow := PySem.W.OpenLaw.row PySem.Challenge.rw_placedanyhow_k16_whole_steps_of_a_plain
abbrev hk : PySem.W.Hook := He.hookX 4 fa fn [] [] ex
def ob (s : PySem.W.SharedT) : He.AlX := He.obsX 4 fa fn [] [] ex (HandSHeadRun.getT s)
theorem ob_eq (s : PySem.W.SharedT) : ob s = hk.obs s.abs := He.obsX_eq (HandSHeadRun.getT_eq s)
theorem run (w : World) : HandSHeadRun.RunEq R (PySem.W.view R.prog [69]) hk ob 4000 lo w := by
  intro os
  kernel_rfl
/-! ### what the head tells -/
section
variable {K : PySem.W.Frag} {h : Heap} {mg : Str → Option Value} {w : World}
theorem txt {x : Str} {st : Stmt} (X : K.In h) (G : h.Ns mainGlobals mg) (c : He.SaysD fa fn K) (i j : Nat) (hd : fn[i]? = some ⟨(x, none), x, x, defArgs st, defBody st, defScope st, [], []⟩) (hf : fa[j]? = some (.glo x)) : Dl.Txt K mg x st := by
  obtain ⟨fd, F⟩ := c.def_ i hd
  exact ⟨_, fd, He.glo_ok X G (c.fact j hf), F⟩
theorem bl (X : K.In h) (G : h.Ns mainGlobals mg) (c : He.SaysX fa fn [] [] ex w h K) : Dl.Bl K mg := by
  have d := c.t.d
  have e := c.more
  unfold ex at e
  obtain ⟨e1, e⟩ := Bool.and_eq_true_iff.mp e
  obtain ⟨e2, e⟩ := Bool.and_eq_true_iff.mp e
  obtain ⟨e3, e4⟩ := Bool.and_eq_true_iff.mp e
  exact {
    len := He.free_ok X G (d.fact 0 (f := .free "len") rfl)
    range := He.free_ok X G (d.fact 1 (f := .free "range") rfl)
    int := He.free_ok X G (d.fact 2 (f := .free "int") rfl)
    repr := He.free_ok X G (d.fact 3 (f := .free "repr") rfl)
    isinstance := He.free_ok X G (d.fact 4 (f := .free "isinstance") rfl)
    zip := He.free_ok X G (d.fact 5 (f := .free "zip") rfl)
    enumerate := He.free_ok X G (d.fact 6 (f := .free "enumerate") rfl)
    sorted := He.free_ok X G (d.fact 7 (f := .free "sorted") rfl)
    all := He.free_ok X G (d.fact 8 (f := .free "all") rfl)
    min := He.free_ok X G (d.fact 9 (f := .free "min") rfl)
    abs := He.free_ok X G (d.fact 10 (f := .free "abs") rfl)
    tuple := He.free_ok X G (d.fact 11 (f := .free "tuple") rfl)
    list := He.free_ok X G (d.fact 12 (f := .free "list") rfl)
    words := He.int_ok X G (d.fact 13 (f := .int "WORDS" 65536) rfl)
    faulted := ⟨_, He.glo_ok X G e3, fun H => He.tupB_ok e1 H⟩
    stopped := ⟨_, He.glo_ok X G e4, fun H => He.tupB_ok e2 H⟩ }
theorem law_goes {P : Program} {f : Addr} (X : K.In h) (G : h.Ns mainGlobals mg) (c : He.SaysX fa fn [] [] ex w h K) (hf : mg ("law" : Str) = some (.ref f)) (base : Heap) (s0 : Shared) (H0 : Hp) (a : Addr) (ns : List Int) (hz : ns.length ≤ 63) (room : Room 150 callerA)
    (ev : Env0 P w K mg base callerA [] s0 H0) (hs : Dl.ScrAt K H0 a ns) : codeAny (model P w) callerA (.call (.ref f) ⟨[.ref a], []⟩) (CR CX0 [] P w H0 s0 (fun v _ => v = .bl true) fun _ _ _ => False) s0 := by
  have d := c.t.d
  obtain ⟨f2, fd, e, F⟩ := (txt X G d 61 75 rfl rfl : Dl.Txt K mg "law" Dl.s_law).ex
  have e2 := hf.symm.trans e
  cases e2
  exact Dl.law_at F room ev hs hz (Dl.law_all (bl X G c)
    (txt X G d 0 14 rfl rfl)
    (txt X G d 1 15 rfl rfl)
    (txt X G d 2 16 rfl rfl)
    (txt X G d 3 17 rfl rfl)
    (txt X G d 4 18 rfl rfl)
    (txt X G d 5 19 rfl rfl)
    (txt X G d 6 20 rfl rfl)
    (txt X G d 7 21 rfl rfl)
    (txt X G d 8 22 rfl rfl)
    (txt X G d 9 23 rfl rfl)
    (txt X G d 10 24 rfl rfl)
    (txt X G d 11 25 rfl rfl)
    (txt X G d 12 26 rfl rfl)
    (txt X G d 13 27 rfl rfl)
    (txt X G d 14 28 rfl rfl)
    (txt X G d 15 29 rfl rfl)
    (txt X G d 16 30 rfl rfl)
    (txt X G d 17 31 rfl rfl)
    (txt X G d 18 32 rfl rfl)
    (txt X G d 19 33 rfl rfl)
    (txt X G d 20 34 rfl rfl)
    (txt X G d 21 35 rfl rfl)
    (txt X G d 22 36 rfl rfl)
    (txt X G d 23 37 rfl rfl)
    (txt X G d 24 38 rfl rfl)
    (txt X G d 25 39 rfl rfl)
    (txt X G d 26 40 rfl rfl)
    (txt X G d 27 41 rfl rfl)
    (txt X G d 28 42 rfl rfl)
    (txt X G d 29 43 rfl rfl)
    (txt X G d 30 44 rfl rfl)
    (txt X G d 31 45 rfl rfl)
    (txt X G d 32 46 rfl rfl)
    (txt X G d 33 47 rfl rfl)
    (txt X G d 34 48 rfl rfl)
    (txt X G d 35 49 rfl rfl)
    (txt X G d 36 50 rfl rfl)
    (txt X G d 37 51 rfl rfl)
    (txt X G d 38 52 rfl rfl)
    (txt X G d 39 53 rfl rfl)
    (txt X G d 40 54 rfl rfl)
    (txt X G d 41 55 rfl rfl)
    (txt X G d 42 56 rfl rfl)
    (txt X G d 43 57 rfl rfl)
    (txt X G d 44 58 rfl rfl)
    (txt X G d 45 59 rfl rfl)
    (txt X G d 46 60 rfl rfl)
    (txt X G d 47 61 rfl rfl)
    (txt X G d 48 62 rfl rfl)
    (txt X G d 49 63 rfl rfl)
    (txt X G d 50 64 rfl rfl)
    (txt X G d 51 65 rfl rfl)
    (txt X G d 52 66 rfl rfl)
    (txt X G d 53 67 rfl rfl)
    (txt X G d 54 68 rfl rfl)
    (txt X G d 55 69 rfl rfl)
    (txt X G d 56 70 rfl rfl)
    (txt X G d 57 71 rfl rfl)
    (txt X G d 58 72 rfl rfl)
    (txt X G d 59 73 rfl rfl)
    (txt X G d 60 74 rfl rfl))
end
end Hd
open PySem PySem.W PySem.Calls PyProof.Rows
theorem PySem.Challenge.cw_placedanyhow_k16_whole_steps_of_a_plain_holds : PySem.Challenge.rw_placedanyhow_k16_whole_steps_of_a_plain.Holds := by
  w_on; o_law
  refine HandSHeadRun.head_any (r := OpenLaw.row PySem.Challenge.rw_placedanyhow_k16_whole_steps_of_a_plain) (q := view (OpenLaw.row PySem.Challenge.rw_placedanyhow_k16_whole_steps_of_a_plain).prog [69]) (H := Hd.hk) (ob := Hd.ob) (M := 4000) (loose := Hd.lo) (d := HandSHeadRun.topDef (OpenLaw.row PySem.Challenge.rw_placedanyhow_k16_whole_steps_of_a_plain).prog 69) (kwd := []) Hd.ob_eq
    (by kernel_rfl) (fun s => by kernel_rfl) Hd.run (by kernel_rfl) (by kernel_rfl) (by kernel_rfl) (by rfl) (by first | assumption | decide +kernel) (by decide +kernel) ⟨rfl, rfl, rfl, rfl, rfl, by decide +kernel⟩ ?hw ?hc
  case hw => w_witness2
  case hc =>
    refine Dl.law_end (l := PySem.Challenge.rw_placedanyhow_k16_whole_steps_of_a_plain) rfl (by kernel_rfl) fun w mg f h Y G hm => ?_
    obtain ⟨K, kin, c⟩ := Y
    have nm : (HandSHeadRun.topDef (OpenLaw.row PySem.Challenge.rw_placedanyhow_k16_whole_steps_of_a_plain).prog 69).name = ("law" : PySem.Str) := by kernel_rfl
    rw [nm] at hm
    exact ⟨K, kin, fun base s0 H0 a ns hz _ _ ev hs => Hd.law_goes kin G c hm base s0 H0 a ns hz ⟨rfl, by decide, by decide⟩ ev hs⟩
