import PyProof.Rows.All
import Wide.All
import OpenK.AllK
import Wide.FinOn
import HandS.ForMost
import HandS.ForExc
import HandS.More
import HandS.IsInst
import HandS.Star
import HandS.TupAny
import HandS.Codes
import HandS.Defaults
import HandS.Flow
import HandS.Style
import HandS.Deep
import HandS.Rev
import HandS.RevTup
import PyProof.ListRange
import HandS.ExcInit
import HandS.ExcSuper
import HandS.ExcOwn
import HandS.TryOnly
import KE.KSuper
import KE.KExcSuper
import KE.KExcIs
import HandS.ExcField
import HandS.ExcIs
import HandS.HeadHook2
import HandS.Head2
import HandS.HeadEnd
import HandS.Ends
import HandS.Head0
import HandS.Head1
import PyProof.StrLawsIn
import HandS.Words
import KE.KStateDown
import PySem.Challenge.RW_batchtests_k04_row_sets_refused
set_option Elab.async false
set_option linter.all false
set_option maxRecDepth 100000
set_option maxHeartbeats 2000000
namespace Bt
open PySem PySem.Spec PyProof.Rows L2

/-! ### data -/
inductive D where
  | non | bl (b : Bool) | int (i : Int) | str (x : Str) | tup (xs : List D) | ref (n : Nat) | glo (x : Str) | ty (n : String) | exc | fz (xs : List D)

inductive Ob where
  | lst (xs : List D) | ro (xs : List D) | dic (kvs : List (Key × D)) | ins (c : Str) (fs : List (Str × D))

abbrev Sto := List Ob
structure Exc where
  c : Str
  fs : List (Str × D)
inductive Rs (α : Type) where
  | ok (a : α) (S : Sto) | exc (x : Exc) (S : Sto) | fail
def Rs.bind {α β : Type} : Rs α → (α → Sto → Rs β) → Rs β
  | .ok a S, f => f a S
  | .exc x S, _ => .exc x S
  | .fail, _ => .fail
def Rs.of {α : Type} : Option (α × Sto) → Rs α
  | some (a, S) => .ok a S
  | none => .fail

abbrev Env := List (Option D)
abbrev ME := Env → Sto → Rs D
abbrev MT := Env → Sto → Rs Bool
abbrev MA := Env → Sto → Rs (List D)
inductive Fl where
  | nx (e : Env) | rt (d : D) | bk (e : Env) | ct (e : Env) | xc (x : Exc) (e : Env)
abbrev MS := Env → Sto → Rs Fl

/-! ### what stands for what -/
/-- an exception that is handled: where it stands, what it is -/
structure ErI where
  i : Option Nat
  a : Addr
  x : Exc
  cls : Value
  d : Option Addr
/-- the written part, the module's names; the exception that is handled -/
structure Ctx where
  K : PySem.W.Frag
  mg : Str → Option Value
  er : Option ErI := none
/-- what never changes -/
def fixd : HO → Prop
  | .tup _ => True
  | .frz _ _ => True
  | .xd _ => True
  | _ => False
def HLe (H H' : Hp) : Prop := ∀ a o, fixd o → H a = some o → H' a = some o
theorem HLe.refl (H : Hp) : HLe H H := fun _ _ _ e => e
theorem HLe.trans {H1 H2 H3 : Hp} (a : HLe H1 H2) (b : HLe H2 H3) : HLe H1 H3 := fun x o f e => b x o f (a x o f e)

variable (C : Ctx)
/-- a tuple: tracked, or of the written part -/
def TupAt (K : PySem.W.Frag) (H : Hp) (a : Addr) (xs : List V) : Prop :=
  H a = some (.tup xs) ∨ ∃ (o : Obj) (its : Array Value) (n : Nat), K.lookup a = some o ∧ o.cls = .type "tuple" ∧ o.data = .seq its n ∧ its.size ≤ sizeLine ∧ Vals xs its.toList
theorem TupAt.sq {K : PySem.W.Frag} {H : Hp} {a : Addr} {xs : List V} (h : TupAt K H a xs) : SqT K H a xs := h.elim (fun h => .inl (.inl h)) .inr
/-- a list that nobody changes: the script, or one of the written part -/
def LstAt (K : PySem.W.Frag) (H : Hp) (a : Addr) (xs : List V) : Prop :=
  (∃ o, H a = some (.frz o (.lst xs))) ∨ ∃ (o : Obj) (its : Array Value) (n : Nat), K.lookup a = some o ∧ o.cls = .type "list" ∧ o.dict = none ∧ o.data = .seq its n ∧ its.size ≤ sizeLine ∧ Vals xs its.toList
theorem LstAt.sq {K : PySem.W.Frag} {H : Hp} {a : Addr} {xs : List V} (h : LstAt K H a xs) : SqL K H a xs := h.elim (fun ⟨o, h⟩ => .inl (.inr ⟨o, h⟩)) .inr
mutual
inductive Rep (C : Ctx) (mp : List Addr) (H : Hp) : D → V → Prop
  | non : Rep C mp H .non .non
  | bl (b) : Rep C mp H (.bl b) (.bl b)
  | int (i) : Rep C mp H (.int i) (.int i)
  | str (x) : Rep C mp H (.str x) (.str x)
  | tup {ds : List D} {vs : List V} {a : Addr} : TupAt C.K H a vs → Reps C mp H ds vs → Rep C mp H (.tup ds) (.ref a)
  | ref {n : Nat} {a : Addr} : mp[n]? = some a → Rep C mp H (.ref n) (.ref a)
  | glo {x : Str} {a : Addr} : C.mg x = some (.ref a) → Rep C mp H (.glo x) (.ref a)
  | ty (n) : Rep C mp H (.ty n) (.ty n)
  | fz {ds : List D} {vs : List V} {a : Addr} : LstAt C.K H a vs → Reps C mp H ds vs → Rep C mp H (.fz ds) (.ref a)
inductive Reps (C : Ctx) (mp : List Addr) (H : Hp) : List D → List V → Prop
  | nil : Reps C mp H [] []
  | cons {d : D} {v : V} {ds : List D} {vs : List V} : Rep C mp H d v → Reps C mp H ds vs → Reps C mp H (d :: ds) (v :: vs)
end
theorem tupAt_mono {K : PySem.W.Frag} {H H' : Hp} {a : Addr} {vs : List V} (h : HLe H H') (q : TupAt K H a vs) : TupAt K H' a vs := by
  rcases q with q | q
  · exact .inl (h _ _ trivial q)
  · exact .inr q
theorem lstAt_mono {K : PySem.W.Frag} {H H' : Hp} {a : Addr} {vs : List V} (h : HLe H H') (q : LstAt K H a vs) : LstAt K H' a vs := by
  rcases q with ⟨o, q⟩ | q
  · exact .inl ⟨o, h _ _ trivial q⟩
  · exact .inr q
variable {C}
theorem pre_get {α : Type} {l m : List α} {n : Nat} {x : α} (p : l <+: m) (h : l[n]? = some x) : m[n]? = some x := by
  obtain ⟨t, rfl⟩ := p
  obtain ⟨hn, e⟩ := List.getElem?_eq_some_iff.mp h
  rw [List.getElem?_append_left hn]
  exact h
mutual
theorem Rep.mono {mp mp' : List Addr} {H H' : Hp} (p : mp <+: mp') (h : HLe H H') : ∀ {d : D} {v : V}, Rep C mp H d v → Rep C mp' H' d v
  | _, _, .non => .non
  | _, _, .bl b => .bl b
  | _, _, .int i => .int i
  | _, _, .str x => .str x
  | _, _, .tup q r => .tup (tupAt_mono h q) (Reps.mono p h r)
  | _, _, .ref q => .ref (pre_get p q)
  | _, _, .glo q => .glo q
  | _, _, .ty n => .ty n
  | _, _, .fz q r => .fz (lstAt_mono h q) (Reps.mono p h r)
theorem Reps.mono {mp mp' : List Addr} {H H' : Hp} (p : mp <+: mp') (h : HLe H H') : ∀ {ds : List D} {vs : List V}, Reps C mp H ds vs → Reps C mp' H' ds vs
  | _, _, .nil => .nil
  | _, _, .cons r t => .cons (Rep.mono p h r) (Reps.mono p h t)
end
section
variable {mp : List Addr} {H : Hp}
theorem Reps.length : ∀ {ds : List D} {vs : List V}, Reps C mp H ds vs → ds.length = vs.length
  | _, _, .nil => rfl
  | _, _, .cons _ t => by simp [Reps.length t]
theorem Reps.append : ∀ {ds es : List D} {vs ws : List V}, Reps C mp H ds vs → Reps C mp H es ws → Reps C mp H (ds ++ es) (vs ++ ws)
  | _, _, _, _, .nil, s => s
  | _, _, _, _, .cons r t, s => .cons r (Reps.append t s)
theorem Reps.get : ∀ {ds : List D} {vs : List V} {i : Nat} {d : D}, Reps C mp H ds vs → ds[i]? = some d → ∃ v, vs[i]? = some v ∧ Rep C mp H d v
  | _, _, _, _, .nil, e => by simp at e
  | _, _, 0, _, .cons r _, e => by simp at e; subst e; exact ⟨_, rfl, r⟩
  | _, _, i + 1, d, .cons _ t, e => by
    obtain ⟨v, h1, h2⟩ := Reps.get (i := i) (d := d) t (by simpa using e)
    exact ⟨v, by simpa using h1, h2⟩
theorem Reps.getV : ∀ {ds : List D} {vs : List V} {i : Nat} {v : V}, Reps C mp H ds vs → vs[i]? = some v → ∃ d, ds[i]? = some d ∧ Rep C mp H d v
  | _, _, _, _, .nil, e => by simp at e
  | _, _, 0, _, .cons r _, e => by simp at e; subst e; exact ⟨_, rfl, r⟩
  | _, _, i + 1, d, .cons _ t, e => by
    obtain ⟨v, h1, h2⟩ := Reps.getV (i := i) (v := d) t (by simpa using e)
    exact ⟨v, by simpa using h1, h2⟩
theorem Reps.set {d : D} {v : V} (r : Rep C mp H d v) : ∀ {ds : List D} {vs : List V} (i : Nat), Reps C mp H ds vs → Reps C mp H (ds.set i d) (vs.set i v)
  | _, _, _, .nil => .nil
  | _, _, 0, .cons _ t => .cons r t
  | _, _, i + 1, .cons q t => .cons q (Reps.set r i t)
theorem Reps.take : ∀ {ds : List D} {vs : List V} (n : Nat), Reps C mp H ds vs → Reps C mp H (ds.take n) (vs.take n)
  | _, _, 0, _ => .nil
  | _, _, _ + 1, .nil => .nil
  | _, _, n + 1, .cons r t => .cons r (Reps.take n t)
theorem Reps.drop : ∀ {ds : List D} {vs : List V} (n : Nat), Reps C mp H ds vs → Reps C mp H (ds.drop n) (vs.drop n)
  | _, _, 0, r => r
  | _, _, _ + 1, .nil => .nil
  | _, _, n + 1, .cons _ t => Reps.drop n t
theorem Reps.reverse : ∀ {ds : List D} {vs : List V}, Reps C mp H ds vs → Reps C mp H ds.reverse vs.reverse
  | _, _, .nil => .nil
  | _, _, .cons r t => by
    rw [List.reverse_cons, List.reverse_cons]
    exact (Reps.reverse t).append (.cons r .nil)
end

/-! ### the store -/
def RepFs (C : Ctx) (mp : List Addr) (H : Hp) (fs : List (Str × D)) (gs : List (Str × V)) : Prop := fs.map (·.1) = gs.map (·.1) ∧ Reps C mp H (fs.map (·.2)) (gs.map (·.2))
def RepKs (C : Ctx) (mp : List Addr) (H : Hp) (fs : List (Key × D)) (gs : List (Key × V)) : Prop := fs.map (·.1) = gs.map (·.1) ∧ Reps C mp H (fs.map (·.2)) (gs.map (·.2))
theorem RepFs.mono {mp mp' : List Addr} {H H' : Hp} {fs : List (Str × D)} {gs : List (Str × V)} (p : mp <+: mp') (h : HLe H H') (r : RepFs C mp H fs gs) : RepFs C mp' H' fs gs := ⟨r.1, r.2.mono p h⟩
theorem RepKs.mono {mp mp' : List Addr} {H H' : Hp} {fs : List (Key × D)} {gs : List (Key × V)} (p : mp <+: mp') (h : HLe H H') (r : RepKs C mp H fs gs) : RepKs C mp' H' fs gs := ⟨r.1, r.2.mono p h⟩
def RepO (C : Ctx) (mp : List Addr) (H : Hp) (a : Addr) : Ob → Prop
  | .lst ds => ∃ vs, H a = some (.lst vs) ∧ Reps C mp H ds vs
  | .ro ds => ∃ o vs, H a = some (.frz o (.lst vs)) ∧ Reps C mp H ds vs
  | .dic kvs => ∃ kws, H a = some (.dK kws) ∧ RepKs C mp H kvs kws
  | .ins c fs => ∃ k dx gs, C.mg c = some (.ref k) ∧ H a = some (.ins k dx gs) ∧ RepFs C mp H fs gs
structure Rel (C : Ctx) (mp : List Addr) (S : Sto) (H : Hp) : Prop where
  len : mp.length = S.length
  nd : mp.Nodup
  ob : ∀ (n : Nat) (o : Ob) (a : Addr), S[n]? = some o → mp[n]? = some a → RepO C mp H a o
section
variable {mp mp' : List Addr} {S : Sto} {H H' : Hp}
theorem Rel.at (r : Rel C mp S H) {n : Nat} {o : Ob} (h : S[n]? = some o) : ∃ a, mp[n]? = some a ∧ RepO C mp H a o := by
  obtain ⟨hn, _⟩ := List.getElem?_eq_some_iff.mp h
  have hm : n < mp.length := by rw [r.len]; exact hn
  exact ⟨mp[n], by simp [hm], r.ob n o _ h (by simp [hm])⟩
theorem Rel.atA (r : Rel C mp S H) {n : Nat} {a : Addr} (h : mp[n]? = some a) : ∃ o, S[n]? = some o ∧ RepO C mp H a o := by
  obtain ⟨hn, _⟩ := List.getElem?_eq_some_iff.mp h
  have hm : n < S.length := by rw [← r.len]; exact hn
  exact ⟨S[n], by simp [hm], r.ob n _ _ (by simp [hm]) h⟩
theorem RepO.some {a : Addr} {o : Ob} (r : RepO C mp H a o) : ∃ u, H a = some u := by
  cases o with
  | lst ds => obtain ⟨_, h, _⟩ := r; exact ⟨_, h⟩
  | ro ds => obtain ⟨_, _, h, _⟩ := r; exact ⟨_, h⟩
  | dic ds => obtain ⟨_, h, _⟩ := r; exact ⟨_, h⟩
  | ins c fs => obtain ⟨_, _, _, _, h, _⟩ := r; exact ⟨_, h⟩
theorem RepO.mono {a : Addr} {o : Ob} (p : mp <+: mp') (h : HLe H H') (e : H' a = H a) (r : RepO C mp H a o) : RepO C mp' H' a o := by
  cases o with
  | lst ds => obtain ⟨vs, q, t⟩ := r; exact ⟨vs, e.trans q, t.mono p h⟩
  | ro ds => obtain ⟨o, vs, q, t⟩ := r; exact ⟨o, vs, e.trans q, t.mono p h⟩
  | dic ds => obtain ⟨vs, q, t⟩ := r; exact ⟨vs, e.trans q, t.mono p h⟩
  | ins c fs => obtain ⟨k, dx, gs, q1, q, t⟩ := r; exact ⟨k, dx, gs, q1, e.trans q, t.mono p h⟩
theorem Rel.fresh (r : Rel C mp S H) {p : Addr} (hp : H p = none) : p ∉ mp := fun hm => by
  obtain ⟨n, hn, e⟩ := List.mem_iff_getElem.mp hm
  obtain ⟨o, _, q⟩ := r.atA (n := n) (a := p) (by simp [hn, e])
  obtain ⟨u, z⟩ := q.some
  rw [hp] at z; cases z
/-- the heap has grown by what is not in the store -/
theorem Rel.grow (r : Rel C mp S H) (h : HLe H H') (e : ∀ a ∈ mp, H' a = H a) : Rel C mp S H' :=
  ⟨r.len, r.nd, fun n o a h1 h2 => (r.ob n o a h1 h2).mono (List.prefix_refl _) h (e a (List.mem_of_getElem? h2))⟩
theorem HLe.new {p : Addr} {o : HO} (hp : H p = none) : HLe H (upd H p o) := fun a u _ e => by rw [upd_ne (ne_of_none e hp)]; exact e
theorem HLe.upd {p : Addr} {o u : HO} (hp : H p = some u) (hf : ¬ fixd u) : HLe H (upd H p o) := fun a w f e => by
  rw [upd_ne]
  · exact e
  · rintro rfl
    rw [hp] at e; cases e; exact hf f
theorem Rel.new (r : Rel C mp S H) {p : Addr} {o : HO} (hp : H p = none) : Rel C mp S (upd H p o) :=
  r.grow (HLe.new hp) fun a ha => upd_ne (fun e => r.fresh hp (e ▸ ha))
/-- a new object comes into the store -/
theorem Rel.push (r : Rel C mp S H) {p : Addr} {o : HO} {ob : Ob} (hp : H p = none) (h : RepO C (mp ++ [p]) (upd H p o) p ob) : Rel C (mp ++ [p]) (S ++ [ob]) (upd H p o) := by
  have np := r.fresh hp
  refine ⟨by simp [r.len], ?_, fun n o' a h1 h2 => ?_⟩
  · rw [List.nodup_append]
    exact ⟨r.nd, by simp, fun a ha b hb e => by simp at hb; subst hb; subst e; exact np ha⟩
  · by_cases hn : n < mp.length
    · rw [List.getElem?_append_left hn] at h2
      rw [List.getElem?_append_left (by rw [← r.len]; exact hn)] at h1
      refine (r.ob n o' a h1 h2).mono (List.prefix_append _ _) (HLe.new hp) (upd_ne fun e => np (e ▸ List.mem_of_getElem? h2))
    · have hn' : mp.length ≤ n := Nat.le_of_not_lt hn
      rw [List.getElem?_append_right hn'] at h2
      rw [List.getElem?_append_right (by rw [← r.len]; exact hn')] at h1
      rw [r.len] at h2
      have e0 : n - S.length = 0 := by
        cases q : n - S.length with
        | zero => rfl
        | succ m => rw [q] at h2; simp at h2
      rw [e0] at h1 h2
      simp at h1 h2
      subst h1; subst h2
      exact h
/-- an object of the store is changed -/
theorem Rel.set (r : Rel C mp S H) {n : Nat} {p : Addr} {o u : HO} {ob : Ob} (hn : mp[n]? = some p) (hp : H p = some u) (hf : ¬ fixd u) (h : RepO C mp (upd H p o) p ob) : Rel C mp (S.set n ob) (upd H p o) := by
  refine ⟨by simp [r.len], r.nd, fun m o' a h1 h2 => ?_⟩
  by_cases hm : m = n
  · subst hm
    rw [hn] at h2; cases h2
    have hl : m < S.length := by rw [← r.len]; exact (List.getElem?_eq_some_iff.mp hn).1
    rw [List.getElem?_set_self hl] at h1
    cases h1
    exact h
  · rw [List.getElem?_set_ne (Ne.symm hm)] at h1
    refine (r.ob m o' a h1 h2).mono (List.prefix_refl _) (HLe.upd hp hf) (upd_ne ?_)
    rintro rfl
    obtain ⟨k1, e1⟩ := List.getElem?_eq_some_iff.mp h2
    obtain ⟨k2, e2⟩ := List.getElem?_eq_some_iff.mp hn
    exact hm ((List.getElem_inj r.nd).mp (e1.trans e2.symm))
end

def RepX (C : Ctx) (mp : List Addr) (H : Hp) (x : Exc) (cls : Value) (dd : Option Addr) : Prop :=
  ∃ k, C.mg x.c = some (.ref k) ∧ cls = .ref k ∧ ((x.fs = [] ∧ dd = none) ∨ ∃ d gs, dd = some d ∧ H d = some (.xd gs) ∧ RepFs C mp H x.fs gs)
theorem RepX.mono {mp mp' : List Addr} {H H' : Hp} {x : Exc} {cls : Value} {dd : Option Addr} (p : mp <+: mp') (h : HLe H H') (r : RepX C mp H x cls dd) : RepX C mp' H' x cls dd := by
  obtain ⟨k, h1, h2, h3⟩ := r
  refine ⟨k, h1, h2, ?_⟩
  rcases h3 with h3 | ⟨d, gs, e1, e2, e3⟩
  · exact .inl h3
  · exact .inr ⟨d, gs, e1, h _ _ trivial e2, e3.mono p h⟩
/-! ### slots -/
structure EnvR (C : Ctx) (mp : List Addr) (H : Hp) (env : Env) (σ : L2.St) : Prop where
  len : env.length = σ.length
  at_ : ∀ (i : Nat) (d : D), env[i]? = some (some d) → d ≠ .exc → ∃ v, σ[i]? = some (some v) ∧ Rep C mp H d v
  er : ∀ q, C.er = some q → RepX C mp H q.x q.cls q.d
  ex : ∀ i : Nat, env[i]? = some (some .exc) → ∃ q, C.er = some q ∧ q.i = some i ∧ σ[i]? = some (some (.ref q.a))
section
variable {mp mp' : List Addr} {S : Sto} {H H' : Hp} {env : Env} {σ : L2.St}
theorem EnvR.mono (p : mp <+: mp') (h : HLe H H') (e : EnvR C mp H env σ) : EnvR C mp' H' env σ :=
  ⟨e.len, fun i d q n => let ⟨v, h1, h2⟩ := e.at_ i d q n; ⟨v, h1, h2.mono p h⟩, fun q h1 => (e.er q h1).mono p h, e.ex⟩
theorem Rep.noexc {v : V} (r : Rep C mp H .exc v) : False := by cases r
theorem EnvR.set (e : EnvR C mp H env σ) {i : Nat} {d : D} {v : V} (r : Rep C mp H d v) : EnvR C mp H (env.set i (some d)) (σ.set i (some v)) := by
  refine ⟨by simp [e.len], fun j d' q nx => ?_, e.er, fun j q => ?_⟩
  · by_cases hj : i = j
    · subst hj
      have hl : i < env.length := by
        have z := (List.getElem?_eq_some_iff.mp q).1
        simpa using z
      rw [List.getElem?_set_self hl] at q
      cases q
      exact ⟨v, by rw [List.getElem?_set_self (by rw [← e.len]; exact hl)], r⟩
    · rw [List.getElem?_set_ne hj] at q
      obtain ⟨w, h1, h2⟩ := e.at_ j d' q nx
      exact ⟨w, by rw [List.getElem?_set_ne hj]; exact h1, h2⟩
  · by_cases hj : i = j
    · subst hj
      have hl : i < env.length := by
        have z := (List.getElem?_eq_some_iff.mp q).1
        simpa using z
      rw [List.getElem?_set_self hl] at q
      cases q
      exact r.noexc.elim
    · rw [List.getElem?_set_ne hj] at q ⊢
      exact e.ex j q
theorem EnvR.unset (e : EnvR C mp H env σ) (i : Nat) : EnvR C mp H (env.set i none) (σ.set i none) := by
  refine ⟨by simp [e.len], fun j d' q nx => ?_, e.er, fun j q => ?_⟩
  · by_cases hj : i = j
    · subst hj
      have hl : i < env.length := by
        have z := (List.getElem?_eq_some_iff.mp q).1
        simpa using z
      rw [List.getElem?_set_self hl] at q
      cases q
    · rw [List.getElem?_set_ne hj] at q
      obtain ⟨w, h1, h2⟩ := e.at_ j d' q nx
      exact ⟨w, by rw [List.getElem?_set_ne hj]; exact h1, h2⟩
  · by_cases hj : i = j
    · subst hj
      have hl : i < env.length := by
        have z := (List.getElem?_eq_some_iff.mp q).1
        simpa using z
      rw [List.getElem?_set_self hl] at q
      cases q
    · rw [List.getElem?_set_ne hj] at q ⊢
      exact e.ex j q
end

/-! ### ends -/
abbrev RelT (α β : Type) := List Addr → Hp → α → β → Prop
/-- what is wanted of a result -/
def Post {α β : Type} (C : Ctx) (R : RelT α β) (mp : List Addr) (H : Hp) (σ : L2.St) (r : Rs α) (Q : β → Hp → Prop) (W : WX) : Prop := match r with
  | .ok d S' => ∀ mp' H' v, mp <+: mp' → HLe H H' → Rel C mp' S' H' → R mp' H' d v → Q v H'
  | .exc x S' => ∀ mp' H' cls dd, mp <+: mp' → HLe H H' → Rel C mp' S' H' → RepX C mp' H' x cls dd → W cls dd σ H'
  | .fail => False
section
variable {α β γ δ : Type} {R : RelT α β} {R' : RelT γ δ} {mp mp' : List Addr} {S : Sto} {H H' : Hp} {env : Env} {σ : L2.St} {W : WX}
theorem Post.mono {r : Rs α} {Q : β → Hp → Prop} (p : mp <+: mp') (h : HLe H H') (q : Post C R mp H σ r Q W) : Post C R mp' H' σ r Q W := by
  cases r with
  | ok d S' => exact fun m2 H2 v p2 h2 => q m2 H2 v (p.trans p2) (h.trans h2)
  | exc x S' => exact fun m2 H2 c d p2 h2 => q m2 H2 c d (p.trans p2) (h.trans h2)
  | fail => exact q
/-- the reading of an expression's meaning -/
def T (C : Ctx) (W : WX) (R : RelT α β) (m : Env → Sto → Rs α) : L2.St → Hp → (β → Hp → Prop) → Prop := fun σ H Q => ∃ mp env S, Rel C mp S H ∧ EnvR C mp H env σ ∧ Post C R mp H σ (m env S) Q W
theorem T.of {m : Env → Sto → Rs α} {f : α → Sto → Rs γ} {Q : δ → Hp → Prop} {P : β → Hp → Prop} (hR : Rel C mp S H) (hE : EnvR C mp H env σ) (h : Post C R' mp H σ ((m env S).bind f) Q W)
    (hk : ∀ d S1 mp1 H1 x, mp <+: mp1 → HLe H H1 → Rel C mp1 S1 H1 → EnvR C mp1 H1 env σ → R mp1 H1 d x → Post C R' mp1 H1 σ (f d S1) Q W → P x H1) : T C W R m σ H P := by
  refine ⟨mp, env, S, hR, hE, ?_⟩
  cases e : m env S with
  | ok d S1 =>
    rw [e] at h
    exact fun mp1 H1 x p1 h1 R1 r => hk d S1 mp1 H1 x p1 h1 R1 (hE.mono p1 h1) r (Post.mono p1 h1 h)
  | exc x S1 =>
    rw [e] at h
    exact h
  | fail =>
    rw [e] at h
    exact h
end
abbrev RD (C : Ctx) : RelT D V := fun mp H d v => Rep C mp H d v
abbrev RDs (C : Ctx) : RelT (List D) (List V) := fun mp H d v => Reps C mp H d v
abbrev RB : RelT Bool Bool := fun _ _ a b => a = b
theorem _root_.L2.PE.imp {X : Cx} {e : Expr} {t u : TE} (h : PE X e t) (q : ∀ σ H Q, u σ H Q → t σ H Q) : PE X e u := ⟨fun pins s σ H Q I w => h.run pins s σ H Q I (q σ H Q w)⟩
theorem _root_.L2.PT.imp {X : Cx} {e : Expr} {t u : TT} (h : PT X e t) (q : ∀ σ H Q, u σ H Q → t σ H Q) : PT X e u := ⟨fun pins s σ H Q I w => h.run pins s σ H Q I (q σ H Q w)⟩
theorem _root_.L2.PW.imp {X : Cx} {e : Expr} {t u : TT} (h : PW X e t) (q : ∀ σ H Q, u σ H Q → t σ H Q) : PW X e u := ⟨fun wh pins s σ H Q I w => h.run wh pins s σ H Q I (q σ H Q w)⟩
theorem _root_.L2.PA.imp {X : Cx} {e : List Expr} {t u : TA} (h : PA X e t) (q : ∀ σ H Q, u σ H Q → t σ H Q) : PA X e u := ⟨fun pos pins s σ H Q I w => h.run pos pins s σ H Q I (q σ H Q w)⟩
theorem _root_.L2.PS.imp {X : Cx} {st : Stmt} {t u : TS} (h : PS X st t) (q : ∀ Dd σ H, u Dd σ H → t Dd σ H) : PS X st u := ⟨fun pins s σ H Dd I w => h.run pins s σ H Dd I (q Dd σ H w)⟩
theorem _root_.L2.PSs.imp {X : Cx} {st : List Stmt} {t u : TS} (h : PSs X st t) (q : ∀ Dd σ H, u Dd σ H → t Dd σ H) : PSs X st u := ⟨fun pins s σ H Dd I w => h.run pins s σ H Dd I (q Dd σ H w)⟩
/-- statements -/
def PostS (C : Ctx) (mp : List Addr) (H : Hp) (r : Rs Fl) (Dd : Ends) (W : WX) : Prop := match r with
  | .ok (.nx env') S' => ∀ mp' H' σ', mp <+: mp' → HLe H H' → Rel C mp' S' H' → EnvR C mp' H' env' σ' → Dd.nx σ' H'
  | .ok (.bk env') S' => ∀ mp' H' σ', mp <+: mp' → HLe H H' → Rel C mp' S' H' → EnvR C mp' H' env' σ' → Dd.bk σ' H'
  | .ok (.ct env') S' => ∀ mp' H' σ', mp <+: mp' → HLe H H' → Rel C mp' S' H' → EnvR C mp' H' env' σ' → Dd.ct σ' H'
  | .ok (.rt d) S' => ∀ mp' H' v, mp <+: mp' → HLe H H' → Rel C mp' S' H' → Rep C mp' H' d v → Dd.rt v H'
  | .ok (.xc x env') S' => ∀ mp' H' σ' cls dd, mp <+: mp' → HLe H H' → Rel C mp' S' H' → EnvR C mp' H' env' σ' → RepX C mp' H' x cls dd → W cls dd σ' H'
  | .exc x S' => False
  | .fail => False
end Bt

set_option Elab.async false
set_option linter.all false
set_option maxRecDepth 100000
set_option maxHeartbeats 2000000
namespace Bt
open PySem PySem.Spec PyProof.Rows L2

/-! ### by values -/
def Un1 (C : Ctx) (X : Cx) (W : WX) (f : Value → Sem Value) (g : D → Sto → Rs D) : Prop :=
  ∀ (pins : List (Addr × Obj)) (s : Shared) (σ : L2.St) (H : Hp) (x : V) (v : Value) (Q : VK) (mp : List Addr) (S : Sto) (d : D), Inv X pins σ H s → RelV x v → Rel C mp S H → Rep C mp H d x →
    Post C (RD C) mp H σ (g d S) Q W → wpAny (model X.prog X.w) X.A (f v) (EP X pins σ Q) X.xe s
def Op2 (C : Ctx) (X : Cx) (W : WX) (f : Value → Value → Sem Value) (g : D → D → Sto → Rs D) : Prop :=
  ∀ (pins : List (Addr × Obj)) (s : Shared) (σ : L2.St) (H : Hp) (x y : V) (v u : Value) (Q : VK) (mp : List Addr) (S : Sto) (d e : D), Inv X pins σ H s → RelV x v → RelV y u → Rel C mp S H → Rep C mp H d x → Rep C mp H e y →
    Post C (RD C) mp H σ (g d e S) Q W → wpAny (model X.prog X.w) X.A (f v u) (EP X pins σ Q) X.xe s
def CallS (C : Ctx) (X : Cx) (W : WX) (f : Value) (g : List D → Sto → Rs D) : Prop :=
  ∀ (pins : List (Addr × Obj)) (s : Shared) (σ : L2.St) (H : Hp) (xs : List V) (us : List Value) (Q : VK) (mp : List Addr) (S : Sto) (ds : List D), Inv X pins σ H s → Vals xs us → Rel C mp S H → Reps C mp H ds xs →
    Post C (RD C) mp H σ (g ds S) Q W → wpAny (model X.prog X.w) X.A (call f us) (EP X pins σ Q) X.xe s
section
variable {C : Ctx} {X : Cx} {W : WX}
theorem un1_of {f : Value → Sem Value} {r : V → Hp → VK → Prop} {g : D → Sto → Rs D} (h : UnR X f r)
    (q : ∀ (σ : L2.St) (H : Hp) (x : V) (Q : VK) (mp : List Addr) (S : Sto) (d : D), Rel C mp S H → Rep C mp H d x → Post C (RD C) mp H σ (g d S) Q W → r x H Q) : Un1 C X W f g :=
  fun pins s σ H x v Q mp S d I r1 hR rd hp => h pins s σ H x v Q I r1 (q σ H x Q mp S d hR rd hp)
theorem op2_of {f : Value → Value → Sem Value} {r : R2} {g : D → D → Sto → Rs D} (h : OpR X f r)
    (q : ∀ (σ : L2.St) (H : Hp) (x y : V) (Q : VK) (mp : List Addr) (S : Sto) (d e : D), Rel C mp S H → Rep C mp H d x → Rep C mp H e y → Post C (RD C) mp H σ (g d e S) Q W → r x y H Q) : Op2 C X W f g :=
  fun pins s σ H x y v u Q mp S d e I r1 r2 hR rd re hp => h pins s σ H x y v u Q I r1 r2 (q σ H x y Q mp S d e hR rd re hp)
theorem callS_of {f : Value} {r : List V → Hp → VK → Prop} {g : List D → Sto → Rs D} (h : CallR X f r)
    (q : ∀ (σ : L2.St) (H : Hp) (xs : List V) (Q : VK) (mp : List Addr) (S : Sto) (ds : List D), Rel C mp S H → Reps C mp H ds xs → Post C (RD C) mp H σ (g ds S) Q W → r xs H Q) : CallS C X W f g :=
  fun pins s σ H xs us Q mp S ds I r1 hR rd hp => h pins s σ H xs us Q I r1 (q σ H xs Q mp S ds hR rd hp)

/-! ### what an expression means -/
def mVar (i : Nat) : ME := fun env S => match env[i]? with
  | some (some .exc) => .fail
  | some (some d) => .ok d S
  | _ => .fail
def mC (d : D) : ME := fun _ S => .ok d S
def mUn (g : D → Sto → Rs D) (a : ME) : ME := fun env S => (a env S).bind fun d S => g d S
def mOp (g : D → D → Sto → Rs D) (a b : ME) : ME := fun env S => (a env S).bind fun d S => (b env S).bind fun e S => g d e S
def mNil : MA := fun _ S => .ok [] S
def mCons (a : ME) (r : MA) : MA := fun env S => (a env S).bind fun d S => (r env S).bind fun ds S => .ok (d :: ds) S
def mTup (a : MA) : ME := fun env S => (a env S).bind fun ds S => if ds.length ≤ sizeLine then .ok (.tup ds) S else .fail
def mLst (a : MA) : ME := fun env S => (a env S).bind fun ds S => if ds.length ≤ sizeLine then .ok (.ref S.length) (S ++ [.lst ds]) else .fail
abbrev SE (C : Ctx) (X : Cx) (W : WX) (e : Expr) (m : ME) : Prop := PE X e (T C W (RD C) m)
abbrev ST (C : Ctx) (X : Cx) (W : WX) (e : Expr) (m : MT) : Prop := PT X e (T C W RB m)
abbrev SA (C : Ctx) (X : Cx) (W : WX) (e : List Expr) (m : MA) : Prop := PA X e (T C W (RDs C) m)
variable {a b c : Expr} {pos : Pos} {ma mb mc : ME}
theorem s_var {i : Nat} {x : Str} (hN : X.N[i]? = some x) (hv : Vis X.env.scope x) (hd : (x == ("__debug__" : Str)) = false) (hcd : (x == ("__classdict__" : Str)) = false) : SE C X W (.Name x pos) (mVar i) := by
  refine (pe_var hN hv hd hcd).imp fun σ H Q ⟨mp, env, S, hR, hE, h⟩ => ?_
  unfold mVar at h
  split at h
  · exact h.elim
  · rename_i d ne e
    obtain ⟨v, h1, h2⟩ := hE.at_ i d e ne
    exact ⟨v, h1, h mp H v (List.prefix_refl _) (HLe.refl _) hR h2⟩
  · exact h.elim
theorem T.now {α β : Type} {R : RelT α β} {m : Env → Sto → Rs α} {σ : L2.St} {H : Hp} {Q : β → Hp → Prop} {d : α} {v : β} (h : T C W R m σ H Q) (e : ∀ env S, m env S = .ok d S) (r : ∀ mp, R mp H d v) : Q v H := by
  obtain ⟨mp, env, S, hR, hE, h⟩ := h
  rw [e] at h
  exact h mp H v (List.prefix_refl _) (HLe.refl _) hR (r mp)
theorem s_int {i : Int} {j : Nat} : SE C X W (.Constant (.int i) j pos) (mC (.int i)) := (pe_int).imp fun σ H Q h => h.now (fun _ _ => rfl) fun _ => .int i
theorem s_bl {i : Bool} {j : Nat} : SE C X W (.Constant (.bool i) j pos) (mC (.bl i)) := (pe_bl).imp fun σ H Q h => h.now (fun _ _ => rfl) fun _ => .bl i
theorem s_str {i : Str} {j : Nat} : SE C X W (.Constant (.str i) j pos) (mC (.str i)) := (pe_str).imp fun σ H Q h => h.now (fun _ _ => rfl) fun _ => .str i
theorem s_non {j : Nat} : SE C X W (.Constant .none j pos) (mC .non) := (pe_non).imp fun σ H Q h => h.now (fun _ _ => rfl) fun _ => .non
theorem s_glob {x : Str} {v : V} {u : Value} {d : D} (hg : Gl X x) (hm : X.mg x = some u) (r : RelV v u) (rd : ∀ mp H, Rep C mp H d v) (hd : (x == ("__debug__" : Str)) = false) : SE C X W (.Name x pos) (mC d) :=
  (pe_glob hg hm r hd).imp fun σ H Q h => h.now (fun _ _ => rfl) fun mp => rd mp H
theorem s_bltn {x : Str} {n : String} (hg : Gl X x) (hm : X.mg x = none) (hv : bootBuiltins x = some (.type n)) (hn : x ≠ "__name__") (hd : (x == ("__debug__" : Str)) = false) : SE C X W (.Name x pos) (mC (.ty n)) :=
  (pe_bltn (v := .ty n) hg hm hv rfl hn hd).imp fun σ H Q h => h.now (fun _ _ => rfl) fun mp => .ty n
theorem s_op {op : Operator} {g : D → D → Sto → Rs D} (ho : Op2 C X W (binaryOp op) g) (ha : SE C X W a ma) (hb : SE C X W b mb) : SE C X W (.BinOp a op b pos) (mOp g ma mb) := by
  refine ⟨fun pins s σ H Q I ⟨mp, env, S, hR, hE, h⟩ => ?_⟩
  refine wpAny_BinOp (bin ha hb (R := fun x y H2 => ∃ mp2 S2 d e, Rel C mp2 S2 H2 ∧ Rep C mp2 H2 d x ∧ Rep C mp2 H2 e y ∧ Post C (RD C) mp2 H2 σ (g d e S2) Q W) I (T.of hR hE h fun d1 S1 mp1 H1 x p1 l1 R1 E1 r1 h1 => T.of R1 E1 h1 fun d2 S2 mp2 H2 y p2 l2 R2 E2 r2 h2 => ?_) fun v u s2 x y H2 I2 rx ry q => ?_)
  · exact ⟨mp2, S2, d1, d2, R2, r1.mono p2 l2, r2, h2⟩
  · obtain ⟨mp2, S2, d, e, R2, r1, r2, h2⟩ := q
    exact ho pins s2 σ H2 x y v u Q mp2 S2 d e I2 rx ry R2 r1 r2 h2
theorem s_un {op : UnaryOp} {g : D → Sto → Rs D} (ho : Un1 C X W (unaryOp op) g) (ha : SE C X W a ma) : SE C X W (.UnaryOp op a pos) (mUn g ma) := by
  refine ⟨fun pins s σ H Q I ⟨mp, env, S, hR, hE, h⟩ => ?_⟩
  refine UnaryOp_ (thn (ha.run pins s σ H (fun x H1 => ∃ mp1 S1 d, Rel C mp1 S1 H1 ∧ Rep C mp1 H1 d x ∧ Post C (RD C) mp1 H1 σ (g d S1) Q W) I (T.of hR hE h fun d1 S1 mp1 H1 x p1 l1 R1 E1 r1 h1 => ⟨mp1, S1, d1, R1, r1, h1⟩)) fun v s1 ⟨x, H1, I1, rx, mp1, S1, d, R1, r1, h1⟩ => ?_)
  exact ho pins s1 σ H1 x v Q mp1 S1 d I1 rx R1 r1 h1
theorem s_cmp {op : CmpOp} {g : D → D → Sto → Rs D} (ho : Op2 C X W (compareOp op) g) (ha : SE C X W a ma) (hb : SE C X W b mb) (hm : behindInMarks op b = false) : SE C X W (.Compare a [op] [b] pos) (mOp g ma mb) := by
  refine ⟨fun pins s σ H Q I ⟨mp, env, S, hR, hE, h⟩ => ?_⟩
  refine wpAny_Compare1 (bin ha hb (R := fun x y H2 => ∃ mp2 S2 d e, Rel C mp2 S2 H2 ∧ Rep C mp2 H2 d x ∧ Rep C mp2 H2 e y ∧ Post C (RD C) mp2 H2 σ (g d e S2) Q W) I (T.of hR hE h fun d1 S1 mp1 H1 x p1 l1 R1 E1 r1 h1 => T.of R1 E1 h1 fun d2 S2 mp2 H2 y p2 l2 R2 E2 r2 h2 => ?_) fun v u s2 x y H2 I2 rx ry q => ?_) hm
  · exact ⟨mp2, S2, d1, d2, R2, r1.mono p2 l2, r2, h2⟩
  · obtain ⟨mp2, S2, d, e, R2, r1, r2, h2⟩ := q
    exact ho pins s2 σ H2 x y v u Q mp2 S2 d e I2 rx ry R2 r1 r2 h2
/-- lists of arguments -/
theorem s_nil : SA C X W [] mNil := (pa_nil).imp fun σ H Q h => h.now (fun _ _ => rfl) fun mp => .nil
theorem s_cons {e : Expr} {es : List Expr} {m : ME} {r : MA} (ha : SE C X W e m) (hr : SA C X W es r) (hs : starEach (e :: es) X.env = (false, eval e X.env) :: starEach es X.env) : SA C X W (e :: es) (mCons m r) := by
  refine (pa_cons ha hr hs).imp fun σ H Q ⟨mp, env, S, hR, hE, h⟩ => ?_
  refine T.of hR hE h fun d1 S1 mp1 H1 x p1 l1 R1 E1 r1 h1 => T.of R1 E1 h1 fun d2 S2 mp2 H2 y p2 l2 R2 E2 r2 h2 => ?_
  exact h2 mp2 H2 (x :: y) (List.prefix_refl _) (HLe.refl _) R2 (.cons (r1.mono p2 l2) r2)
theorem s_tup {es : List Expr} {m : MA} {k : Nat} (h : SA C X W es m) : SE C X W (.Tuple es k pos) (mTup m) := by
  refine (pe_tup h).imp fun σ H Q ⟨mp, env, S, hR, hE, h⟩ => ?_
  refine T.of hR hE h fun ds S1 mp1 H1 xs p1 l1 R1 E1 r1 h1 => ?_
  by_cases hz : ds.length ≤ sizeLine
  · rw [if_pos hz] at h1
    refine ⟨by rw [← r1.length]; exact hz, fun p hp => ?_⟩
    exact h1 mp1 _ (.ref p) (List.prefix_refl _) (HLe.new hp) (R1.new hp) (.tup (.inl upd_same) (r1.mono (List.prefix_refl _) (HLe.new hp)))
  · rw [if_neg hz] at h1; exact h1.elim
theorem s_lst {es : List Expr} {m : MA} (h : SA C X W es m) : SE C X W (.List es pos) (mLst m) := by
  refine (pe_lst h).imp fun σ H Q ⟨mp, env, S, hR, hE, h⟩ => ?_
  refine T.of hR hE h fun ds S1 mp1 H1 xs p1 l1 R1 E1 r1 h1 => ?_
  by_cases hz : ds.length ≤ sizeLine
  · rw [if_pos hz] at h1
    refine ⟨by rw [← r1.length]; exact hz, fun p hp => ?_⟩
    refine h1 (mp1 ++ [p]) _ (.ref p) (List.prefix_append _ _) (HLe.new hp) (R1.push hp ⟨xs, upd_same, r1.mono (List.prefix_append _ _) (HLe.new hp)⟩) (.ref ?_)
    rw [List.getElem?_append_right (by rw [R1.len]; exact Nat.le_refl _), R1.len]
    simp
  · rw [if_neg hz] at h1; exact h1.elim

def mDic0 : ME := fun _ S => .ok (.ref S.length) (S ++ [.dic []])
theorem s_dic0 : SE C X W (.Dict [] [] pos) mDic0 := by
  refine pe_dnewK.imp fun σ H Q ⟨mp, env, S, hR, hE, h⟩ p hp => ?_
  refine h (mp ++ [p]) _ (.ref p) (List.prefix_append _ _) (HLe.new hp) (hR.push hp ⟨[], upd_same, rfl, .nil⟩) (.ref ?_)
  rw [List.getElem?_append_right (by rw [hR.len]; exact Nat.le_refl _), hR.len]
  simp

/-! ### tests -/
def mTru (g : D → Sto → Option Bool) (a : ME) : MT := fun env S => (a env S).bind fun d S => match g d S with
  | some k => .ok k S
  | none => .fail
def mNotT (a : MT) : MT := fun env S => (a env S).bind fun k S => .ok (!k) S
def mAndT (a b : MT) : MT := fun env S => (a env S).bind fun k S => if k then b env S else .ok false S
def mOrT (a b : MT) : MT := fun env S => (a env S).bind fun k S => if k then .ok true S else b env S
def truD : D → Sto → Option Bool
  | .non, _ => some false
  | .bl b, _ => some b
  | .int i, _ => some (i != 0)
  | .str x, _ => if x.length ≤ sizeLine then some ((x.length : Int) != 0) else none
  | .tup xs, _ => some (!xs.isEmpty)
  | .ref n, S => match S[n]? with
    | some (.lst xs) => some (!xs.isEmpty)
    | some (.ro xs) => some (!xs.isEmpty)
    | some (.dic kvs) => some (!kvs.isEmpty)
    | _ => none
  | _, _ => none
theorem isEmpty_reps {mp : List Addr} {H : Hp} {ds : List D} {vs : List V} (r : Reps C mp H ds vs) : ds.isEmpty = vs.isEmpty := by
  cases r <;> rfl
theorem truD_ok {mp : List Addr} {S : Sto} {H : Hp} {d : D} {x : V} {k : Bool} (hR : Rel C mp S H) (r : Rep C mp H d x) (e : truD d S = some k) (hK : X.K = C.K) : TruV X.K x H k := by
  unfold truD at e
  unfold TruV
  cases r with
  | non => cases e; rfl
  | bl b => cases e; rfl
  | int i => cases e; rfl
  | str z =>
    dsimp only at e
    split at e
    · rename_i hz
      cases e
      exact ⟨hz, rfl⟩
    · cases e
  | tup q t =>
    rename_i ds vs a
    dsimp only at e
    cases e
    exact .inr (.inl ⟨vs, hK ▸ q.sq, by rw [isEmpty_reps t]⟩)
  | ref q =>
    rename_i n a
    dsimp only at e
    obtain ⟨o, ho, ro⟩ := hR.atA q
    rw [ho] at e
    cases o with
    | lst xs =>
      obtain ⟨vs, h1, h2⟩ := ro
      cases e
      exact .inl ⟨vs, SqL.of h1, by rw [isEmpty_reps h2]⟩
    | ro xs =>
      obtain ⟨oo, vs, h1, h2⟩ := ro
      cases e
      exact .inl ⟨vs, .inl (.inr ⟨oo, h1⟩), by rw [isEmpty_reps h2]⟩
    | dic kvs =>
      obtain ⟨kws, h1, h2⟩ := ro
      cases e
      refine .inr (.inr ?_)
      have : kvs.isEmpty = kws.isEmpty := by
        have hl := congrArg List.length h2.1
        simp at hl
        cases kvs <;> cases kws <;> simp_all
      first
        | exact ⟨kws, .inl (.inl h1), by rw [this]⟩
        | exact ⟨kws, .inl h1, by rw [this]⟩
        | exact ⟨kws, h1, by rw [this]⟩
    | ins c fs => cases e
  | glo _ => cases e
  | ty _ => cases e
  | fz _ _ => cases e
theorem s_truth (hK : X.K = C.K) (ha : SE C X W a ma) (he : ∀ whole, isTrue a X.env whole = (do let v ← whole; standAt a.pos; holding [v] (truthy v))) : ST C X W a (mTru truD ma) := by
  refine (pt_truth ha he).imp fun σ H Q ⟨mp, env, S, hR, hE, h⟩ => ?_
  refine T.of hR hE h fun d1 S1 mp1 H1 x p1 l1 R1 E1 r1 h1 => ?_
  cases e : truD d1 S1 with
  | none => rw [e] at h1; exact h1.elim
  | some k =>
    rw [e] at h1
    exact ⟨k, truD_ok R1 r1 e hK, h1 mp1 H1 k (List.prefix_refl _) (HLe.refl _) R1 rfl⟩
theorem s_not {m : MT} (ha : ST C X W a m) : ST C X W (.UnaryOp .Not a pos) (mNotT m) := by
  refine (pt_not ha).imp fun σ H Q ⟨mp, env, S, hR, hE, h⟩ => ?_
  refine T.of hR hE h fun d1 S1 mp1 H1 x p1 l1 R1 E1 r1 h1 => ?_
  cases r1
  exact h1 mp1 H1 _ (List.prefix_refl _) (HLe.refl _) R1 rfl
abbrev SW (C : Ctx) (X : Cx) (W : WX) (e : Expr) (m : MT) : Prop := PW X e (T C W RB m)
variable {m m' : MT} {rest : List Expr}
theorem s_and1 (ha : ST C X W a m) : SW C X W (.BoolOp .And [a] pos) m := pw_and1 ha
theorem s_or1 (ha : ST C X W a m) : SW C X W (.BoolOp .Or [a] pos) m := pw_or1 ha
theorem s_and (ha : ST C X W a m) (hb : SW C X W (.BoolOp .And (b :: rest) pos) m') : SW C X W (.BoolOp .And (a :: b :: rest) pos) (mAndT m m') := by
  refine (pw_and ha hb).imp fun σ H Q ⟨mp, env, S, hR, hE, h⟩ => ?_
  refine T.of hR hE h fun d1 S1 mp1 H1 x p1 l1 R1 E1 r1 h1 => ?_
  cases r1
  cases d1 with
  | true => exact ⟨mp1, env, S1, R1, E1, h1⟩
  | false => exact h1 mp1 H1 _ (List.prefix_refl _) (HLe.refl _) R1 rfl
theorem s_or (ha : ST C X W a m) (hb : SW C X W (.BoolOp .Or (b :: rest) pos) m') : SW C X W (.BoolOp .Or (a :: b :: rest) pos) (mOrT m m') := by
  refine (pw_or ha hb).imp fun σ H Q ⟨mp, env, S, hR, hE, h⟩ => ?_
  refine T.of hR hE h fun d1 S1 mp1 H1 x p1 l1 R1 E1 r1 h1 => ?_
  cases r1
  cases d1 with
  | false => exact ⟨mp1, env, S1, R1, E1, h1⟩
  | true => exact h1 mp1 H1 _ (List.prefix_refl _) (HLe.refl _) R1 rfl
end
end Bt

set_option Elab.async false
set_option linter.all false
set_option maxRecDepth 100000
set_option maxHeartbeats 2000000
namespace Bt
open PySem PySem.Spec PyProof.Rows L2
section
variable {C : Ctx} {X : Cx} {W : WX} {a b c : Expr} {pos : Pos} {ma mb mc : ME}
theorem Post.done {α β : Type} {R : RelT α β} {mp : List Addr} {H : Hp} {σ : L2.St} {d : α} {S : Sto} {Q : β → Hp → Prop} {v : β} (h : Post C R mp H σ (.ok d S) Q W) (hR : Rel C mp S H) (r : R mp H d v) : Q v H := h mp H v (List.prefix_refl _) (HLe.refl _) hR r

/-! ### and, or, not as values; a if t else b -/
def mAndV (a b : ME) : ME := fun env S => (a env S).bind fun d S => match truD d S with
  | some true => b env S
  | some false => .ok d S
  | none => .fail
def mOrV (a b : ME) : ME := fun env S => (a env S).bind fun d S => match truD d S with
  | some true => .ok d S
  | some false => b env S
  | none => .fail
def mNotV (a : ME) : ME := fun env S => (a env S).bind fun d S => match truD d S with
  | some k => .ok (.bl (!k)) S
  | none => .fail
def mIfE (t : MT) (a b : ME) : ME := fun env S => (t env S).bind fun k S => if k then a env S else b env S
variable {rest : List Expr} {m : MT}
theorem s_oneV {op} (h : SE C X W a ma) : SE C X W (.BoolOp op [a] pos) ma := pe_one h
theorem s_andV (hK : X.K = C.K) (ha : SE C X W a ma) (hb : SE C X W (.BoolOp .And (b :: rest) pos) mb) : SE C X W (.BoolOp .And (a :: b :: rest) pos) (mAndV ma mb) := by
  refine (pe_andT ha hb).imp fun σ H Q ⟨mp, env, S, hR, hE, h⟩ => ?_
  refine T.of hR hE h fun d1 S1 mp1 H1 x p1 l1 R1 E1 r1 h1 => ?_
  cases e : truD d1 S1 with
  | none => rw [e] at h1; exact h1.elim
  | some k =>
    rw [e] at h1
    refine ⟨k, truD_ok R1 r1 e hK, ?_⟩
    cases k with
    | true => exact ⟨mp1, env, S1, R1, E1, h1⟩
    | false => exact h1.done R1 r1
theorem s_orV (hK : X.K = C.K) (ha : SE C X W a ma) (hb : SE C X W (.BoolOp .Or (b :: rest) pos) mb) : SE C X W (.BoolOp .Or (a :: b :: rest) pos) (mOrV ma mb) := by
  refine (pe_orT ha hb).imp fun σ H Q ⟨mp, env, S, hR, hE, h⟩ => ?_
  refine T.of hR hE h fun d1 S1 mp1 H1 x p1 l1 R1 E1 r1 h1 => ?_
  cases e : truD d1 S1 with
  | none => rw [e] at h1; exact h1.elim
  | some k =>
    rw [e] at h1
    refine ⟨k, truD_ok R1 r1 e hK, ?_⟩
    cases k with
    | false => exact ⟨mp1, env, S1, R1, E1, h1⟩
    | true => exact h1.done R1 r1
theorem s_notV (hK : X.K = C.K) (ha : SE C X W a ma) : SE C X W (.UnaryOp .Not a pos) (mNotV ma) := by
  refine (pe_notT ha).imp fun σ H Q ⟨mp, env, S, hR, hE, h⟩ => ?_
  refine T.of hR hE h fun d1 S1 mp1 H1 x p1 l1 R1 E1 r1 h1 => ?_
  cases e : truD d1 S1 with
  | none => rw [e] at h1; exact h1.elim
  | some k =>
    rw [e] at h1
    exact ⟨k, truD_ok R1 r1 e hK, h1.done R1 (.bl _)⟩
theorem s_ifE (hc : ST C X W c m) (ha : SE C X W a ma) (hb : SE C X W b mb) : SE C X W (.IfExp c a b pos) (mIfE m ma mb) := by
  refine (pe_ifExp hc ha hb).imp fun σ H Q ⟨mp, env, S, hR, hE, h⟩ => ?_
  refine T.of hR hE h fun d1 S1 mp1 H1 x p1 l1 R1 E1 r1 h1 => ?_
  cases r1
  cases d1 with
  | true => exact ⟨mp1, env, S1, R1, E1, h1⟩
  | false => exact ⟨mp1, env, S1, R1, E1, h1⟩

/-! ### a comparison as a test; a chain of two -/
def blR : Rs D → Rs Bool := fun r => r.bind fun d S => match d with
  | .bl k => .ok k S
  | _ => .fail
def mTest (a : ME) : MT := fun env S => blR (a env S)
theorem Rs.bind_assoc {α β γ : Type} (r : Rs α) (f : α → Sto → Rs β) (g : β → Sto → Rs γ) : (r.bind f).bind g = r.bind fun a S => (f a S).bind g := by cases r <;> rfl
theorem Post.test {mp : List Addr} {H : Hp} {σ : L2.St} {r : Rs D} {Q : Bool → Hp → Prop} (h : Post C RB mp H σ (blR r) Q W) : Post C (RD C) mp H σ r (fun x H1 => ∃ k, x = .bl k ∧ Q k H1) W := by
  cases r with
  | fail => exact h
  | exc x S => exact h
  | ok d S =>
    cases d with
    | bl k =>
      intro mp' H' v p l R r
      cases r
      exact ⟨k, rfl, h mp' H' k p l R rfl⟩
    | _ => exact h.elim
theorem s_tcmp {op : CmpOp} {g : D → D → Sto → Rs D} (ho : Op2 C X W (compareOp op) g) (ha : SE C X W a ma) (hb : SE C X W b mb) (hm : behindInMarks op b = false) : ST C X W (.Compare a [op] [b] pos) (mTest (mOp g ma mb)) := by
  refine ⟨fun pins s σ H Q I ⟨mp, env, S, hR, hE, h⟩ => ?_⟩
  have h' := Post.test h
  have key := bin ha hb (R := fun x y H2 => ∃ mp2 S2 d e, Rel C mp2 S2 H2 ∧ Rep C mp2 H2 d x ∧ Rep C mp2 H2 e y ∧ Post C (RD C) mp2 H2 σ (g d e S2) (fun x H1 => ∃ k, x = .bl k ∧ Q k H1) W) I
    (T.of hR hE h' fun d1 S1 mp1 H1 x p1 l1 R1 E1 r1 h1 => T.of R1 E1 h1 fun d2 S2 mp2 H2 y p2 l2 R2 E2 r2 h2 => ⟨mp2, S2, d1, d2, R2, r1.mono p2 l2, r2, h2⟩)
    (Q := EP X pins σ fun x H1 => ∃ k, x = .bl k ∧ Q k H1) (f := compareOp op) fun v u s2 x y H2 I2 rx ry ⟨mp2, S2, d, e, R2, r1, r2, h2⟩ => ho pins s2 σ H2 x y v u _ mp2 S2 d e I2 rx ry R2 r1 r2 h2
  refine wpAny_isTrue_Compare1 (thn key fun v s1 h1 => thn h1 fun u s2 h2 => thn h2 fun c s3 ⟨x, H1, I1, r1, q1⟩ => ?_) hm
  obtain ⟨k, rfl, q⟩ := q1
  cases r1
  exact wpAny_truthy_bool ⟨H1, I1, q⟩
def mChain (g g' : D → D → Sto → Rs D) (a b c : ME) : ME := fun env S => (a env S).bind fun d S => (b env S).bind fun e S => (g d e S).bind fun z S => match z with
  | .bl true => (c env S).bind fun f S => g' e f S
  | .bl false => .ok (.bl false) S
  | _ => .fail
theorem s_chain {op op' : CmpOp} {g g' : D → D → Sto → Rs D} (ho : Op2 C X W (compareOp op) g) (ho' : Op2 C X W (compareOp op') g') (ha : SE C X W a ma) (hb : SE C X W b mb) (hc : SE C X W c mc) (hm : lastMarks [op, op'] [b, c] = false) :
    SE C X W (.Compare a [op, op'] [b, c] pos) (mChain g g' ma mb mc) := by
  refine ⟨fun pins s σ H Q I ⟨mp, env, S, hR, hE, h⟩ => ?_⟩
  refine Compare_chain (thn (ha.run pins s σ H (fun x H1 => ∃ mp1 S1 d, Rel C mp1 S1 H1 ∧ EnvR C mp1 H1 env σ ∧ Rep C mp1 H1 d x ∧ Post C (RD C) mp1 H1 σ _ Q W) I (T.of hR hE h fun d1 S1 mp1 H1 x p1 l1 R1 E1 r1 h1 => ⟨mp1, S1, d1, R1, E1, r1, h1⟩)) fun v s1 ⟨x, H1, I1, rx, mp1, S1, d, R1, E1, r1, h1⟩ => chain_link ?_) hm
  refine thn (hb.run pins s1 σ H1 (fun y H2 => ∃ mp2 S2 e, Rel C mp2 S2 H2 ∧ EnvR C mp2 H2 env σ ∧ Rep C mp2 H2 d x ∧ Rep C mp2 H2 e y ∧ Post C (RD C) mp2 H2 σ _ Q W) I1 (T.of R1 E1 h1 fun d2 S2 mp2 H2 y p2 l2 R2 E2 r2 h2 => ⟨mp2, S2, d2, R2, E2, r1.mono p2 l2, r2, h2⟩)) fun u s2 ⟨y, H2, I2, ry, mp2, S2, e, R2, E2, r1', r2, h2⟩ => ?_
  have mid : Post C (RD C) mp2 H2 σ (g d e S2) (fun z H3 => ∃ k mp3 S3, z = .bl k ∧ mp2 <+: mp3 ∧ HLe H2 H3 ∧ Rel C mp3 S3 H3 ∧ Post C (RD C) mp3 H3 σ (match D.bl k with | .bl true => (mc env S3).bind fun f S => g' e f S | .bl false => .ok (.bl false) S3 | _ => .fail) Q W) W := by
    cases q : g d e S2 with
    | fail => rw [q] at h2; exact h2
    | exc x S => rw [q] at h2; exact h2
    | ok z S3 =>
      rw [q] at h2
      intro mp3 H3 v p l R3 rz
      cases rz with
      | bl k => exact ⟨k, mp3, S3, rfl, p, l, R3, Post.mono p l h2⟩
      | _ => exact (show False from h2).elim
  refine thn (ho pins s2 σ H2 x y v u _ mp2 S2 d e I2 rx ry R2 r1' r2 mid) fun dv s3 ⟨z, H3, I3, r3, k, mp3, S3, ez, p3, l3, R3, h3⟩ => ?_
  subst ez
  cases r3
  refine wpAny_truthy_bool ?_
  cases k with
  | false => exact ite_ff ⟨.bl false, H3, I3, rfl, h3.done R3 (.bl false)⟩
  | true =>
    refine ite_tt (chain_last (thn (hc.run pins s3 σ H3 (fun w H4 => ∃ mp4 S4 f, Rel C mp4 S4 H4 ∧ Rep C mp4 H4 e y ∧ Rep C mp4 H4 f w ∧ Post C (RD C) mp4 H4 σ (g' e f S4) Q W) I3 (T.of R3 (E2.mono p3 l3) h3 fun d4 S4 mp4 H4 w p4 l4 R4 E4 r4 h4 => ⟨mp4, S4, d4, R4, r2.mono (p3.trans p4) (l3.trans l4), r4, h4⟩)) fun w' s4 ⟨z', H4, I4, r4, mp4, S4, f, R4, re, rf, h4⟩ => ?_))
    exact ho' pins s4 σ H4 y z' u w' Q mp4 S4 e f I4 ry r4 R4 re rf h4
theorem s_tchain {op op' : CmpOp} {g g' : D → D → Sto → Rs D} (ho : Op2 C X W (compareOp op) g) (ho' : Op2 C X W (compareOp op') g') (ha : SE C X W a ma) (hb : SE C X W b mb) (hc : SE C X W c mc) (hm : lastMarks [op, op'] [b, c] = false) :
    ST C X W (.Compare a [op, op'] [b, c] pos) (mTest (mChain g g' ma mb mc)) := by
  refine ⟨fun pins s σ H Q I ⟨mp, env, S, hR, hE, h0⟩ => ?_⟩
  have h := Post.test h0
  refine isTrue_chain (thn (ha.run pins s σ H (fun x H1 => ∃ mp1 S1 d, Rel C mp1 S1 H1 ∧ EnvR C mp1 H1 env σ ∧ Rep C mp1 H1 d x ∧ Post C (RD C) mp1 H1 σ _ (fun x H1 => ∃ k, x = .bl k ∧ Q k H1) W) I (T.of hR hE h fun d1 S1 mp1 H1 x p1 l1 R1 E1 r1 h1 => ⟨mp1, S1, d1, R1, E1, r1, h1⟩)) fun v s1 ⟨x, H1, I1, rx, mp1, S1, d, R1, E1, r1, h1⟩ => test_link ?_) hm
  refine thn (hb.run pins s1 σ H1 (fun y H2 => ∃ mp2 S2 e, Rel C mp2 S2 H2 ∧ EnvR C mp2 H2 env σ ∧ Rep C mp2 H2 d x ∧ Rep C mp2 H2 e y ∧ Post C (RD C) mp2 H2 σ _ (fun x H1 => ∃ k, x = .bl k ∧ Q k H1) W) I1 (T.of R1 E1 h1 fun d2 S2 mp2 H2 y p2 l2 R2 E2 r2 h2 => ⟨mp2, S2, d2, R2, E2, r1.mono p2 l2, r2, h2⟩)) fun u s2 ⟨y, H2, I2, ry, mp2, S2, e, R2, E2, r1', r2, h2⟩ => ?_
  have mid : Post C (RD C) mp2 H2 σ (g d e S2) (fun z H3 => ∃ k mp3 S3, z = .bl k ∧ mp2 <+: mp3 ∧ HLe H2 H3 ∧ Rel C mp3 S3 H3 ∧ Post C (RD C) mp3 H3 σ (match D.bl k with | .bl true => (mc env S3).bind fun f S => g' e f S | .bl false => .ok (.bl false) S3 | _ => .fail) (fun x H1 => ∃ k, x = .bl k ∧ Q k H1) W) W := by
    cases q : g d e S2 with
    | fail => rw [q] at h2; exact h2
    | exc x S => rw [q] at h2; exact h2
    | ok z S3 =>
      rw [q] at h2
      intro mp3 H3 v p l R3 rz
      cases rz with
      | bl k => exact ⟨k, mp3, S3, rfl, p, l, R3, Post.mono p l h2⟩
      | _ => exact (show False from h2).elim
  refine thn (ho pins s2 σ H2 x y v u _ mp2 S2 d e I2 rx ry R2 r1' r2 mid) fun dv s3 ⟨z, H3, I3, r3, k, mp3, S3, ez, p3, l3, R3, h3⟩ => ?_
  subst ez
  cases r3
  refine wpAny_truthy_bool ?_
  cases k with
  | false =>
    obtain ⟨k', e', q'⟩ := h3.done R3 (v := V.bl false) (.bl false)
    cases e'
    exact ite_ff ⟨H3, I3, q'⟩
  | true =>
    refine ite_tt (test_last (thn (hc.run pins s3 σ H3 (fun w H4 => ∃ mp4 S4 f, Rel C mp4 S4 H4 ∧ Rep C mp4 H4 e y ∧ Rep C mp4 H4 f w ∧ Post C (RD C) mp4 H4 σ (g' e f S4) (fun x H1 => ∃ k, x = .bl k ∧ Q k H1) W) I3 (T.of R3 (E2.mono p3 l3) h3 fun d4 S4 mp4 H4 w p4 l4 R4 E4 r4 h4 => ⟨mp4, S4, d4, R4, r2.mono (p3.trans p4) (l3.trans l4), r4, h4⟩)) fun w' s4 ⟨z', H4, I4, r4, mp4, S4, f, R4, re, rf, h4⟩ => ?_))
    refine thn (ho' pins s4 σ H4 y z' u w' _ mp4 S4 e f I4 ry r4 R4 re rf h4) fun d' s5 ⟨z2, H5, I5, r5, k2, e2, q5⟩ => ?_
    subst e2
    cases r5
    exact wpAny_truthy_bool ⟨H5, I5, q5⟩
end
end Bt

set_option Elab.async false
set_option linter.all false
set_option maxRecDepth 100000
set_option maxHeartbeats 2000000
namespace Bt
open PySem PySem.Spec PyProof.Rows L2

/-! ### operators by values -/
def addD : D → D → Sto → Rs D
  | .int i, .int j, S => .ok (.int (i + j)) S
  | .str x, .str y, S => if x.length + y.length ≤ sizeLine then .ok (.str (x ++ y)) S else .fail
  | .tup xs, .tup ys, S => if xs.length + ys.length ≤ sizeLine then .ok (.tup (xs ++ ys)) S else .fail
  | .ref n, .ref k, S => match S[n]?, S[k]? with
    | some (.lst xs), some (.lst ys) => if xs.length + ys.length ≤ sizeLine then .ok (.ref S.length) (S ++ [.lst (xs ++ ys)]) else .fail
    | _, _ => .fail
  | _, _, _ => .fail
def intOp (p : Int → Int → Bool) (f : Int → Int → Int) : D → D → Sto → Rs D
  | .int i, .int j, S => if p i j then .ok (.int (f i j)) S else .fail
  | _, _, _ => .fail
abbrev subI : D → D → Sto → Rs D := intOp (fun _ _ => true) (fun i j => i - j)
instance (i j : Int) : Decidable (CMul i j) := by unfold CMul; infer_instance
instance (i j : Int) : Decidable (CDiv i j) := by unfold CDiv; infer_instance
instance (i j : Int) : Decidable (CPow i j) := by unfold CPow; infer_instance
abbrev mulI : D → D → Sto → Rs D := intOp (fun i j => decide (CMul i j)) (fun i j => i * j)
abbrev divI : D → D → Sto → Rs D := intOp (fun i j => decide (CDiv i j)) (fun i j => i / j)
abbrev modI : D → D → Sto → Rs D := intOp (fun _ j => decide (0 < j)) (fun i j => i % j)
abbrev powI : D → D → Sto → Rs D := intOp (fun i j => decide (CPow i j)) (fun i j => i ^ j.toNat)
abbrev shlI : D → D → Sto → Rs D := intOp (fun i j => decide (CPow i j)) (fun i j => i * 2 ^ j.toNat)
abbrev shrI : D → D → Sto → Rs D := intOp (fun _ j => decide (0 ≤ j)) (fun i j => i / 2 ^ j.toNat)
abbrev andI : D → D → Sto → Rs D := intOp (fun _ _ => true) (fun i j => Builtin.bitAnd i j)
def negI : D → Sto → Rs D
  | .int i, S => .ok (.int (-i)) S
  | _, _ => .fail
section
variable {C : Ctx} {X : Cx} {W : WX}
theorem intOp_ok {f : Value → Value → Sem Value} {Cd : Int → Int → Prop} {p : Int → Int → Bool} {g : Int → Int → Int} (h : OpR X f (rI Cd fun i j => .int (g i j))) (hp : ∀ i j, p i j = true → Cd i j) : Op2 C X W f (intOp p g) :=
  op2_of h fun σ H x y Q mp S d e hR rd re hp' => by
    cases rd with
    | int i =>
      cases re with
      | int j =>
        have hq : Post C (RD C) mp H σ (if p i j then .ok (.int (g i j)) S else .fail) Q W := hp'
        by_cases z : p i j = true
        · rw [if_pos z] at hq
          exact ⟨i, j, rfl, rfl, hp i j z, hq.done hR (.int _)⟩
        · rw [if_neg z] at hq; exact hq.elim
      | _ => exact (show False from hp').elim
    | _ => cases re <;> exact (show False from hp').elim
theorem intOp_ok0 {f : Value → Value → Sem Value} {g : Int → Int → Int} (h : OpR X f (rI0 fun i j => .int (g i j))) : Op2 C X W f (intOp (fun _ _ => true) g) :=
  op2_of h fun σ H x y Q mp S d e hR rd re hp' => by
    cases rd with
    | int i =>
      cases re with
      | int j =>
        have hq : Post C (RD C) mp H σ (.ok (.int (g i j)) S) Q W := hp'
        exact ⟨i, j, rfl, rfl, hq.done hR (.int _)⟩
      | _ => exact (show False from hp').elim
    | _ => cases re <;> exact (show False from hp').elim
theorem o_sub : Op2 C X W (binaryOp .Sub) subI := intOp_ok0 op_sub
theorem o_mul : Op2 C X W (binaryOp .Mult) mulI := intOp_ok op_mul fun _ _ h => of_decide_eq_true h
theorem o_div : Op2 C X W (binaryOp .FloorDiv) divI := intOp_ok op_fdiv fun _ _ h => of_decide_eq_true h
theorem o_mod : Op2 C X W (binaryOp .Mod) modI := intOp_ok op_mod fun _ _ h => of_decide_eq_true h
theorem o_pow : Op2 C X W (binaryOp .Pow) powI := intOp_ok op_pow fun _ _ h => of_decide_eq_true h
theorem o_shl : Op2 C X W (binaryOp .LShift) shlI := intOp_ok op_shl fun _ _ h => of_decide_eq_true h
theorem o_shr : Op2 C X W (binaryOp .RShift) shrI := intOp_ok op_shr fun _ _ h => of_decide_eq_true h
theorem o_and : Op2 C X W (binaryOp .BitAnd) andI := intOp_ok0 op_and
theorem u_neg : Un1 C X W (unaryOp .USub) negI := un1_of un_neg fun σ H x Q mp S d hR rd hp => by
  cases rd with
  | int i => exact ⟨i, rfl, (show Post C (RD C) mp H σ (.ok (.int (-i)) S) Q W from hp).done hR (.int _)⟩
  | _ => exact (show False from hp).elim
theorem o_add (hK : X.K = C.K) : Op2 C X W (binaryOp .Add) addD := by
  refine op2_of (((op_add.or op_add_str).or op_catA).or op_cat) fun σ H x y Q mp S d e hR rd re hp => ?_
  cases rd with
  | int i =>
    cases re with
    | int j => exact .inl (.inl (.inl ⟨i, j, rfl, rfl, (show Post C (RD C) mp H σ (.ok (.int (i + j)) S) Q W from hp).done hR (.int _)⟩))
    | _ => exact (show False from hp).elim
  | str i =>
    cases re with
    | str j =>
      have hq : Post C (RD C) mp H σ (if i.length + j.length ≤ sizeLine then .ok (.str (i ++ j)) S else .fail) Q W := hp
      by_cases z : i.length + j.length ≤ sizeLine
      · rw [if_pos z] at hq
        exact .inl (.inl (.inr ⟨i, j, rfl, rfl, z, hq.done hR (.str _)⟩))
      · rw [if_neg z] at hq; exact hq.elim
    | _ => exact (show False from hp).elim
  | tup q1 t1 =>
    rename_i ds vs p1
    cases re with
    | tup q2 t2 =>
      rename_i es ws p2
      have hq : Post C (RD C) mp H σ (if ds.length + es.length ≤ sizeLine then .ok (.tup (ds ++ es)) S else .fail) Q W := hp
      by_cases z : ds.length + es.length ≤ sizeLine
      · rw [if_pos z] at hq
        refine .inl (.inr ⟨p1, p2, vs, ws, rfl, rfl, hK ▸ q1.sq, hK ▸ q2.sq, by rw [← t1.length, ← t2.length]; exact z, ?_⟩)
        have e0 : ∀ l : List D, Reps C mp H [] [] := fun _ => .nil
        refine ⟨fun hv => ?_, fun _ hv => ?_, fun hv hw p hp' => ?_⟩
        · subst hv
          cases t1
          exact hq.done hR (.tup q2 t2)
        · subst hv
          cases t2
          rw [List.append_nil] at hq
          exact hq.done hR (.tup q1 t1)
        · exact hq mp _ (.ref p) (List.prefix_refl _) (HLe.new hp') (hR.new hp') (.tup (.inl upd_same) ((t1.append t2).mono (List.prefix_refl _) (HLe.new hp')))
      · rw [if_neg z] at hq; exact hq.elim
    | _ => exact (show False from hp).elim
  | ref q1 =>
    rename_i n p1
    cases re with
    | ref q2 =>
      rename_i k p2
      obtain ⟨o1, ho1, r1⟩ := hR.atA q1
      obtain ⟨o2, ho2, r2⟩ := hR.atA q2
      dsimp only [addD] at hp
      rw [ho1, ho2] at hp
      cases o1 with
      | lst xs =>
        cases o2 with
        | lst ys =>
          obtain ⟨vs, h1, t1⟩ := r1
          obtain ⟨ws, h2, t2⟩ := r2
          dsimp only at hp
          by_cases z : xs.length + ys.length ≤ sizeLine
          · rw [if_pos z] at hp
            refine .inr ⟨p1, p2, vs, ws, rfl, rfl, h1, h2, by rw [← t1.length, ← t2.length]; exact z, fun p hp' => ?_⟩
            refine hp (mp ++ [p]) _ (.ref p) (List.prefix_append _ _) (HLe.new hp') (hR.push hp' ⟨_, upd_same, (t1.append t2).mono (List.prefix_append _ _) (HLe.new hp')⟩) (.ref ?_)
            rw [List.getElem?_append_right (by rw [hR.len]; exact Nat.le_refl _), hR.len]
            simp
          · rw [if_neg z] at hp; exact hp.elim
        | _ => exact (show False from hp).elim
      | _ => exact (show False from hp).elim
    | _ => exact (show False from hp).elim
  | _ => cases re <;> exact (show False from hp).elim
end
end Bt

set_option Elab.async false
set_option linter.all false
set_option maxRecDepth 100000
set_option maxHeartbeats 2000000
namespace Bt
open PySem PySem.Spec PyProof.Rows L2

/-! ### the module's names -/
inductive Ty where
  | b (n : String) | o (c : Str)
  deriving DecidableEq
structure GEnv where
  con : Str → Option D
  fre : Str → Bool
  cls : Str → Bool
  isi : Ty → Ty → Option Bool
  noa : Str → Str → Bool
  cal : Str → Option (List D → Sto → Rs D)
  met : Str → Str → Option (List D → Sto → Rs D)
/-- a promise -/
def spOf (C : Ctx) (g : List D → Sto → Rs D) : Sp := fun vs H Q E => ∃ mp S ds, Rel C mp S H ∧ Reps C mp H ds vs ∧ Post C (RD C) mp H [] (g ds S) Q (fun c d _ H => E c d H)
def tyVal (mg : Str → Option Value) : Ty → Value → Prop
  | .b n, v => v = .type n
  | .o c, v => mg c = some v ∧ ∃ k, v = .ref k
structure ClsOk (K : PySem.W.Frag) (k : Addr) : Prop where
  cl : Cls K k
  ha : PySem.W.findIn K (.ref k) "__class__" = some (some (.builtin "object.__class__"))
  hn : PySem.W.specialIn K (.builtin "object.__class__") "__get__" = some (some (.builtin "getset_descriptor.__get__"))
  htk : PySem.W.takesIn K (.builtin "object.__class__") = some true
  hm : PySem.W.mroIn K k (.type "object") = some true
/-- what is known of the module's names, whatever runs -/
structure GS (C : Ctx) (Γ : GEnv) : Prop where
  con : ∀ x d, Γ.con x = some d → ∃ u v, C.mg x = some u ∧ RelV v u ∧ ∀ mp H, Rep C mp H d v
  fre : ∀ x, Γ.fre x = true → C.mg x = none
  cls : ∀ c, Γ.cls c = true → ∃ k, C.mg c = some (.ref k) ∧ ClsOk C.K k
  isi : ∀ t u b, Γ.isi t u = some b → ∃ tv uv, tyVal C.mg t tv ∧ tyVal C.mg u uv ∧ PySem.W.kitOne C.K tv uv = some b
  noa : ∀ c f, Γ.noa c f = true → ∃ k, C.mg c = some (.ref k) ∧ NoAttr C.K k f
  nf : ∀ (t : Ty) (c : Str) (b : Bool), Γ.cls c = true → Γ.isi t (.o c) = some b → ∀ tv k, tyVal C.mg t tv → C.mg c = some (.ref k) → PySem.W.notFirst C.K k tv = true
/-- C(..): a new instance, then __init__ -/
def makeD (c : Str) (init : List D → Sto → Rs D) : List D → Sto → Rs D := fun ds S => (init (.ref S.length :: ds) (S ++ [.ins c []])).bind fun r S' => match r with
  | .non => .ok (.ref S.length) S'
  | _ => .fail
/-- the calls, in the context X: they have room n -/
structure GC (C : Ctx) (X : Cx) (n : Nat) (Γ : GEnv) : Prop where
  room : Room (n + 2) X.A
  cal : ∀ x g, Γ.cal x = some g → ∃ a, C.mg x = some (.ref a) ∧ PySem.W.keepIn C.K (.ref a) = true ∧
    (FnR X.prog X.w C.K C.mg X.base (L2.CX X.prog X.w) n a (spOf C g) ∨ ∃ gi fI, g = makeD x gi ∧ Mk C.K a fI ∧ FnR X.prog X.w C.K C.mg X.base (L2.CX X.prog X.w) n fI (spOf C gi))
  met : ∀ c m g, Γ.met c m = some g → ∃ k f, C.mg c = some (.ref k) ∧ Cls C.K k ∧ Meth C.K k m f ∧ FnR X.prog X.w C.K C.mg X.base (L2.CX X.prog X.w) n f (spOf C g)
section
variable {C : Ctx} {X : Cx} {W : WX} {Γ : GEnv} {n : Nat}
theorem Post.slots {α β : Type} {R : RelT α β} {mp : List Addr} {H : Hp} {σ : L2.St} {r : Rs α} {Q : β → Hp → Prop} (h : Post C R mp H σ r Q W) : Post C R mp H [] r Q (fun c d _ H => W c d σ H) := by
  cases r <;> exact h
/-- a def called at X's own place, or one in -/
theorem callS_fn {f : Addr} {g : List D → Sto → Rs D} (tk : Takes X W) (hK : X.K = C.K) (hm : X.mg = C.mg) (hr : Room n X.A) (F : FnR X.prog X.w C.K C.mg X.base (L2.CX X.prog X.w) n f (spOf C g)) : CallS C X W (.ref f) g := by
  intro pins s σ H xs us Q mp S ds I r hR rd hp
  rw [← hK, ← hm] at F
  refine wpAny_call (codeAny_mono (F X.A X.stack s H us xs Q (WE W σ) hr I.env0 r ⟨mp, S, ds, hR, rd, hp.slots⟩) fun r s' hq => ?_)
  cases r with
  | error e => exact passAt tk σ pins H s e s' I hq
  | ok fl =>
    cases fl with
    | ret u => exact I.after hq
    | next => exact False.elim hq
    | brk => exact False.elim hq
    | cont => exact False.elim hq
theorem call_in1 {f : Addr} {g : List D → Sto → Rs D} (tk : Takes X W) (hK : X.K = C.K) (hm : X.mg = C.mg) (hr : Room (n + 1) X.A) (F : FnR X.prog X.w C.K C.mg X.base (L2.CX X.prog X.w) n f (spOf C g))
    {pins : List (Addr × Obj)} {s : Shared} {σ : L2.St} {H : Hp} {xs : List V} {us : List Value} {Q : VK} {mp : List Addr} {S : Sto} {ds : List D} (I : Inv X pins σ H s) (r : Vals xs us) (hR : Rel C mp S H) (rd : Reps C mp H ds xs)
    (hp : Post C (RD C) mp H σ (g ds S) Q W) : wpAny (model X.prog X.w) X.A.in1 (call (.ref f) us) (EP X pins σ Q) X.xe s := by
  rw [← hK, ← hm] at F
  refine wpAny_call (codeAny_mono (F X.A.in1 X.stack s H us xs Q (WE W σ) hr.in1 I.env0.in1 r ⟨mp, S, ds, hR, rd, hp.slots⟩) fun r s' hq => ?_)
  cases r with
  | error e => exact passAt tk σ pins H s e s' I hq
  | ok fl =>
    cases fl with
    | ret u => exact I.after hq
    | next => exact False.elim hq
    | brk => exact False.elim hq
    | cont => exact False.elim hq

/-! ### isinstance -/
def tyD (Γ : GEnv) : D → Sto → Option Ty
  | .non, _ => some (.b "NoneType")
  | .bl _, _ => some (.b "bool")
  | .int _, _ => some (.b "int")
  | .str _, _ => some (.b "str")
  | .tup _, _ => some (.b "tuple")
  | .ref n, S => match S[n]? with
    | some (.lst _) => some (.b "list")
    | some (.ro _) => some (.b "list")
    | some (.dic _) => some (.b "dict")
    | some (.ins c _) => if Γ.cls c then some (.o c) else none
    | _ => none
  | _, _ => none
def tyC : D → Option Ty
  | .ty n => some (.b n)
  | .glo c => some (.o c)
  | _ => none
def isAny (Γ : GEnv) (t : Ty) : List D → Option Bool
  | [] => some false
  | c :: r => match tyC c with
    | some u => match Γ.isi t u, isAny Γ t r with
      | some x, some y => some (x || y)
      | _, _ => none
    | none => none
def isiD (Γ : GEnv) : List D → Sto → Rs D
  | [x, .tup cs], S => match tyD Γ x S with
    | some t => match isAny Γ t cs with
      | some b => .ok (.bl b) S
      | none => .fail
    | none => .fail
  | [x, c], S => match tyD Γ x S, tyC c with
    | some t, some u => match Γ.isi t u with
      | some b => .ok (.bl b) S
      | none => .fail
    | _, _ => .fail
  | _, _ => .fail
theorem tyX_tup {K : PySem.W.Frag} {H : Hp} {a : Addr} {vs : List V} (q : SqT K H a vs) : TyX K H (.ref a) (.type "tuple") := by
  rcases q with (q | ⟨o, q⟩) | ⟨o, its, n, h1, h2, _⟩
  · exact .base (.tup q)
  · exact .fTuple q
  · exact .kTuple h1 h2
theorem tyD_ok (G : GS C Γ) {mp : List Addr} {S : Sto} {H : Hp} {d : D} {x : V} {t : Ty} {tv : Value} (hR : Rel C mp S H) (r : Rep C mp H d x) (e : tyD Γ d S = some t) (ht : tyVal C.mg t tv) : TyX C.K H x tv := by
  unfold tyD at e
  cases r with
  | non => cases e; cases ht; exact .base .non
  | bl b => cases e; cases ht; exact .base (.bl b)
  | int i => cases e; cases ht; exact .base (.int i)
  | str z => cases e; cases ht; exact .base (.str z)
  | tup q t => cases e; cases ht; exact tyX_tup q.sq
  | ref q =>
    obtain ⟨o, ho, ro⟩ := hR.atA q
    dsimp only at e
    rw [ho] at e
    cases o with
    | lst xs => obtain ⟨vs, h1, _⟩ := ro; cases e; cases ht; exact .base (.lst h1)
    | ro xs => obtain ⟨oo, vs, h1, _⟩ := ro; cases e; cases ht; exact .base (.frz h1)
    | dic kvs => obtain ⟨kws, h1, _⟩ := ro; cases e; cases ht; exact .base (.dK h1)
    | ins c fs =>
      obtain ⟨k, dx, gs, hc, h1, _⟩ := ro
      dsimp only at e
      split at e
      · rename_i hcl
        cases e
        obtain ⟨h2, _⟩ := ht
        obtain ⟨k', hk', ok⟩ := G.cls c hcl
        rw [hc] at h2 hk'
        cases h2
        cases hk'
        exact .base (.ins h1 ok.cl ok.ha ok.hn ok.htk ok.hm)
      · cases e
  | glo _ => cases e
  | ty _ => cases e
  | fz _ _ => cases e
theorem tyVal_inj {mg : Str → Option Value} {t : Ty} {a b : Value} (h1 : tyVal mg t a) (h2 : tyVal mg t b) : a = b := by
  cases t with
  | b n => cases h1; cases h2; rfl
  | o c => exact Option.some.inj (h1.1.symm.trans h2.1)
theorem tyC_ok {mp : List Addr} {H : Hp} {d : D} {x : V} {t : Ty} {tv : Value} (r : Rep C mp H d x) (e : tyC d = some t) (ht : tyVal C.mg t tv) : ClsV x tv := by
  cases r with
  | glo q =>
    rename_i c a
    cases e
    obtain ⟨h1, _⟩ := ht
    rw [q] at h1
    cases h1
    first | exact .own _ | exact .ref _ | constructor
  | ty n =>
    cases e
    cases ht
    first | exact .ty _ | exact .blt _ | constructor
  | _ => cases e
theorem isAny_ok (G : GS C Γ) {mp : List Addr} {H : Hp} {t : Ty} {tv : Value} (ht : tyVal C.mg t tv) : ∀ {cs : List D} {vs : List V} {b : Bool}, Reps C mp H cs vs → isAny Γ t cs = some b → ∃ us, Paired ClsV vs us ∧ PySem.W.kitAny C.K tv us = some b
  | _, _, b, .nil, e => by
    cases e
    exact ⟨[], .nil, rfl⟩
  | _, _, b, .cons (d := d) (ds := ds) r rr, e => by
    unfold isAny at e
    cases q : tyC d with
    | none => rw [q] at e; cases e
    | some u =>
      rw [q] at e
      dsimp only at e
      cases q1 : Γ.isi t u with
      | none => rw [q1] at e; cases e
      | some x =>
        cases q2 : isAny Γ t ds with
        | none => rw [q1, q2] at e; cases e
        | some y =>
          rw [q1, q2] at e
          cases e
          obtain ⟨us, h1, h2⟩ := isAny_ok G ht rr q2
          obtain ⟨tv', uv, e1, e2, e3⟩ := G.isi t u x q1
          cases tyVal_inj e1 ht
          refine ⟨uv :: us, .cons (tyC_ok r q e2) h1, kitAny_cons e3 (fun z => ?_) fun z => ?_⟩
          · subst z; exact h2
          · subst z; rfl
theorem GS.ty (G : GS C Γ) {t u : Ty} {b : Bool} (h : Γ.isi t u = some b) : ∃ tv, tyVal C.mg t tv := by
  obtain ⟨tv, _, h1, _⟩ := G.isi t u b h
  exact ⟨tv, h1⟩
theorem c_isi (G : GS C Γ) (hK : X.K = C.K) : CallS C X W (.builtin "isinstance") (isiD Γ) := by
  refine callS_of ((call_isi.or call_isiT).or call_isiK) fun σ H xs Q mp S ds hR rd hp => ?_
  have two : ∃ x y v w, ds = [x, y] ∧ xs = [v, w] ∧ Rep C mp H x v ∧ Rep C mp H y w := by
    unfold isiD at hp
    split at hp
    · cases rd with
      | cons r1 rr => cases rr with
        | cons r2 rr => cases rr; exact ⟨_, _, _, _, rfl, rfl, r1, r2⟩
    · cases rd with
      | cons r1 rr => cases rr with
        | cons r2 rr => cases rr; exact ⟨_, _, _, _, rfl, rfl, r1, r2⟩
    · exact hp.elim
  obtain ⟨x, y, v, w, rfl, rfl, r1, r2⟩ := two
  have one : ∀ u, tyC y = some u → Post C (RD C) mp H σ (match tyD Γ x S, some u with
    | some t, some u => match Γ.isi t u with
      | some b => .ok (.bl b) S
      | none => .fail
    | _, _ => .fail) Q W → rIsi X.K [v, w] H Q := fun u eu h => by
    cases q : tyD Γ x S with
    | none => rw [q] at h; exact h.elim
    | some t =>
      rw [q] at h
      dsimp only at h
      cases q1 : Γ.isi t u with
      | none => rw [q1] at h; exact h.elim
      | some b =>
        rw [q1] at h
        obtain ⟨tv, uv, e1, e2, e3⟩ := G.isi t u b q1
        exact ⟨v, w, tv, uv, b, rfl, tyC_ok r2 eu e2, hK ▸ tyD_ok G hR r1 q e1, hK ▸ e3, h.done hR (.bl b)⟩
  cases y with
  | tup cs =>
    have hp' : Post C (RD C) mp H σ (match tyD Γ x S with
      | some t => match isAny Γ t cs with
        | some b => .ok (.bl b) S
        | none => .fail
      | none => .fail) Q W := hp
    cases q : tyD Γ x S with
    | none => rw [q] at hp'; exact hp'.elim
    | some t =>
      rw [q] at hp'
      dsimp only at hp'
      cases q1 : isAny Γ t cs with
      | none => rw [q1] at hp'; exact hp'.elim
      | some b =>
        rw [q1] at hp'
        cases r2 with
        | tup qt tt =>
          rename_i vs a
          cases cs with
          | nil =>
            have hty : ∃ tv, tyVal C.mg t tv := by
              cases t with
              | b n => exact ⟨.type n, rfl⟩
              | o c =>
                unfold tyD at q
                split at q <;> first | cases q | skip
                split at q <;> first | cases q | skip
                split at q <;> first | cases q | skip
                rename_i hcl
                obtain ⟨k, hk, _⟩ := G.cls _ hcl
                exact ⟨.ref k, hk, k, rfl⟩
            obtain ⟨tv, e1⟩ := hty
            obtain ⟨us, h1, h2⟩ := isAny_ok G e1 tt q1
            rcases qt with qt | ⟨o, its, n, k1, k2, k3, k4, k5⟩
            · exact .inl (.inr ⟨v, a, vs, tv, us, b, rfl, qt, h1, hK ▸ tyD_ok G hR r1 q e1, hK ▸ h2, hp'.done hR (.bl b)⟩)
            · obtain ⟨oc, od, dt, sl⟩ := o
              cases k2; cases k3
              have eu := ClsV.all h1 k5
              exact .inr ⟨v, a, od, us, n, sl, tv, b, rfl, by rw [hK, ← eu]; simpa using k1, hK ▸ tyD_ok G hR r1 q e1, hK ▸ h2, hp'.done hR (.bl b)⟩
          | cons c0 cr =>
            have hty : ∃ tv, tyVal C.mg t tv := by
              unfold isAny at q1
              cases z : tyC c0 with
              | none => rw [z] at q1; cases q1
              | some u =>
                rw [z] at q1
                dsimp only at q1
                cases z1 : Γ.isi t u with
                | none => rw [z1] at q1; cases q1
                | some b' => exact G.ty z1
            obtain ⟨tv, e1⟩ := hty
            obtain ⟨us, h1, h2⟩ := isAny_ok G e1 tt q1
            rcases qt with qt | ⟨o, its, n, k1, k2, k3, k4, k5⟩
            · exact .inl (.inr ⟨v, a, vs, tv, us, b, rfl, qt, h1, hK ▸ tyD_ok G hR r1 q e1, hK ▸ h2, hp'.done hR (.bl b)⟩)
            · obtain ⟨oc, od, dt, sl⟩ := o
              cases k2; cases k3
              have eu := ClsV.all h1 k5
              exact .inr ⟨v, a, od, us, n, sl, tv, b, rfl, by rw [hK, ← eu]; simpa using k1, hK ▸ tyD_ok G hR r1 q e1, hK ▸ h2, hp'.done hR (.bl b)⟩
  | ty n => exact .inl (.inl (one _ rfl hp))
  | glo c => exact .inl (.inl (one _ rfl hp))
  | _ =>
    have hp' : Post C (RD C) mp H σ (match tyD Γ x S, (none : Option Ty) with
      | some t, some u => match Γ.isi t u with
        | some b => .ok (.bl b) S
        | none => .fail
      | _, _ => .fail) Q W := hp
    cases q : tyD Γ x S <;> rw [q] at hp' <;> exact hp'.elim

/-! ### == and in of data -/
def pyL (f : D → Option PyData) : List D → Option (List PyData)
  | [] => some []
  | d :: r => match f d, pyL f r with
    | some x, some xs => some (x :: xs)
    | _, _ => none
def pyS (S : Sto) : Nat → D → Option PyData
  | 0, _ => none
  | n + 1, d => match d with
    | .non => some .none
    | .bl b => some (.bool b)
    | .int i => some (.int i)
    | .str x => some (.str x)
    | .tup xs => (pyL (pyS S n) xs).map .tuple
    | .ref a => match S[a]? with
      | some (.lst xs) => (pyL (pyS S n) xs).map .list
      | some (.ro xs) => (pyL (pyS S n) xs).map .list
      | _ => none
    | _ => none
theorem pyL_ok {mp : List Addr} {H : Hp} {f : D → Option PyData} (hf : ∀ d v p, Rep C mp H d v → f d = some p → Dp C.K H v p) : ∀ {ds : List D} {vs : List V} {ps : List PyData}, Reps C mp H ds vs → pyL f ds = some ps → DpAll C.K H vs ps
  | _, _, _, .nil, e => by cases e; exact .nil
  | _, _, ps, .cons (d := d) (ds := ds) r rr, e => by
    unfold pyL at e
    cases q1 : f d with
    | none => rw [q1] at e; cases e
    | some x =>
      cases q2 : pyL f ds with
      | none => rw [q1, q2] at e; cases e
      | some xs =>
        rw [q1, q2] at e
        cases e
        exact .cons (hf d _ x r q1) (pyL_ok hf rr q2)
theorem pyS_ok {mp : List Addr} {S : Sto} {H : Hp} (hR : Rel C mp S H) : ∀ (n : Nat) (d : D) (v : V) (p : PyData), Rep C mp H d v → pyS S n d = some p → Dp C.K H v p
  | 0, _, _, _, _, e => by cases e
  | n + 1, d, v, p, r, e => by
    have ih := pyS_ok hR n
    unfold pyS at e
    cases r with
    | non => cases e; exact .non
    | bl b => cases e; exact .bl b
    | int i => cases e; exact .int i
    | str x => cases e; exact .str x
    | tup q t =>
      rename_i ds vs a
      dsimp only at e
      cases q1 : pyL (pyS S n) ds with
      | none => rw [q1] at e; cases e
      | some ps => rw [q1] at e; cases e; exact .tup q.sq (pyL_ok ih t q1)
    | ref q =>
      obtain ⟨o, ho, ro⟩ := hR.atA q
      dsimp only at e
      rw [ho] at e
      cases o with
      | lst xs =>
        obtain ⟨vs, h1, h2⟩ := ro
        dsimp only at e
        cases q1 : pyL (pyS S n) xs with
        | none => rw [q1] at e; cases e
        | some ps => rw [q1] at e; cases e; exact .lst (.of h1) (pyL_ok ih h2 q1)
      | ro xs =>
        obtain ⟨oo, vs, h1, h2⟩ := ro
        dsimp only at e
        cases q1 : pyL (pyS S n) xs with
        | none => rw [q1] at e; cases e
        | some ps => rw [q1] at e; cases e; exact .lst (.inl (.inr ⟨oo, h1⟩)) (pyL_ok ih h2 q1)
      | dic kvs => cases e
      | ins c fs => cases e
    | glo _ => cases e
    | ty _ => cases e
    | fz _ _ => cases e
def eqD (d e : D) (S : Sto) : Option Bool := match pyS S 60 d, pyS S 60 e with
  | some p, some q => if SeqAt.shaped p && SeqAt.shaped q then some (PyData.eqv p q) else none
  | _, _ => none
theorem eqD_ok {mp : List Addr} {S : Sto} {H : Hp} {d e : D} {v w : V} {b : Bool} (hR : Rel C mp S H) (r1 : Rep C mp H d v) (r2 : Rep C mp H e w) (h : eqD d e S = some b) :
    ∃ p q, Dp C.K H v p ∧ Dp C.K H w q ∧ SeqAt.shaped p = true ∧ SeqAt.shaped q = true ∧ PyData.eqv p q = b := by
  unfold eqD at h
  cases q1 : pyS S 60 d with
  | none => rw [q1] at h; cases h
  | some p =>
    cases q2 : pyS S 60 e with
    | none => rw [q1, q2] at h; cases h
    | some q =>
      rw [q1, q2] at h
      dsimp only at h
      split at h
      · rename_i z
        obtain ⟨z1, z2⟩ := Bool.and_eq_true_iff.mp z
        cases h
        exact ⟨p, q, pyS_ok hR 60 d v p r1 q1, pyS_ok hR 60 e w q r2 q2, z1, z2, rfl⟩
      · cases h
/-- the answer of a comparison's method -/
def ownC (Γ : GEnv) (m : Str) (d e : D) (S : Sto) : Option (Rs D) := match d with
  | .ref n => match S[n]? with
    | some (.ins c _) => some (match Γ.met c m with
      | some g => g [d, e] S
      | none => .fail)
    | _ => none
  | _ => none
def eqG (Γ : GEnv) (d e : D) (S : Sto) : Rs D := match ownC Γ "__eq__" d e S with
  | some r => match tyD Γ d S, tyD Γ e S with
    | some u, some t => match Γ.isi t u with
      | some _ => r
      | none => .fail
    | _, _ => .fail
  | none => match eqD d e S with
    | some b => .ok (.bl b) S
    | none => .fail
def neG (Γ : GEnv) (d e : D) (S : Sto) : Rs D := match ownC Γ "__eq__" d e S with
  | some r => .fail
  | none => match eqD d e S with
    | some b => .ok (.bl (!b)) S
    | none => .fail
theorem ownC_none {d e : D} {S : Sto} {mp : List Addr} {H : Hp} {m : Str} {r : Rs D} (hR : Rel C mp S H) {v : V} (rd : Rep C mp H d v) (h : ownC Γ m d e S = some r) :
    ∃ n c fs a k dx gs, d = .ref n ∧ S[n]? = some (.ins c fs) ∧ v = .ref a ∧ C.mg c = some (.ref k) ∧ H a = some (.ins k dx gs) ∧ r = (match Γ.met c m with | some g => g [d, e] S | none => .fail) := by
  unfold ownC at h
  split at h
  · rename_i n
    split at h
    · rename_i c fs hs
      cases rd with
      | ref q =>
        obtain ⟨o, ho, ro⟩ := hR.atA q
        rw [hs] at ho
        cases ho
        obtain ⟨k, dx, gs, h1, h2, _⟩ := ro
        exact ⟨n, c, fs, _, k, dx, gs, rfl, hs, rfl, h1, h2, (Option.some.inj h).symm⟩
    · cases h
  · cases h
theorem looks_tyX {H : Hp} {s : Shared} {pins : List (Addr × Obj)} {σ : L2.St} {x : V} {u t : Value} (I : Inv X pins σ H s) (r : RelV x u) (ty : TyX X.K H x t) : PySem.W.Looks (model X.prog X.w) s.heap (typeOf u) t := by
  obtain ⟨P, kx, hp, _⟩ := kit_of I r ty
  exact kx.ty _ _ I.kIn hp
theorem relV_ni {v : V} {u : Value} (r : RelV v u) {Q : Value → Shared → Prop} {s : Shared} (h : Q u s) : PySem.W.CmpBack Q u s := by
  cases v with
  | non => cases r; exact h
  | bl b => cases r; exact h
  | int i => obtain ⟨t, rfl⟩ := r; exact h
  | str i => obtain ⟨t, rfl⟩ := r; exact h
  | byt i => obtain ⟨t, rfl⟩ := r; exact h
  | flt i => obtain ⟨t, rfl⟩ := r; exact h
  | ref a => cases r; exact h
  | ty n => cases r; exact h
theorem inst_at {H : Hp} {s : Shared} {pins : List (Addr × Obj)} {σ : L2.St} {a k dx : Addr} {gs : List (Str × V)} (I : Inv X pins σ H s) (h : H a = some (.ins k dx gs)) : ∃ od, PySem.W.InstAt s.heap a (PySem.W.instObj k dx) k (some od) := by
  obtain ⟨mA, O, _⟩ := ins_get I.hok h
  obtain ⟨od, J, _⟩ := O.look
  exact ⟨od, J⟩
theorem o_eq (G : GS C Γ) (GCx : GC C X n Γ) (tk : Takes X W) (hK : X.K = C.K) (hm : X.mg = C.mg) : Op2 C X W (compareOp .Eq) (eqG Γ) := by
  intro pins s σ H x y v u Q mp S d e I rx ry hR rd re hp
  unfold eqG at hp
  cases q : ownC Γ "__eq__" d e S with
  | none =>
    rw [q] at hp
    dsimp only at hp
    cases q1 : eqD d e S with
    | none => rw [q1] at hp; exact hp.elim
    | some b =>
      rw [q1] at hp
      obtain ⟨p, q', h1, h2, h3, h4, h5⟩ := eqD_ok hR rd re q1
      rw [← hK] at h1 h2
      refine op_eqD GCx.room.units pins s σ H x y v u Q I rx ry ⟨p, q', h1, h2, h3, h4, ?_⟩
      rw [h5]
      exact hp.done hR (.bl b)
  | some r =>
    rw [q] at hp
    dsimp only at hp
    obtain ⟨m, c, fs, a, k, dx, gs, rfl, hS, rfl, hk, hH, hr⟩ := ownC_none hR rd q
    have hd : tyD Γ (.ref m) S = if Γ.cls c then some (.o c) else none := by
      show (match S[m]? with
        | some (.lst _) => some (Ty.b "list")
        | some (.ro _) => some (.b "list")
        | some (.dic _) => some (.b "dict")
        | some (.ins c _) => if Γ.cls c then some (.o c) else none
        | _ => none) = _
      rw [hS]
    rw [hd] at hp
    by_cases hcl : Γ.cls c = true
    · rw [if_pos hcl] at hp
      cases q1 : tyD Γ e S with
      | none => rw [q1] at hp; exact hp.elim
      | some t =>
        rw [q1] at hp
        dsimp only at hp
        cases q2 : Γ.isi t (.o c) with
        | none => rw [q2] at hp; exact hp.elim
        | some b =>
          rw [q2] at hp
          dsimp only at hp
          subst hr
          cases q3 : Γ.met c "__eq__" with
          | none => rw [q3] at hp; exact hp.elim
          | some g =>
            rw [q3] at hp
            dsimp only at hp
            obtain ⟨k', f, hk', cl, mt, F⟩ := GCx.met c "__eq__" g q3
            rw [hk] at hk'
            cases hk'
            obtain ⟨tv, hty⟩ := G.ty q2
            obtain ⟨od, J⟩ := inst_at I hH
            cases (show v = Value.ref a from rx)
            obtain ⟨mm, fr⟩ := I.fr
            have ty : TyX X.K H y tv := hK ▸ tyD_ok G hR re q1 hty
            refine (PySem.W.cmp_K (h₀ := X.base) (op := .Eq) (K := X.K) (f := f) GCx.room.units0 fr I.mod.kin J (looks_tyX I ry ty) ?_ ?_ ?_ ?_ :)
            · rw [hK]; exact G.nf t c b hcl q2 tv k hty hk
            · rw [hK]; exact mt.at_
            · rw [hK]; exact mt.fn
            · refine thn (callS_fn tk hK hm (GCx.room.mono (by omega)) F pins s σ H [.ref a, y] [.ref a, u] Q mp S [.ref m, e] I (.cons rfl (.cons ry .nil)) hR (.cons rd (.cons re .nil)) hp) fun r s' hr => ?_
              obtain ⟨vr, H', I', rr, qq⟩ := hr
              exact relV_ni rr ⟨vr, H', I', rr, qq⟩
    · rw [if_neg hcl] at hp
      cases q1 : tyD Γ e S <;> rw [q1] at hp <;> exact hp.elim
end
end Bt

set_option Elab.async false
set_option linter.all false
set_option maxRecDepth 100000
set_option maxHeartbeats 2000000
namespace Bt
open PySem PySem.Spec PyProof.Rows L2
section
variable {C : Ctx} {X : Cx} {W : WX} {Γ : GEnv} {n : Nat}

/-! ### in -/
/-- the items of a sequence -/
def seqD : D → Sto → Option (List D)
  | .tup xs, _ => some xs
  | .ref n, S => match S[n]? with
    | some (.lst xs) => some xs
    | some (.ro xs) => some xs
    | _ => none
  | _, _ => none
theorem seqD_ok {mp : List Addr} {S : Sto} {H : Hp} {d : D} {v : V} {xs : List D} (hR : Rel C mp S H) (r : Rep C mp H d v) (e : seqD d S = some xs) : ∃ a vs, v = .ref a ∧ (SqL C.K H a vs ∨ SqT C.K H a vs) ∧ Reps C mp H xs vs := by
  unfold seqD at e
  cases r with
  | tup q t => cases e; exact ⟨_, _, rfl, .inr q.sq, t⟩
  | ref q =>
    obtain ⟨o, ho, ro⟩ := hR.atA q
    dsimp only at e
    rw [ho] at e
    cases o with
    | lst ys => obtain ⟨vs, h1, h2⟩ := ro; cases e; exact ⟨_, vs, rfl, .inl (.of h1), h2⟩
    | ro ys => obtain ⟨oo, vs, h1, h2⟩ := ro; cases e; exact ⟨_, vs, rfl, .inl (.inl (.inr ⟨oo, h1⟩)), h2⟩
    | dic kvs => cases e
    | ins c fs => cases e
  | _ => cases e
def keyD : D → Option Key
  | .int i => some (.inl i)
  | .str x => some (.inr x)
  | _ => none
theorem keyD_ok {mp : List Addr} {H : Hp} {d : D} {v : V} {k : Key} (r : Rep C mp H d v) (e : keyD d = some k) : v = kV k := by
  cases r with
  | int i => cases e; rfl
  | str x => cases e; rfl
  | _ => cases e
def inD (d e : D) (S : Sto) : Option Bool := match e with
  | .str z => match d with
    | .str y => some (!(Builtin.Str.occurrences z y 0 z.length 1).isEmpty)
    | _ => none
  | _ => match seqD e S with
    | some xs => match pyS S 60 d, pyL (pyS S 60) xs with
      | some p, some ps => if SeqAt.shaped p && SeqAt.shaped (.list ps) then some (ps.any fun z => PyData.eqv z p) else none
      | _, _ => none
    | none => none
def rInA (K : PySem.W.Frag) (neg : Bool) : R2 := fun x y H Q => ∃ d ds a vs, y = .ref a ∧ (SqL K H a vs ∨ SqT K H a vs) ∧ DpAll K H vs ds ∧ Dp K H x d ∧ SeqAt.shaped d = true ∧ SeqAt.shaped (.list ds) = true ∧ Q (.bl (if neg then !(ds.any fun z => PyData.eqv z d) else ds.any fun z => PyData.eqv z d)) H
theorem room_in {A : Around} {d : PyData} {ds : List PyData} (sd : SeqAt.shaped d = true) (hu : A.units + 65 < cLine) : A.units + 1 + min (PyData.depthAll ds) d.depth < cLine := by
  have h := SeqAt.depth_of_shaped sd
  have h2 : min (PyData.depthAll ds) d.depth ≤ d.depth := Nat.min_le_right _ _
  omega
theorem op_inA (hu : X.A.units + 65 < cLine) (neg : Bool) : OpR X (compareOp (if neg then .NotIn else .In)) (rInA X.K neg) := by
  intro pins s σ H x y v u Q I rx ry h
  obtain ⟨d, ds, a, vs, rfl, hq, hs, hd, sd, se, q⟩ := h
  obtain ⟨as, r1⟩ := Dp.reads I d x v hd rx
  rcases hq with hq | hq
  · obtain ⟨bs, r2⟩ := Dp.reads I (.list ds) (.ref a) u (.lst hq hs) ry
    cases neg with
    | false => exact SeqAt.in_list_reads r2 r1 (SeqAt.canLay_of_shaped se) (SeqAt.canLay_of_shaped sd) (room_in sd hu) ⟨.bl _, H, I, rfl, q⟩
    | true => exact SeqAt.notIn_list_reads r2 r1 (SeqAt.canLay_of_shaped se) (SeqAt.canLay_of_shaped sd) (room_in sd hu) ⟨.bl _, H, I, rfl, q⟩
  · obtain ⟨bs, r2⟩ := Dp.reads I (.tuple ds) (.ref a) u (.tup hq hs) ry
    cases neg with
    | false => exact SeqAt.in_tuple_reads r2 r1 (SeqAt.canLay_of_shaped se) (SeqAt.canLay_of_shaped sd) (room_in sd hu) ⟨.bl _, H, I, rfl, q⟩
    | true => exact SeqAt.notIn_tuple_reads r2 r1 (SeqAt.canLay_of_shaped se) (SeqAt.canLay_of_shaped sd) (room_in sd hu) ⟨.bl _, H, I, rfl, q⟩
/-- the answer of an own __contains__ -/
def truR (neg : Bool) (r : Rs D) : Rs D := r.bind fun d S => match d with
  | .bl k => .ok (.bl (if neg then !k else k)) S
  | _ => .fail
def ownIn (Γ : GEnv) (d e : D) (S : Sto) : Option (Rs D) := match e with
  | .ref n => match S[n]? with
    | some (.ins c _) => some (match Γ.met c "__contains__" with
      | some g => g [e, d] S
      | none => .fail)
    | _ => none
  | _ => none
def inG (Γ : GEnv) (neg : Bool) (d e : D) (S : Sto) : Rs D := match ownIn Γ d e S with
  | some r => truR neg r
  | none => match inD d e S with
    | some b => .ok (.bl (if neg then !b else b)) S
    | none => .fail
theorem Post.tru {neg : Bool} {mp : List Addr} {H : Hp} {σ : L2.St} {r : Rs D} {Q : VK} (h : Post C (RD C) mp H σ (truR neg r) Q W) : Post C (RD C) mp H σ r (fun x H1 => ∃ k, x = .bl k ∧ Q (.bl (if neg then !k else k)) H1) W := by
  cases r with
  | fail => exact h
  | exc x S => exact h
  | ok d S =>
    cases d with
    | bl k =>
      intro mp' H' v p l R r
      cases r
      exact ⟨k, rfl, h mp' H' _ p l R (.bl _)⟩
    | _ => exact h.elim
theorem o_in (G : GS C Γ) (GCx : GC C X n Γ) (tk : Takes X W) (hK : X.K = C.K) (hm : X.mg = C.mg) (neg : Bool) : Op2 C X W (compareOp (if neg then .NotIn else .In)) (inG Γ neg) := by
  intro pins s σ H x y v u Q mp S d e I rx ry hR rd re hp
  unfold inG at hp
  cases q : ownIn Γ d e S with
  | none =>
    rw [q] at hp
    dsimp only at hp
    cases q1 : inD d e S with
    | none => rw [q1] at hp; exact hp.elim
    | some b =>
      rw [q1] at hp
      unfold inD at q1
      split at q1
      · rename_i z
        cases re
        split at q1
        · rename_i yy
          cases rd
          cases q1
          cases neg with
          | false => exact op_in_str pins s σ H _ _ v u Q I rx ry ⟨_, _, rfl, rfl, hp.done hR (.bl _)⟩
          | true => exact op_notin_str pins s σ H _ _ v u Q I rx ry ⟨_, _, rfl, rfl, hp.done hR (.bl _)⟩
        · cases q1
      · split at q1
        · rename_i xs hs
          obtain ⟨a, vs, rfl, hq, hr⟩ := seqD_ok hR re hs
          split at q1
          · rename_i p ps e1 e2
            split at q1
            · rename_i z
              obtain ⟨z1, z2⟩ := Bool.and_eq_true_iff.mp z
              cases q1
              refine op_inA (by have := GCx.room.un; omega) neg pins s σ H x _ v u Q I rx ry ⟨p, ps, a, vs, rfl, ?_, ?_, ?_, z1, z2, hp.done hR (.bl _)⟩
              · rw [hK]; exact hq
              · rw [hK]; exact pyL_ok (pyS_ok hR 60) hr e2
              · rw [hK]; exact pyS_ok hR 60 d x p rd e1
            · cases q1
          · cases q1
        · cases q1
  | some r =>
    rw [q] at hp
    dsimp only at hp
    have h := Post.tru hp
    unfold ownIn at q
    split at q
    · rename_i m
      split at q
      · rename_i c fs hS
        cases re with
        | ref q0 =>
          rename_i a
          obtain ⟨o, ho, ro⟩ := hR.atA q0
          rw [hS] at ho
          cases ho
          obtain ⟨k, dx, gs, hk, hH, _⟩ := ro
          cases q3 : Γ.met c "__contains__" with
          | none => rw [q3] at q; cases q; exact h.elim
          | some g =>
            rw [q3] at q
            cases q
            obtain ⟨k', f, hk', cl, mt, F⟩ := GCx.met c "__contains__" g q3
            rw [hk] at hk'
            cases hk'
            obtain ⟨od, J⟩ := inst_at I hH
            cases (show u = Value.ref a from ry)
            obtain ⟨mm, fr⟩ := I.fr
            have go := callS_fn tk hK hm (GCx.room.mono (by omega)) F pins s σ H [.ref a, x] [.ref a, v] _ mp S [.ref m, d] I (.cons rfl (.cons rx .nil)) hR (.cons (.ref q0) (.cons rd .nil)) h
            have fin : ∀ {Qf : Bool → Value}, (∀ k, Qf k = .bool (if neg then !k else k)) → wpAny (model X.prog X.w) X.A (call (.ref f) [.ref a, v]) (fun r s' => wpAny (model X.prog X.w) X.A (truthy r) (fun b => EP X pins σ Q (Qf b)) X.xe s') X.xe s := fun {Qf} hQ => by
              refine thn go fun r s' ⟨vr, H', I', rr, k, ek, qq⟩ => ?_
              subst ek
              cases rr
              refine wpAny_truthy_bool ?_
              rw [hQ]
              exact ⟨V.bl (if neg then !k else k), H', I', rfl, qq⟩
            cases neg with
            | false => exact PySem.W.in_K (h₀ := X.base) (K := X.K) (f := f) fr I.mod.kin J (by rw [hK]; exact mt.at_) (by rw [hK]; exact mt.fn) (fin fun k => rfl)
            | true => exact PySem.W.notIn_K (h₀ := X.base) (K := X.K) (f := f) fr I.mod.kin J (by rw [hK]; exact mt.at_) (by rw [hK]; exact mt.fn) (fin fun k => rfl)
      · cases q
    · cases q

/-! ### is -/
def isD (neg : Bool) (d e : D) (S : Sto) : Rs D := match e with
  | .non => match d with
    | .non => .ok (.bl (!neg)) S
    | _ => .ok (.bl neg) S
  | .bl b => match d with
    | .bl a => .ok (.bl (if neg then !decide (a = b) else decide (a = b))) S
    | _ => .fail
  | _ => .fail
theorem o_is (neg : Bool) : Op2 C X W (compareOp (if neg then .IsNot else .Is)) (isD neg) := by
  intro pins s σ H x y v u Q mp S d e I rx ry hR rd re hp
  cases re with
  | non =>
    have hx : Post C (RD C) mp H σ (.ok (.bl (if neg then !decide (x = .non) else decide (x = .non))) S) Q W := by
      cases rd <;> cases neg <;> exact hp
    cases neg with
    | false => exact op_isN pins s σ H x .non v u Q I rx ry ⟨rfl, hx.done hR (.bl _)⟩
    | true => exact op_notN pins s σ H x .non v u Q I rx ry ⟨rfl, hx.done hR (.bl _)⟩
  | bl b =>
    cases rd with
    | bl a =>
      cases neg with
      | false => exact op_isBl pins s σ H _ _ v u Q I rx ry ⟨a, b, rfl, rfl, (show Post C (RD C) mp H σ (.ok (.bl (decide (a = b))) S) Q W from hp).done hR (.bl _)⟩
      | true => exact op_notBl pins s σ H _ _ v u Q I rx ry ⟨a, b, rfl, rfl, (show Post C (RD C) mp H σ (.ok (.bl (!decide (a = b))) S) Q W from hp).done hR (.bl _)⟩
    | _ => exact (show False from hp).elim
  | _ => exact (show False from hp).elim

/-! ### order of ints -/
def cmpI (p : Int → Int → Bool) (d e : D) (S : Sto) : Rs D := match d, e with
  | .int i, .int j => .ok (.bl (p i j)) S
  | _, _ => .fail
theorem cmpI_ok {f : Value → Value → Sem Value} {p : Int → Int → Bool} (h : OpR X f (rI0 fun i j => .bl (p i j))) : Op2 C X W f (cmpI p) :=
  op2_of h fun σ H x y Q mp S d e hR rd re hp => by
    cases rd with
    | int i =>
      cases re with
      | int j => exact ⟨i, j, rfl, rfl, (show Post C (RD C) mp H σ (.ok (.bl (p i j)) S) Q W from hp).done hR (.bl _)⟩
      | _ => exact (show False from hp).elim
    | _ => cases re <;> exact (show False from hp).elim
abbrev ltI := cmpI fun i j => decide (i < j)
abbrev leI := cmpI fun i j => decide (i ≤ j)
abbrev gtI := cmpI fun i j => decide (j < i)
abbrev geI := cmpI fun i j => decide (j ≤ i)
theorem o_lt : Op2 C X W (compareOp .Lt) ltI := cmpI_ok op_lt
theorem o_le : Op2 C X W (compareOp .LtE) leI := cmpI_ok op_le
theorem o_gt : Op2 C X W (compareOp .Gt) gtI := cmpI_ok op_gt
theorem o_ge : Op2 C X W (compareOp .GtE) geI := cmpI_ok op_ge
def cmpG (Γ : GEnv) : CmpOp → D → D → Sto → Rs D
  | .Eq => eqG Γ
  | .NotEq => neG Γ
  | .Lt => ltI
  | .LtE => leI
  | .Gt => gtI
  | .GtE => geI
  | .Is => isD false
  | .IsNot => isD true
  | .In => inG Γ false
  | .NotIn => inG Γ true
theorem o_ne (GCx : GC C X n Γ) (hK : X.K = C.K) : Op2 C X W (compareOp .NotEq) (neG Γ) := by
  intro pins s σ H x y v u Q mp S d e I rx ry hR rd re hp
  unfold neG at hp
  cases q : ownC Γ "__eq__" d e S with
  | none =>
    rw [q] at hp
    dsimp only at hp
    cases q1 : eqD d e S with
    | none => rw [q1] at hp; exact hp.elim
    | some b =>
      rw [q1] at hp
      obtain ⟨p, q', h1, h2, h3, h4, h5⟩ := eqD_ok hR rd re q1
      rw [← hK] at h1 h2
      refine op_neD GCx.room.units pins s σ H x y v u Q I rx ry ⟨p, q', h1, h2, h3, h4, ?_⟩
      rw [h5]
      exact hp.done hR (.bl _)
  | some r => rw [q] at hp; exact hp.elim
theorem o_cmp (G : GS C Γ) (GCx : GC C X n Γ) (tk : Takes X W) (hK : X.K = C.K) (hm : X.mg = C.mg) : ∀ op, Op2 C X W (compareOp op) (cmpG Γ op)
  | .Eq => o_eq G GCx tk hK hm
  | .NotEq => o_ne GCx hK
  | .Lt => o_lt
  | .LtE => o_le
  | .Gt => o_gt
  | .GtE => o_ge
  | .Is => o_is false
  | .IsNot => o_is true
  | .In => o_in G GCx tk hK hm false
  | .NotIn => o_in G GCx tk hK hm true
end
end Bt

set_option Elab.async false
set_option linter.all false
set_option maxRecDepth 100000
set_option maxHeartbeats 2000000
namespace Bt
open PySem PySem.Spec PyProof.Rows L2
section
variable {C : Ctx} {X : Cx} {W : WX} {Γ : GEnv} {n : Nat} {a b c : Expr} {pos : Pos} {ma mb mc : ME}

/-! ### subscripts -/
def valD {κ α : Type} [DecidableEq κ] (kvs : List (κ × α)) (k : κ) : Option α := (kvs.find? fun kv => decide (kv.1 = k)).map (·.2)
theorem valD_ok {mp : List Addr} {H : Hp} (k : Key) : ∀ {kvs : List (Key × D)} {kws : List (Key × V)}, RepKs C mp H kvs kws → (∀ d, valD kvs k = some d → ∃ v, valV kws k = some v ∧ Rep C mp H d v) ∧ (valD kvs k = none → valV kws k = none)
  | [], [], _ => ⟨fun _ e => (nomatch e), fun _ => rfl⟩
  | [], _ :: _, r => by have := r.1; simp at this
  | _ :: _, [], r => by have := r.1; simp at this
  | (k1, d1) :: kvs, (k2, v2) :: kws, r => by
    obtain ⟨r1, r2⟩ := r
    simp only [List.map_cons, List.cons.injEq] at r1
    obtain ⟨e1, r1⟩ := r1
    subst e1
    cases r2 with
    | cons rd rr =>
      obtain ⟨h1, h2⟩ := valD_ok k (kvs := kvs) (kws := kws) ⟨r1, rr⟩
      by_cases hk : k1 = k
      · rw [valV_pos (p := (k1, v2)) hk]
        have e : valD ((k1, d1) :: kvs) k = some d1 := by simp [valD, List.find?_cons, hk]
        rw [e]
        exact ⟨fun d z => by cases z; exact ⟨v2, rfl, rd⟩, fun z => by cases z⟩
      · rw [valV_neg (p := (k1, v2)) hk]
        have e : valD ((k1, d1) :: kvs) k = valD kvs k := by simp [valD, List.find?_cons, hk]
        rw [e]
        exact ⟨h1, h2⟩
def ixD (d e : D) (S : Sto) : Option D := match d with
  | .str z => match e with
    | .int i => if z.length ≤ sizeLine then (atI z.cps.toList i).map fun c => .str ⟨#[c]⟩ else none
    | _ => none
  | _ => match seqD d S with
    | some xs => match e with
      | .int i => atI xs i
      | _ => none
    | none => match d with
      | .ref n => match S[n]? with
        | some (.dic kvs) => match keyD e with
          | some k => valD kvs k
          | none => none
        | _ => none
      | _ => none
def ixG (d e : D) (S : Sto) : Rs D := match ixD d e S with
  | some x => .ok x S
  | none => .fail
theorem atI_reps {mp : List Addr} {H : Hp} {ds : List D} {vs : List V} {i : Int} {d : D} (r : Reps C mp H ds vs) (e : atI ds i = some d) : ∃ v, atI vs i = some v ∧ Rep C mp H d v := by
  unfold atI at e ⊢
  rw [← r.length]
  cases q : ixN ds.length i with
  | none => rw [q] at e; cases e
  | some j =>
    rw [q] at e
    exact r.get e
theorem s_ix (hu : X.A.units + 1 < cLine) (hK : X.K = C.K) (ha : SE C X W a ma) (hb : SE C X W b mb) (hs : PlainIx b) : SE C X W (.Subscript a b pos) (mOp ixG ma mb) := by
  refine ⟨fun pins s σ H Q I ⟨mp, env, S, hR, hE, h⟩ => ?_⟩
  refine Subscript_ (binT ha hb (R := fun x y H2 => ∃ mp2 S2 d e, Rel C mp2 S2 H2 ∧ Rep C mp2 H2 d x ∧ Rep C mp2 H2 e y ∧ Post C (RD C) mp2 H2 σ (ixG d e S2) Q W) I (T.of hR hE h fun d1 S1 mp1 H1 x p1 l1 R1 E1 r1 h1 => T.of R1 E1 h1 fun d2 S2 mp2 H2 y p2 l2 R2 E2 r2 h2 => ⟨mp2, S2, d1, d2, R2, r1.mono p2 l2, r2, h2⟩) fun v u s2 x y H2 I2 rx ry q => ?_)
  obtain ⟨mp2, S2, d, e, R2, r1, r2, h2⟩ := q
  unfold ixG at h2
  cases q : ixD d e S2 with
  | none => rw [q] at h2; exact h2.elim
  | some z =>
    rw [q] at h2
    unfold ixD at q
    split at q
    · rename_i zz
      cases r1
      split at q
      · rename_i i
        cases r2
        split at q
        · rename_i hz
          obtain ⟨c, e1, e2⟩ := Option.map_eq_some_iff.mp q
          subst e2
          exact ix_str a b pins s2 σ H2 _ _ v u Q I2 rx ry ⟨zz, i, c, rfl, rfl, hz, e1, h2.done R2 (.str _)⟩ (hs _ _)
        · cases q
      · cases q
    · split at q
      · rename_i xs hsq
        obtain ⟨p, vs, rfl, hq, hr⟩ := seqD_ok R2 r1 hsq
        split at q
        · rename_i i
          cases r2
          obtain ⟨vv, e1, e2⟩ := atI_reps hr q
          rw [← hK] at hq
          rcases hq with hq | hq
          · exact ix_list a b pins s2 σ H2 _ _ v u Q I2 rx ry ⟨p, vs, i, vv, rfl, rfl, hq, e1, h2.done R2 e2⟩ (hs _ _)
          · exact ix_tup a b pins s2 σ H2 _ _ v u Q I2 rx ry ⟨p, vs, i, vv, rfl, rfl, hq, e1, h2.done R2 e2⟩ (hs _ _)
        · cases q
      · split at q
        · rename_i m
          split at q
          · rename_i kvs hS
            split at q
            · rename_i k hk
              cases r1 with
              | ref q0 =>
                rename_i p
                obtain ⟨o, ho, ro⟩ := R2.atA q0
                rw [hS] at ho
                cases ho
                obtain ⟨kws, hH, hkv⟩ := ro
                obtain ⟨vv, e1, e2⟩ := (valD_ok k hkv).1 z q
                have ey := keyD_ok r2 hk
                subst ey
                have g : DGet H2 p (kV k) (some vv) := by rw [← e1]; exact DGet.k hH
                cases (show v = Value.ref p from rx)
                have hT := dict_typeIs I2 g
                unfold subscriptTail
                refine wpAny_bind ?_
                rw [getitemInPython_of_ne hT.not_modules]
                refine wpAny_bind (wpAny_specialOf hT PySem.F.slot_dict_getitem.lookup ?_)
                have fin : wpAny (model X.prog X.w) X.A (subscripted b false (.ref p) u) (fun r s₃ => wpAny (model X.prog X.w) X.A (letTemporaryGo a (.ref p) r >>= fun _ => pure r) (EP X pins σ Q) X.xe s₃) X.xe s2 := by
                  rw [hs (.ref p) u]
                  exact wpAny_operating (d_getItem hu I2 g ry fun w' s3 I3 rw' => wpAny_bind (wpAny_letTemporaryGo (wpAny_pure ⟨vv, H2, I3, rw', h2.done R2 e2⟩)))
                first
                  | exact wpAny_pure (wpAny_bind fin)
                  | exact wpAny_bind (wpAny_pure (wpAny_bind fin))
                  | exact wpAny_bind fin
            · cases q
          · cases q
        · cases q

/-! ### slices -/
def cutD (xs : List D) (lo hi : Option Int) : List D := (xs.drop (HT.sIx xs.length 0 lo)).take (HT.sIx xs.length xs.length hi - HT.sIx xs.length 0 lo)
theorem cut_reps {mp : List Addr} {H : Hp} {ds : List D} {vs : List V} {lo hi : Option Int} (r : Reps C mp H ds vs) : Reps C mp H (cutD ds lo hi) (cutV vs lo hi) := by
  unfold cutD cutV
  rw [← r.length]
  exact (r.drop _).take _
def slD (d : D) (lo hi : Option Int) (S : Sto) : Rs D := match d with
  | .str z => if z.length ≤ sizeLine then .ok (.str (cutS z lo hi)) S else .fail
  | .tup xs => .ok (.tup (cutD xs lo hi)) S
  | .ref n => match S[n]? with
    | some (.lst xs) => .ok (.ref S.length) (S ++ [.lst (cutD xs lo hi)])
    | some (.ro xs) => .ok (.ref S.length) (S ++ [.lst (cutD xs lo hi)])
    | _ => .fail
  | .fz xs => .ok (.ref S.length) (S ++ [.lst (cutD xs lo hi)])
  | _ => .fail
abbrev MO := Env → Sto → Rs (Option Int)
def mNoPart : MO := fun _ S => .ok none S
def mPart (a : ME) : MO := fun env S => (a env S).bind fun d S => match d with
  | .int i => .ok (some i) S
  | _ => .fail
def mSl (a : ME) (lo hi : MO) : ME := fun env S => (a env S).bind fun d S => (lo env S).bind fun l S => (hi env S).bind fun h S => slD d l h S
abbrev ROI : RelT (Option Int) (Option Int) := fun _ _ a b => a = b
abbrev SO (C : Ctx) (X : Cx) (W : WX) (e : Option Expr) (m : MO) : Prop := PO X e (T C W ROI m)
theorem PO.imp' {e : Option Expr} {t u : TO} (h : PO X e t) (q : ∀ σ H Q, u σ H Q → t σ H Q) : PO X e u := ⟨fun pins s σ H Q I w => h.run pins s σ H Q I (q σ H Q w)⟩
theorem s_noPart : SO C X W none mNoPart := PO.imp' po_none fun σ H Q h => h.now (fun _ _ => rfl) fun _ => rfl
theorem s_part (ha : SE C X W a ma) : SO C X W (some a) (mPart ma) := PO.imp' (po_some ha) fun σ H Q ⟨mp, env, S, hR, hE, h⟩ => by
  refine T.of hR hE h fun d1 S1 mp1 H1 x p1 l1 R1 E1 r1 h1 => ?_
  cases r1 with
  | int i => exact ⟨i, rfl, (show Post C ROI mp1 H1 σ (.ok (some i) S1) Q W from h1).done R1 rfl⟩
  | _ => exact (show False from h1).elim
theorem s_slice {lo hi : Option Expr} {ml mh : MO} {p2 : Pos} (hK : X.K = C.K) (ha : SE C X W a ma) (hl : SO C X W lo ml) (hh : SO C X W hi mh) : SE C X W (.Subscript a (.Slice lo hi none p2) pos) (mSl ma ml mh) := by
  refine (pe_slice ((sl_str.or sl_tupA).or sl_list) ha hl hh).imp fun σ H Q ⟨mp, env, S, hR, hE, h⟩ => ?_
  refine T.of hR hE h fun d1 S1 mp1 H1 x p1 l1 R1 E1 r1 h1 => T.of R1 E1 h1 fun l S2 mp2 H2 l' p2 l2 R2 E2 r2 h2 => T.of R2 E2 h2 fun u S3 mp3 H3 u' p3 l3 R3 E3 r3 h3 => ?_
  subst r2; subst r3
  have r1' := r1.mono (p2.trans p3) (l2.trans l3)
  cases r1' with
  | str z =>
    have hq : Post C (RD C) mp3 H3 σ (if z.length ≤ sizeLine then .ok (.str (cutS z l u)) S3 else .fail) Q W := h3
    by_cases hz : z.length ≤ sizeLine
    · rw [if_pos hz] at hq
      exact .inl (.inl ⟨z, rfl, hz, hq.done R3 (.str _)⟩)
    · rw [if_neg hz] at hq; exact hq.elim
  | tup q t =>
    rename_i ds vs p
    have hq : Post C (RD C) mp3 H3 σ (.ok (.tup (cutD ds l u)) S3) Q W := h3
    refine .inl (.inr ⟨p, vs, rfl, hK ▸ q.sq, fun hw => ?_, fun _ p' hp' => ?_⟩)
    · have e : cutD ds l u = ds := by
        unfold cutD
        rw [t.length, hw.1, hw.2, List.drop_zero, Nat.sub_zero, ← t.length, List.take_length]
      rw [e] at hq
      exact hq.done R3 (.tup q t)
    · exact hq mp3 _ (.ref p') (List.prefix_refl _) (HLe.new hp') (R3.new hp') (.tup (.inl upd_same) ((cut_reps t).mono (List.prefix_refl _) (HLe.new hp')))
  | @fz xs vs p q t =>
    have hq : Post C (RD C) mp3 H3 σ (.ok (.ref S3.length) (S3 ++ [.lst (cutD xs l u)])) Q W := h3
    refine .inr ⟨p, vs, rfl, hK ▸ q.sq, fun p' hp' => ?_⟩
    refine hq (mp3 ++ [p']) _ (.ref p') (List.prefix_append _ _) (HLe.new hp') (R3.push hp' ⟨_, upd_same, (cut_reps t).mono (List.prefix_append _ _) (HLe.new hp')⟩) (.ref ?_)
    rw [List.getElem?_append_right (by rw [R3.len]; exact Nat.le_refl _), R3.len]
    simp
  | ref q =>
    rename_i m p
    obtain ⟨o, ho, ro⟩ := R3.atA q
    have fin : ∀ {xs : List D} {vs : List V}, SqL C.K H3 p vs → Reps C mp3 H3 xs vs → Post C (RD C) mp3 H3 σ (.ok (.ref S3.length) (S3 ++ [.lst (cutD xs l u)])) Q W → rSlL X.K (.ref p) l u H3 Q := fun {xs vs} hs ht hq => by
      refine ⟨p, vs, rfl, hK ▸ hs, fun p' hp' => ?_⟩
      refine hq (mp3 ++ [p']) _ (.ref p') (List.prefix_append _ _) (HLe.new hp') (R3.push hp' ⟨_, upd_same, (cut_reps ht).mono (List.prefix_append _ _) (HLe.new hp')⟩) (.ref ?_)
      rw [List.getElem?_append_right (by rw [R3.len]; exact Nat.le_refl _), R3.len]
      simp
    dsimp only [slD] at h3
    rw [ho] at h3
    cases o with
    | lst xs => obtain ⟨vs, k1, k2⟩ := ro; exact .inr (fin (.of k1) k2 h3)
    | ro xs => obtain ⟨oo, vs, k1, k2⟩ := ro; exact .inr (fin (.inl (.inr ⟨oo, k1⟩)) k2 h3)
    | dic kvs => exact h3.elim
    | ins c fs => exact h3.elim
  | _ => exact (show False from h3).elim

/-! ### an attribute of an instance -/
def attrG (Γ : GEnv) (f : Str) (d : D) (S : Sto) : Rs D := match d with
  | .ref n => match S[n]? with
    | some (.ins c fs) => if Γ.cls c && Γ.noa c f then (match fs.lookup f with
      | some x => .ok x S
      | none => .fail) else .fail
    | _ => .fail
  | _ => .fail
theorem lookup_reps {mp : List Addr} {H : Hp} {f : Str} : ∀ {fs : List (Str × D)} {gs : List (Str × V)} {d : D}, RepFs C mp H fs gs → fs.lookup f = some d → ∃ v, gs.lookup f = some v ∧ Rep C mp H d v
  | [], _, _, _, e => by cases e
  | _ :: _, [], _, r, _ => by have := r.1; simp at this
  | (k1, d1) :: fs, (k2, v2) :: gs, d, r, e => by
    obtain ⟨r1, r2⟩ := r
    simp only [List.map_cons, List.cons.injEq] at r1
    obtain ⟨e1, r1⟩ := r1
    subst e1
    cases r2 with
    | cons rd rr =>
      rw [List.lookup_cons] at e ⊢
      cases q : f == k1 with
      | true => rw [q] at e; cases e; exact ⟨v2, rfl, rd⟩
      | false => rw [q] at e; exact lookup_reps ⟨r1, rr⟩ e
theorem lookup_reps_none {mp : List Addr} {H : Hp} {f : Str} : ∀ {fs : List (Str × D)} {gs : List (Str × V)}, RepFs C mp H fs gs → fs.lookup f = none → gs.lookup f = none
  | [], [], _, _ => rfl
  | [], _ :: _, r, _ => by have := r.1; simp at this
  | _ :: _, [], r, _ => rfl
  | (k1, d1) :: fs, (k2, v2) :: gs, r, e => by
    obtain ⟨r1, r2⟩ := r
    simp only [List.map_cons, List.cons.injEq] at r1
    obtain ⟨e1, r1⟩ := r1
    subst e1
    cases r2 with
    | cons rd rr =>
      rw [List.lookup_cons] at e ⊢
      cases q : f == k1 with
      | true => rw [q] at e; cases e
      | false => rw [q] at e; exact lookup_reps_none ⟨r1, rr⟩ e
theorem s_attr {f : Str} (G : GS C Γ) (hK : X.K = C.K) (ha : SE C X W a ma) (hb : attributeBase a f X.env (eval a X.env) = eval a X.env) : SE C X W (.Attribute a f pos) (mUn (attrG Γ f) ma) := by
  refine (pe_fld ha hb).imp fun σ H Q ⟨mp, env, S, hR, hE, h⟩ => ?_
  refine T.of hR hE h fun d1 S1 mp1 H1 x p1 l1 R1 E1 r1 h1 => ?_
  cases r1 with
  | ref q =>
    rename_i m p
    obtain ⟨o, ho, ro⟩ := R1.atA q
    dsimp only [attrG] at h1
    rw [ho] at h1
    cases o with
    | ins c fs =>
      obtain ⟨k, dx, gs, hk, hH, hf⟩ := ro
      dsimp only at h1
      by_cases z : (Γ.cls c && Γ.noa c f) = true
      · rw [if_pos z] at h1
        obtain ⟨z1, z2⟩ := Bool.and_eq_true_iff.mp z
        obtain ⟨k1, e1, ok⟩ := G.cls c z1
        obtain ⟨k2, e2, na⟩ := G.noa c f z2
        rw [hk] at e1 e2
        cases e1; cases e2
        cases qq : fs.lookup f with
        | none => rw [qq] at h1; exact h1.elim
        | some d =>
          rw [qq] at h1
          obtain ⟨v, l1, l2⟩ := lookup_reps hf qq
          exact ⟨p, k, dx, gs, v, rfl, hH, hK ▸ ok.cl, hK ▸ na, l1, h1.done R1 l2⟩
      · rw [if_neg z] at h1; exact h1.elim
    | _ => exact h1.elim
  | _ => exact (show False from h1).elim
end
end Bt

set_option Elab.async false
set_option linter.all false
set_option maxRecDepth 100000
set_option maxHeartbeats 2000000
namespace Bt
open PySem PySem.Spec PyProof.Rows L2
section
variable {C : Ctx} {X : Cx} {W : WX} {Γ : GEnv} {n : Nat} {a b c : Expr} {pos : Pos} {ma mb mc : ME}

/-! ### a new instance -/
theorem Post.made {c : Str} {mp : List Addr} {H : Hp} {σ : L2.St} {r : Rs D} {Q : VK} {m : Nat} {x : Addr} (hx : mp[m]? = some x) (h : Post C (RD C) mp H σ (r.bind fun r S' => match r with | .non => .ok (.ref m) S' | _ => .fail) Q W) :
    Post C (RD C) mp H σ r (fun v H2 => v = .non ∧ Q (.ref x) H2) W := by
  cases r with
  | fail => exact h
  | exc x S => exact h
  | ok d S =>
    cases d with
    | non =>
      intro mp' H' v p l R r
      cases r
      exact ⟨rfl, h mp' H' _ p l R (.ref (pre_get p hx))⟩
    | _ => exact h.elim
theorem callS_make {k fI : Addr} {x : Str} {g : List D → Sto → Rs D} (tk : Takes X W) (hK : X.K = C.K) (hm : X.mg = C.mg) (hr : Room (n + 1) X.A) (hk : C.mg x = some (.ref k)) (M : Mk C.K k fI) (F : FnR X.prog X.w C.K C.mg X.base (L2.CX X.prog X.w) n fI (spOf C g)) :
    CallS C X W (.ref k) (makeD x g) := by
  intro pins s σ H xs us Q mp S ds I r hR rd hp
  rw [← hK] at M
  rw [← hK, ← hm] at F
  have fx : H (s.heap.objs.size + 1) = none := I.hok.fresh (Nat.le_succ _)
  have fd : H s.heap.objs.size = none := I.hok.fresh (Nat.le_refl _)
  have I2 := Inv.made (C := k) I
  have R1 : Rel C mp S (upd H s.heap.objs.size (.own (s.heap.objs.size + 1))) := hR.new fd
  have fx1 : upd H s.heap.objs.size (.own (s.heap.objs.size + 1)) (s.heap.objs.size + 1) = none := by rw [upd_ne (Nat.ne_of_gt (Nat.lt_succ_self _))]; exact fx
  have R2 : Rel C (mp ++ [s.heap.objs.size + 1]) (S ++ [.ins x []]) (upd (upd H s.heap.objs.size (.own (s.heap.objs.size + 1))) (s.heap.objs.size + 1) (.ins k s.heap.objs.size [])) :=
    R1.push fx1 ⟨k, s.heap.objs.size, [], hk, upd_same, rfl, .nil⟩
  have le : HLe H (upd (upd H s.heap.objs.size (.own (s.heap.objs.size + 1))) (s.heap.objs.size + 1) (.ins k s.heap.objs.size [])) := (HLe.new fd).trans (HLe.new fx1)
  have pm : (mp ++ [s.heap.objs.size + 1])[S.length]? = some (s.heap.objs.size + 1) := by
    rw [List.getElem?_append_right (by rw [hR.len]; exact Nat.le_refl _), hR.len]
    simp
  have rs : Reps C (mp ++ [s.heap.objs.size + 1]) _ (.ref S.length :: ds) (.ref (s.heap.objs.size + 1) :: xs) := .cons (.ref pm) (rd.mono (List.prefix_append _ _) le)
  have hp' := Post.made (c := x) pm (Post.mono (List.prefix_append mp [s.heap.objs.size + 1]) le hp)
  refine wpAny_call (make_map (f := fI) I.kIn M.makes M.init (beq_iff_eq.mp M.fn) (codeAny_mono (F _ X.stack _ _ (Value.ref (s.heap.objs.size + 1) :: us) (V.ref (s.heap.objs.size + 1) :: xs) _ (WE W σ) (hr.make k us [])
    (I2.env0.make k us []) (.cons rfl r) ⟨_, _, _, R2, rs, hp'.slots⟩) fun r s' hq' => ?_))
  cases r with
  | error e => exact passAt tk σ pins _ _ e s' I2 hq'
  | ok fl =>
    cases fl with
    | ret u =>
      obtain ⟨v, H', I3, rv, ev, q3⟩ := I2.after hq'
      subst ev
      exact ⟨rv, ⟨V.ref (s.heap.objs.size + 1), H', I3, rfl, q3⟩⟩
    | next => exact False.elim hq'
    | brk => exact False.elim hq'
    | cont => exact False.elim hq'
theorem callS_cal (GCx : GC C X n Γ) (tk : Takes X W) (hK : X.K = C.K) (hm : X.mg = C.mg) {x : Str} {g : List D → Sto → Rs D} (h : Γ.cal x = some g) : ∃ f, C.mg x = some (.ref f) ∧ PySem.W.keepIn C.K (.ref f) = true ∧ CallS C X W (.ref f) g := by
  obtain ⟨f, h1, h2, h3⟩ := GCx.cal x g h
  refine ⟨f, h1, h2, ?_⟩
  rcases h3 with F | ⟨gi, fI, rfl, M, F⟩
  · exact callS_fn tk hK hm (GCx.room.mono (by omega)) F
  · exact callS_make tk hK hm (GCx.room.mono (by omega)) h1 M F

/-! ### built-ins -/
def lenP (d : D) (S : Sto) : Option Nat := match d with
  | .str z => if z.length ≤ sizeLine then some z.length else none
  | _ => match seqD d S with
    | some xs => some xs.length
    | none => match d with
      | .ref n => match S[n]? with
        | some (.dic kvs) => some kvs.length
        | _ => none
      | _ => none
def lenR (r : Rs D) : Rs D := r.bind fun d S => match d with
  | .int i => if 0 ≤ i ∧ i < 2 ^ 63 then .ok (.int i) S else .fail
  | _ => .fail
def lenG (Γ : GEnv) : List D → Sto → Rs D
  | [d], S => match lenP d S with
    | some k => .ok (.int k) S
    | none => match d with
      | .ref n => match S[n]? with
        | some (.ins c _) => match Γ.met c "__len__" with
          | some g => lenR (g [d] S)
          | none => .fail
        | _ => .fail
      | _ => .fail
  | _, _ => .fail
theorem Post.len {mp : List Addr} {H : Hp} {σ : L2.St} {r : Rs D} {Q : VK} (h : Post C (RD C) mp H σ (lenR r) Q W) : Post C (RD C) mp H σ r (fun x H1 => ∃ i, x = .int i ∧ (0 ≤ i ∧ i < 2 ^ 63) ∧ Q (.int i) H1) W := by
  cases r with
  | fail => exact h
  | exc x S => exact h
  | ok d S =>
    cases d with
    | int i =>
      have h' : Post C (RD C) mp H σ (if 0 ≤ i ∧ i < 2 ^ 63 then .ok (.int i) S else .fail) Q W := h
      by_cases z : 0 ≤ i ∧ i < 2 ^ 63
      · rw [if_pos z] at h'
        intro mp' H' v p l R r
        cases r
        exact ⟨i, rfl, z, h' mp' H' _ p l R (.int _)⟩
      · rw [if_neg z] at h'; exact h'.elim
    | _ => exact h.elim
theorem c_len (GCx : GC C X n Γ) (tk : Takes X W) (hK : X.K = C.K) (hm : X.mg = C.mg) : CallS C X W (.builtin "len") (lenG Γ) := by
  intro pins s σ H xs us Q mp S ds I r hR rd hp
  cases rd with
  | nil => exact hp.elim
  | cons r1 rr =>
    cases rr with
    | cons r2 rr => exact (show False from hp).elim
    | nil =>
      rename_i d v
      dsimp only [lenG] at hp
      cases q : lenP d S with
      | some k =>
        rw [q] at hp
        dsimp only at hp
        unfold lenP at q
        split at q
        · rename_i z
          cases r1
          split at q
          · rename_i hz
            cases q
            exact call_len_str pins s σ H _ us Q I r ⟨z, rfl, hz, hp.done hR (.int _)⟩
          · cases q
        · split at q
          · rename_i ys hs
            cases q
            obtain ⟨p, vs, rfl, hq, ht⟩ := seqD_ok hR r1 hs
            rw [← hK] at hq
            refine call_len_seq pins s σ H _ us Q I r ⟨p, vs, rfl, hq, ?_⟩
            rw [← ht.length]
            exact hp.done hR (.int _)
          · split at q
            · rename_i m
              split at q
              · rename_i kvs hS
                cases q
                cases r1 with
                | ref q0 =>
                  rename_i p
                  obtain ⟨o, ho, ro⟩ := hR.atA q0
                  rw [hS] at ho
                  cases ho
                  obtain ⟨kws, hH, hkv⟩ := ro
                  have hl : kvs.length = kws.length := by have := congrArg List.length hkv.1; simpa using this
                  cases r with
                  | cons ru rn =>
                    cases rn
                    rename_i u
                    cases (show u = Value.ref p from ru)
                    refine d_len I (.inl hH) fun t s' I' => ⟨.int kws.length, H, I', ⟨t, rfl⟩, ?_⟩
                    rw [← hl]
                    exact hp.done hR (.int _)
              · cases q
            · cases q
      | none =>
        rw [q] at hp
        dsimp only at hp
        split at hp
        · rename_i m
          split at hp
          · rename_i c fs hS
            cases q3 : Γ.met c "__len__" with
            | none => rw [q3] at hp; exact hp.elim
            | some g =>
              rw [q3] at hp
              have h := Post.len hp
              obtain ⟨k, f, hk, cl, mt, F⟩ := GCx.met c "__len__" g q3
              cases r1 with
              | ref q0 =>
                rename_i p
                obtain ⟨o, ho, ro⟩ := hR.atA q0
                rw [hS] at ho
                cases ho
                obtain ⟨k', dx, gs, hk', hH, _⟩ := ro
                rw [hk] at hk'
                cases hk'
                obtain ⟨od, J⟩ := inst_at I hH
                obtain ⟨mm, fr⟩ := I.fr
                cases r with
                | cons ru rn =>
                  cases rn
                  rename_i u
                  cases (show u = Value.ref p from ru)
                  refine PySem.W.len_K (h₀ := X.base) (K := X.K) (f := f) fr I.mod.kin J (by rw [hK]; exact mt.at_) (by rw [hK]; exact mt.fn) ?_
                  refine thn (call_in1 tk hK hm (GCx.room.mono (by omega)) F I (xs := [V.ref p]) (.cons rfl .nil) hR (.cons (.ref q0) .nil) h) fun r s' ⟨vr, H', I', rr, i, ei, hb, qq⟩ => ?_
                  subst ei
                  obtain ⟨t, rfl⟩ := rr
                  exact ⟨hb, ⟨.int i, H', I'.tok _, ⟨_, rfl⟩, qq⟩⟩
          · exact hp.elim
        · exact hp.elim
def intB : List D → Sto → Rs D
  | [.int i], S => .ok (.int i) S
  | [.bl k], S => .ok (.int (if k then 1 else 0)) S
  | _, _ => .fail
def listB : List D → Sto → Rs D
  | [d], S => match seqD d S with
    | some xs => .ok (.ref S.length) (S ++ [.lst xs])
    | none => .fail
  | _, _ => .fail
def tupB : List D → Sto → Rs D
  | [d], S => match seqD d S with
    | some xs => .ok (.tup xs) S
    | none => .fail
  | _, _ => .fail
theorem new_ref {mp : List Addr} {S : Sto} {H : Hp} {σ : L2.St} {Q : VK} {ob : Ob} {o : HO} (hR : Rel C mp S H) (h : Post C (RD C) mp H σ (.ok (.ref S.length) (S ++ [ob])) Q W) {p : Addr} (hp : H p = none) (r : RepO C (mp ++ [p]) (upd H p o) p ob) : Q (.ref p) (upd H p o) := by
  refine h (mp ++ [p]) _ (.ref p) (List.prefix_append _ _) (HLe.new hp) (hR.push hp r) (.ref ?_)
  rw [List.getElem?_append_right (by rw [hR.len]; exact Nat.le_refl _), hR.len]
  simp
theorem c_int : CallS C X W (.type "int") intB := callS_of call_int1 fun σ H xs Q mp S ds hR rd hp => by
  cases rd with
  | nil => exact hp.elim
  | cons r1 rr =>
    cases rr with
    | cons r2 rr => cases r1 <;> exact (show False from hp).elim
    | nil =>
      cases r1 with
      | int i => exact .inl ⟨i, rfl, (show Post C (RD C) mp H σ (.ok (.int i) S) Q W from hp).done hR (.int _)⟩
      | bl k => exact .inr ⟨k, rfl, (show Post C (RD C) mp H σ (.ok (.int (if k then 1 else 0)) S) Q W from hp).done hR (.int _)⟩
      | _ => exact (show False from hp).elim
theorem c_list (hK : X.K = C.K) : CallS C X W (.type "list") listB := callS_of call_list_of fun σ H xs Q mp S ds hR rd hp => by
  cases rd with
  | nil => exact hp.elim
  | cons r1 rr =>
    cases rr with
    | cons r2 rr => exact (show False from hp).elim
    | nil =>
      rename_i d v
      have hp' : Post C (RD C) mp H σ (match seqD d S with
        | some xs => .ok (.ref S.length) (S ++ [.lst xs])
        | none => .fail) Q W := hp
      cases q : seqD d S with
      | none => rw [q] at hp'; exact hp'.elim
      | some ys =>
        rw [q] at hp'
        obtain ⟨p, vs, rfl, hq, ht⟩ := seqD_ok hR r1 q
        rw [← hK] at hq
        exact ⟨p, vs, rfl, hq, fun l hl => new_ref hR hp' hl ⟨vs, upd_same, ht.mono (List.prefix_append _ _) (HLe.new hl)⟩⟩
theorem c_tuple (hK : X.K = C.K) : CallS C X W (.type "tuple") tupB := callS_of call_tuple_of fun σ H xs Q mp S ds hR rd hp => by
  cases rd with
  | nil => exact hp.elim
  | cons r1 rr =>
    cases rr with
    | cons r2 rr => exact (show False from hp).elim
    | nil =>
      rename_i d v
      have hp' : Post C (RD C) mp H σ (match seqD d S with
        | some xs => .ok (.tup xs) S
        | none => .fail) Q W := hp
      cases q : seqD d S with
      | none => rw [q] at hp'; exact hp'.elim
      | some ys =>
        rw [q] at hp'
        have e := q
        unfold seqD at e
        cases r1 with
        | tup qt tt =>
          rename_i vs p
          cases e
          exact ⟨p, vs, rfl, .inr ⟨hK ▸ qt.sq, hp'.done hR (.tup qt tt)⟩⟩
        | ref q0 =>
          rename_i m p
          obtain ⟨o, ho, ro⟩ := hR.atA q0
          dsimp only at e
          rw [ho] at e
          have fin : ∀ {vs : List V}, SqL C.K H p vs → Reps C mp H ys vs → _ := fun {vs} hq' ht =>
            (⟨p, vs, rfl, .inl ⟨hK ▸ hq', fun l hl => hp' mp _ (.ref l) (List.prefix_refl _) (HLe.new hl) (hR.new hl) (.tup (.inl upd_same) (ht.mono (List.prefix_refl _) (HLe.new hl)))⟩⟩ :
              ∃ p' ys', [V.ref p] = [V.ref p'] ∧ ((SqL X.K H p' ys' ∧ ∀ l, H l = none → Q (.ref l) (upd H l (.tup ys'))) ∨ (SqT X.K H p' ys' ∧ Q (.ref p') H)))
          cases o with
          | lst zs => obtain ⟨vs, k1, k2⟩ := ro; cases e; exact fin (.of k1) k2
          | ro zs => obtain ⟨oo, vs, k1, k2⟩ := ro; cases e; exact fin (.inl (.inr ⟨oo, k1⟩)) k2
          | dic _ => cases e
          | ins _ _ => cases e
        | _ => cases e
end
end Bt

set_option Elab.async false
set_option linter.all false
set_option maxRecDepth 100000
set_option maxHeartbeats 2000000
namespace Bt
open PySem PySem.Spec PyProof.Rows L2
section
variable {C : Ctx} {X : Cx} {W : WX} {Γ : GEnv} {n : Nat} {a b c : Expr} {pos : Pos} {ma mb mc : ME}

/-! ### calls by a global name -/
def bltD (Γ : GEnv) (f : Str) : Option (List D → Sto → Rs D) :=
  if f = "len" then some (lenG Γ) else if f = "isinstance" then some (isiD Γ) else if f = "int" then some intB else if f = "list" then some listB else if f = "tuple" then some tupB else none
theorem bltD_ok (G : GS C Γ) (GCx : GC C X n Γ) (tk : Takes X W) (hK : X.K = C.K) (hm : X.mg = C.mg) {f : Str} {g : List D → Sto → Rs D} (h : bltD Γ f = some g) :
    f ≠ "__name__" ∧ (f == ("__debug__" : Str)) = false ∧ ((∃ id, bootBuiltins f = some (.builtin id) ∧ CallS C X W (.builtin id) g) ∨ ∃ T, bootBuiltins f = some (.type T) ∧ CallS C X W (.type T) g) := by
  unfold bltD at h
  split at h
  · rename_i e; subst e; cases h
    exact ⟨by decide, by decide, .inl ⟨"len", boot_len, c_len GCx tk hK hm⟩⟩
  split at h
  · rename_i e; subst e; cases h
    exact ⟨by decide, by decide, .inl ⟨"isinstance", by decide +kernel, c_isi G hK⟩⟩
  split at h
  · rename_i e; subst e; cases h
    exact ⟨by decide, by decide, .inr ⟨"int", by decide +kernel, c_int⟩⟩
  split at h
  · rename_i e; subst e; cases h
    exact ⟨by decide, by decide, .inr ⟨"list", by decide +kernel, c_list hK⟩⟩
  split at h
  · rename_i e; subst e; cases h
    exact ⟨by decide, by decide, .inr ⟨"tuple", by decide +kernel, c_tuple hK⟩⟩
  cases h
def calX (Γ : GEnv) (f : Str) : Option (List D → Sto → Rs D) := match Γ.cal f with
  | some g => some g
  | none => if Γ.fre f then bltD Γ f else none
def mCall (Γ : GEnv) (f : Str) (m : MA) : ME := fun env S => match calX Γ f with
  | some g => (m env S).bind fun ds S => g ds S
  | none => .fail
def mCall0 (Γ : GEnv) (f : Str) : ME := fun _ S => match Γ.cal f with
  | some g => g [] S
  | none => .fail
/-- no star among the arguments -/
def noStar : List Expr → Bool
  | [] => true
  | .Starred _ _ :: _ => false
  | _ :: r => noStar r
theorem starEach_cons {e : Expr} {es : List Expr} {env : PySem.Env} (h : noStar (e :: es) = true) : starEach (e :: es) env = (false, eval e env) :: starEach es env := by
  cases e <;> first | rfl | cases h
theorem noStar_tail {e : Expr} {es : List Expr} (h : noStar (e :: es) = true) : noStar es = true := by
  cases e <;> first | exact h | cases h
theorem noStar_any {env : PySem.Env} {pos : Pos} : ∀ {es : List Expr}, noStar es = true → (backTo pos (starEach es env)).any (·.1) = false
  | [], _ => rfl
  | e :: es, h => by
    rw [starEach_cons h]
    show (false || (backTo pos (starEach es env)).any (·.1)) = false
    rw [noStar_any (noStar_tail h)]
    rfl
theorem noStar_all {env : PySem.Env} {pos : Pos} : ∀ {es : List Expr}, noStar es = true → (backTo pos (starEach es env)).all (fun x => !x.1) = true
  | [], _ => rfl
  | e :: es, h => by
    rw [starEach_cons h]
    show (true && (backTo pos (starEach es env)).all (fun x => !x.1)) = true
    rw [noStar_all (noStar_tail h)]
    rfl
theorem s_call {f : Str} {e : Expr} {es : List Expr} {m : MA} {p : Pos} (G : GS C Γ) (GCx : GC C X n Γ) (tk : Takes X W) (hK : X.K = C.K) (hm : X.mg = C.mg) (hg : Gl X f) (hd : (f == ("__debug__" : Str)) = false) (hn : noStar (e :: es) = true) (ha : SA C X W (e :: es) m) :
    SE C X W (.Call (.Name f p) (e :: es) [] pos) (mCall Γ f m) := by
  refine ⟨fun pins s σ H Q I ⟨mp, env, S, hR, hE, h⟩ => ?_⟩
  unfold mCall at h
  cases q0 : calX Γ f with
  | none => rw [q0] at h; exact h.elim
  | some g =>
    rw [q0] at h
    dsimp only at h
    have run := ha.run pos pins s σ H (fun vs H1 => ∃ mp1 S1 ds, Rel C mp1 S1 H1 ∧ Reps C mp1 H1 ds vs ∧ Post C (RD C) mp1 H1 σ (g ds S1) Q W) I (T.of hR hE h fun ds S1 mp1 H1 vs p1 l1 R1 E1 r1 h1 => ⟨mp1, S1, ds, R1, r1, h1⟩)
    unfold calX at q0
    cases q : Γ.cal f with
    | some g' =>
      rw [q] at q0
      cases q0
      obtain ⟨fa, e1, kp, CS⟩ := callS_cal GCx tk hK hm q
      refine wpAny_Call_Name_kw (ld_glob I hg (by rw [hm]; exact e1) ?_ hd)
      refine PySem.W.callWith_K (first := []) (h₀ := X.base) I.ok.mod.kin (by rw [hK]; exact kp) (thn run fun us s1 ⟨vs, H1, I1, r, mp1, S1, ds, R1, rd, h1⟩ => ⟨I1.kIn, ?_⟩) (starEach_cons hn) (noStar_any (noStar_tail hn))
      exact CS pins s1 σ H1 vs us Q mp1 S1 ds I1 r R1 rd h1
    | none =>
      rw [q] at q0
      dsimp only at q0
      split at q0
      · rename_i hf
        obtain ⟨n1, n2, n3⟩ := bltD_ok G GCx tk hK hm q0
        have hmn : X.mg f = none := by rw [hm]; exact G.fre f hf
        rcases n3 with ⟨id, hv, CS⟩ | ⟨Ty, hv, CS⟩
        · refine wpAny_Call_Name_kw (ld_blt I hg hmn hv ?_ n1 n2)
          exact PyProof.Rows.callWith_builtin1 (thn run fun us s1 ⟨vs, H1, I1, r, mp1, S1, ds, R1, rd, h1⟩ => CS pins s1 σ H1 vs us Q mp1 S1 ds I1 r R1 rd h1) (starEach_cons hn) (noStar_any (noStar_tail hn))
        · refine wpAny_Call_Name_kw (ld_blt I hg hmn hv ?_ n1 n2)
          exact PyProof.Rows.callWith_type1 (thn run fun us s1 ⟨vs, H1, I1, r, mp1, S1, ds, R1, rd, h1⟩ => CS pins s1 σ H1 vs us Q mp1 S1 ds I1 r R1 rd h1) (starEach_cons hn) (noStar_any (noStar_tail hn))
      · cases q0
theorem s_call0 {f : Str} {p : Pos} (GCx : GC C X n Γ) (tk : Takes X W) (hK : X.K = C.K) (hm : X.mg = C.mg) (hg : Gl X f) (hd : (f == ("__debug__" : Str)) = false) : SE C X W (.Call (.Name f p) [] [] pos) (mCall0 Γ f) := by
  refine ⟨fun pins s σ H Q I ⟨mp, env, S, hR, hE, h⟩ => ?_⟩
  unfold mCall0 at h
  cases q : Γ.cal f with
  | none => rw [q] at h; exact h.elim
  | some g =>
    rw [q] at h
    obtain ⟨fa, e1, kp, CS⟩ := callS_cal GCx tk hK hm q
    refine wpAny_Call_Name_kw (ld_glob I hg (by rw [hm]; exact e1) ?_ hd)
    exact PySem.W.callWith_K0 (first := []) I.kIn (by rw [hK]; exact kp) (CS pins s σ H [] [] Q mp S [] I .nil hR .nil h)

/-! ### methods -/
inductive MTag where
  | lst | str | own (c : Str)
def preM (Γ : GEnv) (m : Str) (d : D) (S : Sto) : Option MTag := match d with
  | .str _ => some .str
  | .ref n => match S[n]? with
    | some (.lst _) => some .lst
    | some (.ins c fs) => if (fs.lookup m).isNone then some (.own c) else none
    | _ => none
  | _ => none
/-- pop: the last one, or the one at a place -/
def popD (ds : List D) (xs : List D) : Option (D × List D) := match ds with
  | [] => (xs[xs.length - 1]?).map fun y => (y, xs.dropLast)
  | [.int i] => if (0 ≤ i ∧ i < (xs.length : Int)) ∧ xs.length ≤ 16777216 then (xs[i.toNat]?).map fun y => (y, xs.eraseIdx i.toNat) else none
  | _ => none
def lstM (m : Str) : Option (D → List D → Sto → Rs D) :=
  if m = "append" then some fun d ds S => match d, ds with
    | .ref n, [x] => match S[n]? with
      | some (.lst xs) => if xs.length < sizeLine then .ok .non (S.set n (.lst (xs ++ [x]))) else .fail
      | _ => .fail
    | _, _ => .fail
  else if m = "reverse" then some fun d ds S => match d, ds with
    | .ref n, [] => match S[n]? with
      | some (.lst xs) => .ok .non (S.set n (.lst xs.reverse))
      | _ => .fail
    | _, _ => .fail
  else if m = "clear" then some fun d ds S => match d, ds with
    | .ref n, [] => match S[n]? with
      | some (.lst xs) => .ok .non (S.set n (.lst []))
      | _ => .fail
    | _, _ => .fail
  else if m = "pop" then some fun d ds S => match d with
    | .ref n => match S[n]? with
      | some (.lst xs) => match popD ds xs with
        | some (y, ys) => .ok y (S.set n (.lst ys))
        | none => .fail
      | _ => .fail
    | _ => .fail
  else none
def strsD : List D → Option (List Str)
  | [] => some []
  | .str x :: r => (strsD r).map (x :: ·)
  | _ :: _ => none
def strM (m : Str) : Option (D → List D → Sto → Rs D) :=
  if m = "join" then some fun d ds S => match d, ds with
    | .str a, [x] => match seqD x S with
      | some xs => match strsD xs with
        | some ys => if (ys.map (·.length)).sum + ys.length * a.length ≤ 16777216 then .ok (.str (Txt.join a ys)) S else .fail
        | none => .fail
      | none => .fail
    | _, _ => .fail
  else none
def runM (Γ : GEnv) (m : Str) : MTag → Option (D → List D → Sto → Rs D)
  | .lst => lstM m
  | .str => strM m
  | .own c => (Γ.met c m).map fun g d ds S => g (d :: ds) S
def mMeth (Γ : GEnv) (m : Str) (o : ME) (args : MA) : ME := fun env S => (o env S).bind fun d S => match preM Γ m d S with
  | some t => match runM Γ m t with
    | some g => (args env S).bind fun ds S => g d ds S
    | none => .fail
  | none => .fail
theorem strs_reps {mp : List Addr} {H : Hp} : ∀ {ds : List D} {vs : List V} {ys : List Str}, Reps C mp H ds vs → strsD ds = some ys → vs = ys.map V.str
  | _, _, _, .nil, e => by cases e; rfl
  | _, _, ys, .cons (d := d) (ds := ds) r rr, e => by
    cases r with
    | str x =>
      have e' : (strsD ds).map (x :: ·) = some ys := e
      obtain ⟨zs, h1, h2⟩ := Option.map_eq_some_iff.mp e'
      subst h2
      rw [strs_reps rr h1]
      rfl
    | _ => cases e
/-- what is called behind the receiver -/
theorem meth_eval {o : Expr} {m : Str} {apos : Pos} {es : List Expr} (hb : attributeBase o m X.env (eval o X.env) = eval o X.env) (hl : (apos.endLine == pos.line) = true) (hn : noStar es = true) (hf : es.length < 29) :
    eval (.Call (.Attribute o m apos) es [] pos) X.env = (do
      let ov ← eval o X.env
      standAt apos.atName
      let (f, first) ← holding [ov] (getMethod ov m (do return (← importBound o X.env).getD true))
      callWith pos f first (backTo pos (starEach es X.env)) (backToKw pos (keywordEach [] X.env))) := by
  rw [arm_eval_Call, hb]
  have hform : methodCallForm (es.length + ([] : List Keyword).length) (backTo pos (starEach es X.env)) (backToKw pos (keywordEach [] X.env)) = true := by
    unfold methodCallForm
    rw [noStar_all hn]
    show (true && true && decide (es.length + 0 + 0 < 30)) = true
    simp
    omega
  congr 1
  funext ov
  congr 1
  funext _
  unfold methodCall
  rw [hform]
  have hpos : methodCallPos true o X.env apos pos = pure pos := by unfold methodCallPos; simp [hl]
  rw [hpos]
  rfl
end
end Bt

set_option Elab.async false
set_option linter.all false
set_option maxRecDepth 100000
set_option maxHeartbeats 2000000
namespace Bt
open PySem PySem.Spec PyProof.Rows L2
def MtS (C : Ctx) (X : Cx) (W : WX) (id : String) (g : D → List D → Sto → Rs D) : Prop :=
  ∀ (pins : List (Addr × Obj)) (s : Shared) (σ : L2.St) (H : Hp) (x : V) (xs : List V) (v : Value) (us : List Value) (Q : VK) (mp : List Addr) (S : Sto) (d : D) (ds : List D), Inv X pins σ H s → RelV x v → Vals xs us → Rel C mp S H → Rep C mp H d x → Reps C mp H ds xs →
    Post C (RD C) mp H σ (g d ds S) Q W → wpAny (model X.prog X.w) X.A (call (.builtin id) (v :: us)) (EP X pins σ Q) X.xe s
/-- a built-in type's method -/
structure BMeth (C : Ctx) (X : Cx) (W : WX) (T : String) (m : Str) (g : D → List D → Sto → Rs D) : Prop where
  ok : ∃ id, PlainAttrs T ∧ Slot T m id ∧ typeOf (.builtin id) = pure (.type "method_descriptor") ∧ MtS C X W id g
section
variable {C : Ctx} {X : Cx} {W : WX} {Γ : GEnv} {n : Nat} {a b c : Expr} {pos : Pos} {ma mb mc : ME}
theorem mtS_of {id : String} {r : V → List V → Hp → VK → Prop} {g : D → List D → Sto → Rs D} (h : MtR X id r)
    (q : ∀ (σ : L2.St) (H : Hp) (x : V) (xs : List V) (Q : VK) (mp : List Addr) (S : Sto) (d : D) (ds : List D), Rel C mp S H → Rep C mp H d x → Reps C mp H ds xs → Post C (RD C) mp H σ (g d ds S) Q W → r x xs H Q) : MtS C X W id g :=
  fun pins s σ H x xs v us Q mp S d ds I r1 r2 hR rd rs hp => h pins s σ H x xs v us Q I r1 r2 (q σ H x xs Q mp S d ds hR rd rs hp)
theorem Reps.eraseIdx {mp : List Addr} {H : Hp} : ∀ {ds : List D} {vs : List V} (i : Nat), Reps C mp H ds vs → Reps C mp H (ds.eraseIdx i) (vs.eraseIdx i)
  | _, _, _, .nil => .nil
  | _, _, 0, .cons _ t => t
  | _, _, i + 1, .cons q t => .cons q (Reps.eraseIdx i t)
theorem lstM_ok {m : Str} {g : D → List D → Sto → Rs D} (h : lstM m = some g) : BMeth C X W "list" m g := by
  unfold lstM at h
  split at h
  · rename_i e
    subst e
    cases h
    refine ⟨"list.append", PySem.F.plainAttrs_list, PySem.F.slot_list_append, PySem.F.type_list_append, mtS_of mt_append fun σ H x xs Q mp S d ds hR rd rs hp => ?_⟩
    cases rs with
    | nil => cases rd <;> exact (show False from hp).elim
    | cons r1 rr =>
      cases rr with
      | cons r2 rr => cases rd <;> exact (show False from hp).elim
      | nil =>
        cases rd with
        | ref q =>
          rename_i dx vx k p
          obtain ⟨o, ho, ro⟩ := hR.atA q
          dsimp only at hp
          rw [ho] at hp
          cases o with
          | lst ys =>
            obtain ⟨vs, h1, h2⟩ := ro
            dsimp only at hp
            by_cases z : ys.length < sizeLine
            · rw [if_pos z] at hp
              refine ⟨p, vs, vx, rfl, rfl, h1, by rw [← h2.length]; exact z, ?_⟩
              have le : HLe H (upd H p (.lst (vs ++ [vx]))) := HLe.upd h1 (fun z => z)
              exact hp mp _ .non (List.prefix_refl _) le (hR.set q h1 (fun z => z) ⟨_, upd_same, (h2.append (.cons r1 .nil)).mono (List.prefix_refl _) le⟩) .non
            · rw [if_neg z] at hp; exact hp.elim
          | _ => exact hp.elim
        | _ => exact (show False from hp).elim
  · split at h
    · rename_i e
      subst e
      cases h
      refine ⟨"list.reverse", PySem.F.plainAttrs_list, PySem.F.slot_list_reverse, PySem.F.type_list_reverse, mtS_of mt_reverse fun σ H x xs Q mp S d ds hR rd rs hp => ?_⟩
      cases rs with
      | cons r1 rr => cases rd <;> exact (show False from hp).elim
      | nil =>
        cases rd with
        | ref q =>
          rename_i k p
          obtain ⟨o, ho, ro⟩ := hR.atA q
          dsimp only at hp
          rw [ho] at hp
          cases o with
          | lst ys =>
            obtain ⟨vs, h1, h2⟩ := ro
            dsimp only at hp
            refine ⟨p, vs, rfl, rfl, h1, ?_⟩
            have le : HLe H (upd H p (.lst vs.reverse)) := HLe.upd h1 (fun z => z)
            exact hp mp _ .non (List.prefix_refl _) le (hR.set q h1 (fun z => z) ⟨_, upd_same, h2.reverse.mono (List.prefix_refl _) le⟩) .non
          | _ => exact hp.elim
        | _ => exact (show False from hp).elim
    · split at h
      · rename_i e
        subst e
        cases h
        refine ⟨"list.clear", PySem.F.plainAttrs_list, PySem.F.slot_list_clear, PySem.F.type_list_clear, mtS_of mt_clear fun σ H x xs Q mp S d ds hR rd rs hp => ?_⟩
        cases rs with
        | cons r1 rr => cases rd <;> exact (show False from hp).elim
        | nil =>
          cases rd with
          | ref q =>
            rename_i k p
            obtain ⟨o, ho, ro⟩ := hR.atA q
            dsimp only at hp
            rw [ho] at hp
            cases o with
            | lst ys =>
              obtain ⟨vs, h1, h2⟩ := ro
              dsimp only at hp
              refine ⟨p, vs, rfl, rfl, h1, ?_⟩
              have le : HLe H (upd H p (.lst [])) := HLe.upd h1 (fun z => z)
              exact hp mp _ .non (List.prefix_refl _) le (hR.set q h1 (fun z => z) ⟨_, upd_same, .nil⟩) .non
            | _ => exact hp.elim
          | _ => exact (show False from hp).elim
      · split at h
        · rename_i e
          subst e
          cases h
          refine ⟨"list.pop", PySem.F.plainAttrs_list, PySem.F.slot_list_pop, PySem.F.type_list_pop, fun pins s σ H x xs v us Q mp S d ds I r1 r2 hR rd rs hp => ?_⟩
          cases rd with
          | ref q =>
            rename_i k p
            obtain ⟨o, ho, ro⟩ := hR.atA q
            dsimp only at hp
            rw [ho] at hp
            cases o with
            | lst ys =>
              obtain ⟨vs, h1, h2⟩ := ro
              dsimp only at hp
              cases rs with
              | nil =>
                cases hy : ys[ys.length - 1]? with
                | none => simp only [popD, hy, Option.map_none] at hp; exact hp.elim
                | some y =>
                  simp only [popD, hy, Option.map_some] at hp
                  obtain ⟨w, w1, w2⟩ := h2.get hy
                  have le : HLe H (upd H p (.lst vs.dropLast)) := HLe.upd h1 (fun z => z)
                  have tk : Reps C mp H ys.dropLast vs.dropLast := by
                    rw [List.dropLast_eq_take, List.dropLast_eq_take, ← h2.length]
                    exact h2.take _
                  refine mt_pop pins s σ H _ _ v us Q I r1 r2 ⟨p, vs, w, rfl, rfl, h1, by rw [← h2.length]; exact w1, ?_⟩
                  exact hp mp _ w (List.prefix_refl _) le (hR.set q h1 (fun z => z) ⟨_, upd_same, tk.mono (List.prefix_refl _) le⟩) (w2.mono (List.prefix_refl _) le)
              | cons ra rr =>
                cases rr with
                | cons _ _ =>
                  cases ra <;> exact (show False from hp).elim
                | nil =>
                  cases ra with
                  | int i =>
                    simp only [popD] at hp
                    by_cases hi : (0 ≤ i ∧ i < (ys.length : Int)) ∧ ys.length ≤ 16777216
                    · rw [if_pos hi] at hp
                      cases hy : ys[i.toNat]? with
                      | none => simp only [hy, Option.map_none] at hp; exact hp.elim
                      | some y =>
                        simp only [hy, Option.map_some] at hp
                        obtain ⟨w, w1, w2⟩ := h2.get hy
                        have le : HLe H (upd H p (.lst (vs.eraseIdx i.toNat))) := HLe.upd h1 (fun z => z)
                        obtain ⟨⟨i0, i1⟩, i2⟩ := hi
                        have b63 : (2 : Int) ^ 63 = 9223372036854775808 := by decide
                        have sx : seqIndex? i vs.length = some i.toNat := by
                          unfold seqIndex?
                          rw [← h2.length]
                          simp only [if_neg (Int.not_lt.mpr i0)]
                          rw [if_pos (by simp [i0, i1])]
                        refine mt_popAt pins s σ H _ _ v us Q I r1 r2 ⟨p, vs, i, i.toNat, w, rfl, rfl, h1, by rw [b63]; omega, by rw [b63]; omega, sx, w1, ?_⟩
                        exact hp mp _ w (List.prefix_refl _) le (hR.set q h1 (fun z => z) ⟨_, upd_same, (h2.eraseIdx i.toNat).mono (List.prefix_refl _) le⟩) (w2.mono (List.prefix_refl _) le)
                    · rw [if_neg hi] at hp; exact hp.elim
                  | _ => exact (show False from hp).elim
            | _ => exact hp.elim
          | _ => exact (show False from hp).elim
        · cases h
theorem strM_ok (hK : X.K = C.K) {m : Str} {g : D → List D → Sto → Rs D} (h : strM m = some g) : BMeth C X W "str" m g := by
  unfold strM at h
  split at h
  · rename_i e
    subst e
    cases h
    refine ⟨"str.join", PySem.F.plainAttrs_str, PySem.F.slot_str_join, PySem.F.type_str_join, mtS_of mt_join fun σ H x xs Q mp S d ds hR rd rs hp => ?_⟩
    cases rs with
    | nil => cases rd <;> exact (show False from hp).elim
    | cons r1 rr =>
      cases rr with
      | cons r2 rr => cases rd <;> exact (show False from hp).elim
      | nil =>
        cases rd with
        | str aa =>
          rename_i dx vx
          dsimp only at hp
          cases q : seqD dx S with
          | none => rw [q] at hp; exact hp.elim
          | some ys =>
            rw [q] at hp
            dsimp only at hp
            cases q1 : strsD ys with
            | none => rw [q1] at hp; exact hp.elim
            | some zs =>
              rw [q1] at hp
              dsimp only at hp
              obtain ⟨p, vs, rfl, hq, ht⟩ := seqD_ok hR r1 q
              have ev := strs_reps ht q1
              subst ev
              by_cases z : (zs.map (·.length)).sum + zs.length * aa.length ≤ 16777216
              · rw [if_pos z] at hp
                exact ⟨aa, p, zs, rfl, rfl, hK ▸ hq, z, hp.done hR (.str _)⟩
              · rw [if_neg z] at hp; exact hp.elim
        | _ => exact (show False from hp).elim
  · cases h
/-- a method of a built-in type, called -/
theorem bm_run {Tn : String} {m : Str} {g : D → List D → Sto → Rs D} {pl : Sem Bool} {es : List Expr} {env : Env} {pins : List (Addr × Obj)} {s : Shared} {σ : L2.St} {H : Hp} {Q : VK} {mp : List Addr} {S : Sto} {d : D} {x : V} {v : Value} {margs : MA}
    (B : BMeth C X W Tn m g) (I : Inv X pins σ H s) (rx : RelV x v) (hR : Rel C mp S H) (hE : EnvR C mp H env σ) (rd : Rep C mp H d x) (ty : tyV X.K Tn x H) (hn : noStar es = true) (ha : SA C X W es margs) (h0 : es = [] → margs = mNil)
    (h : Post C (RD C) mp H σ ((margs env S).bind fun ds S => g d ds S) Q W) :
    wpAny (model X.prog X.w) X.A (getMethod v m pl) (fun fx s₂ => wpAny (model X.prog X.w) X.A (callWith pos fx.1 fx.2 (backTo pos (starEach es X.env)) (backToKw pos (keywordEach [] X.env))) (EP X pins σ Q) X.xe s₂) X.xe s := by
  obtain ⟨id, pa, slot, hty, mt⟩ := B.ok
  obtain ⟨t1, t2⟩ := tyV_is I rx ty
  refine getMethod_builtin t1 pa slot hty t2 ?_
  show wpAny (model X.prog X.w) X.A (callWith pos (.builtin id) [v] (backTo pos (starEach es X.env)) []) (EP X pins σ Q) X.xe s
  cases es with
  | nil =>
    cases h0 rfl
    exact Calls.callWith_builtin rfl (PySem.evalArgs_none (mt pins s σ H x [] v [] Q mp S d [] I rx .nil hR rd .nil h))
  | cons e es =>
    have hA := ha.run pos pins s σ H (fun vs H1 => ∃ mp1 S1 ds, Rel C mp1 S1 H1 ∧ Rep C mp1 H1 d x ∧ Reps C mp1 H1 ds vs ∧ Post C (RD C) mp1 H1 σ (g d ds S1) Q W) I (T.of hR hE h fun ds S1 mp1 H1 vs p1 l1 R1 E1 r1 h1 => ⟨mp1, S1, ds, R1, rd.mono p1 l1, r1, h1⟩)
    rw [starEach_cons hn] at hA ⊢
    refine Calls.callWith_builtin (by show (false || (backTo pos (starEach es X.env)).any (·.1)) = false; rw [noStar_any (noStar_tail hn)] <;> rfl) (Calls.evalArgs_plain ?_)
    exact thn hA fun us s2 ⟨vs, H2, I2, r2, mp2, S2, ds, R2, rd2, rs2, h2⟩ => mt pins s2 σ H2 x vs v us Q mp2 S2 d ds I2 rx r2 R2 rd2 rs2 h2
theorem s_meth {o : Expr} {mo : ME} {m : Str} {apos : Pos} {es : List Expr} {margs : MA} (GCx : GC C X n Γ) (tk : Takes X W) (hK : X.K = C.K) (hm : X.mg = C.mg) (ho : SE C X W o mo) (hn : noStar es = true) (ha : SA C X W es margs) (h0 : es = [] → margs = mNil)
    (hb : attributeBase o m X.env (eval o X.env) = eval o X.env) (hl : (apos.endLine == pos.line) = true) (hf : es.length < 29) : SE C X W (.Call (.Attribute o m apos) es [] pos) (mMeth Γ m mo margs) := by
  refine ⟨fun pins s σ H Q I ⟨mp, env, S, hR, hE, h⟩ => ?_⟩
  refine PySem.W.methodCall_KW (thn (ho.run pins s σ H (fun x H1 => ∃ mp1 S1 d, Rel C mp1 S1 H1 ∧ EnvR C mp1 H1 env σ ∧ Rep C mp1 H1 d x ∧ Post C (RD C) mp1 H1 σ _ Q W) I (T.of hR hE h fun d1 S1 mp1 H1 x p1 l1 R1 E1 r1 h1 => ⟨mp1, S1, d1, R1, E1, r1, h1⟩)) fun v s1 ⟨x, H1, I1, rx, mp1, S1, d, R1, E1, r1, h1⟩ => ?_) (meth_eval hb hl hn hf)
  cases q : preM Γ m d S1 with
  | none => rw [q] at h1; exact h1.elim
  | some t =>
    rw [q] at h1
    dsimp only at h1
    cases q1 : runM Γ m t with
    | none => rw [q1] at h1; exact h1.elim
    | some g =>
      rw [q1] at h1
      dsimp only at h1
      unfold preM at q
      split at q
      · cases q
        cases r1
        exact bm_run (strM_ok hK q1) I1 rx R1 E1 (.str _) rfl hn ha h0 h1
      · rename_i k
        cases r1 with
        | ref q0 =>
          rename_i p
          obtain ⟨oo, hS, ro⟩ := R1.atA q0
          rw [hS] at q
          cases oo with
          | lst xs =>
            cases q
            obtain ⟨vs, k1, _⟩ := ro
            exact bm_run (lstM_ok q1) I1 rx R1 E1 (.ref q0) (.inl ⟨rfl, vs, SqL.of k1⟩) hn ha h0 h1
          | ro xs => cases q
          | dic kvs => cases q
          | ins c fs =>
            obtain ⟨kk, dx, gs, hk, hH, hfs⟩ := ro
            dsimp only at q
            split at q
            · rename_i hz
              cases q
              obtain ⟨g', e1, e2⟩ := Option.map_eq_some_iff.mp q1
              subst e2
              obtain ⟨k', f, hk', cl, mt, F⟩ := GCx.met c m g' e1
              rw [hk] at hk'
              cases hk'
              cases (show v = Value.ref p from rx)
              have hnone : fs.lookup m = none := by simpa using hz
              refine getmeth_ok I1 hH (hK ▸ cl) (hK ▸ mt) (lookup_reps_none hfs hnone) ?_
              show wpAny (model X.prog X.w) X.A (callWith pos (.ref f) [.ref p] (backTo pos (starEach es X.env)) []) (EP X pins σ Q) X.xe s1
              have CS := callS_fn tk hK hm (GCx.room.mono (by omega)) F
              cases es with
              | nil =>
                cases h0 rfl
                exact PySem.W.callWith_K0 (first := [.ref p]) I1.kIn (hK ▸ mt.kp) (CS pins s1 σ H1 [.ref p] [.ref p] Q mp1 S1 [.ref k] I1 (.cons rfl .nil) R1 (.cons (.ref q0) .nil) h1)
              | cons e es =>
                refine PySem.W.callWith_K (first := [.ref p]) (h₀ := X.base) I1.ok.mod.kin (hK ▸ mt.kp) (thn (ha.run pos pins s1 σ H1 (fun vs H2 => ∃ mp2 S2 ds, Rel C mp2 S2 H2 ∧ Rep C mp2 H2 (.ref k) (.ref p) ∧ Reps C mp2 H2 ds vs ∧ Post C (RD C) mp2 H2 σ (g' (.ref k :: ds) S2) Q W) I1 (T.of R1 E1 h1 fun ds S2 mp2 H2 vs p2 l2 R2 E2 r2 h2 => ⟨mp2, S2, ds, R2, .ref (pre_get p2 q0), r2, h2⟩)) fun us s2 ⟨vs, H2, I2, r, mp2, S2, ds, R2, rk, rd, h2⟩ => ⟨I2.kIn, ?_⟩) (starEach_cons hn) (noStar_any (noStar_tail hn))
                exact CS pins s2 σ H2 (.ref p :: vs) (.ref p :: us) Q mp2 S2 (.ref k :: ds) I2 (.cons rfl r) R2 (.cons rk rd) h2
            · cases q
      · cases q
end
end Bt

set_option Elab.async false
set_option linter.all false
set_option maxRecDepth 100000
set_option maxHeartbeats 2000000
namespace Bt
open PySem PySem.Spec PyProof.Rows L2
section
variable {C : Ctx} {X : Cx} {W : WX} {Γ : GEnv} {n : Nat} {a b c : Expr} {pos : Pos} {ma mb mc : ME}
theorem PostS.mono {mp mp' : List Addr} {H H' : Hp} {r : Rs Fl} {Dd : Ends} (p : mp <+: mp') (h : HLe H H') (q : PostS C mp H r Dd W) : PostS C mp' H' r Dd W := by
  cases r with
  | ok f S' =>
    cases f with
    | nx e => exact fun m2 H2 s p2 h2 => q m2 H2 s (p.trans p2) (h.trans h2)
    | bk e => exact fun m2 H2 s p2 h2 => q m2 H2 s (p.trans p2) (h.trans h2)
    | ct e => exact fun m2 H2 s p2 h2 => q m2 H2 s (p.trans p2) (h.trans h2)
    | rt e => exact fun m2 H2 s p2 h2 => q m2 H2 s (p.trans p2) (h.trans h2)
    | xc x e => exact fun m2 H2 s c d p2 h2 => q m2 H2 s c d (p.trans p2) (h.trans h2)
  | exc x S' => exact q
  | fail => exact q
/-- an expression within a statement -/
def seqE {α : Type} (r : Rs α) (env : Env) (f : α → Sto → Rs Fl) : Rs Fl := match r with
  | .ok a S => f a S
  | .exc x S => .ok (.xc x env) S
  | .fail => .fail
def TZ (C : Ctx) (W : WX) (m : MS) : TS := fun Dd σ H => ∃ mp env S, Rel C mp S H ∧ EnvR C mp H env σ ∧ PostS C mp H (m env S) Dd W
abbrev SS (C : Ctx) (X : Cx) (W : WX) (st : Stmt) (m : MS) : Prop := PS X st (TZ C W m)
abbrev SSs (C : Ctx) (X : Cx) (W : WX) (st : List Stmt) (m : MS) : Prop := PSs X st (TZ C W m)
theorem T.ofS {α β : Type} {R : RelT α β} {mp : List Addr} {S : Sto} {H : Hp} {env : Env} {σ : L2.St} {m : Env → Sto → Rs α} {f : α → Sto → Rs Fl} {Dd : Ends} {P : β → Hp → Prop} (hR : Rel C mp S H) (hE : EnvR C mp H env σ) (h : PostS C mp H (seqE (m env S) env f) Dd W)
    (hk : ∀ d S1 mp1 H1 x, mp <+: mp1 → HLe H H1 → Rel C mp1 S1 H1 → EnvR C mp1 H1 env σ → R mp1 H1 d x → PostS C mp1 H1 (f d S1) Dd W → P x H1) : T C W R m σ H P := by
  refine ⟨mp, env, S, hR, hE, ?_⟩
  cases e : m env S with
  | ok d S1 =>
    rw [e] at h
    exact fun mp1 H1 x p1 h1 R1 r => hk d S1 mp1 H1 x p1 h1 R1 (hE.mono p1 h1) r (PostS.mono p1 h1 h)
  | exc x S1 =>
    rw [e] at h
    exact fun mp1 H1 cls dd p1 h1 R1 r => h mp1 H1 σ cls dd p1 h1 R1 (hE.mono p1 h1) r
  | fail =>
    rw [e] at h
    exact h
theorem PostS.nx {mp : List Addr} {H : Hp} {env : Env} {S : Sto} {Dd : Ends} {σ : L2.St} (h : PostS C mp H (.ok (.nx env) S) Dd W) (hR : Rel C mp S H) (hE : EnvR C mp H env σ) : Dd.nx σ H := h mp H σ (List.prefix_refl _) (HLe.refl _) hR hE

/-! ### blocks -/
def sNil : MS := fun env S => .ok (.nx env) S
def sSeq (a b : MS) : MS := fun env S => match a env S with
  | .ok (.nx e) S' => b e S'
  | r => r
theorem z_nil : SSs C X W [] sNil := pss_nil.imp fun Dd σ H ⟨mp, env, S, hR, hE, h⟩ => h.nx hR hE
theorem PostS.seq {mp : List Addr} {H : Hp} {r : Rs Fl} {f : Env → Sto → Rs Fl} {Dd : Ends} (h : PostS C mp H (match r with | .ok (.nx e) S' => f e S' | r => r) Dd W) : PostS C mp H r { Dd with nx := TZ C W f Dd } W := by
  cases r with
  | ok fl S' =>
    cases fl with
    | nx e => exact fun m2 H2 s p2 h2 R2 E2 => ⟨m2, e, S', R2, E2, PostS.mono p2 h2 h⟩
    | _ => exact h
  | exc x S' => exact h
  | fail => exact h
theorem z_cons {st : Stmt} {rest : List Stmt} {m m' : MS} (h1 : SS C X W st m) (h2 : SSs C X W rest m') : SSs C X W (st :: rest) (sSeq m m') :=
  (pss_cons h1 h2).imp fun Dd σ H ⟨mp, env, S, hR, hE, h⟩ => ⟨mp, env, S, hR, hE, PostS.seq h⟩
/-! ### small statements -/
def sExpr (m : ME) : MS := fun env S => seqE (m env S) env fun _ S => .ok (.nx env) S
def sRet (m : ME) : MS := fun env S => seqE (m env S) env fun d S => .ok (.rt d) S
def sRetN : MS := fun _ S => .ok (.rt .non) S
def sIf (t : MT) (a b : MS) : MS := fun env S => seqE (t env S) env fun k S => if k then a env S else b env S
def sBrk : MS := fun env S => .ok (.bk env) S
def sCnt : MS := fun env S => .ok (.ct env) S
theorem z_pass : SS C X W (.Pass pos) sNil := ps_pass.imp fun Dd σ H ⟨mp, env, S, hR, hE, h⟩ => h.nx hR hE
theorem z_break : SS C X W (.Break pos) sBrk := ps_break.imp fun Dd σ H ⟨mp, env, S, hR, hE, h⟩ => h mp H σ (List.prefix_refl _) (HLe.refl _) hR hE
theorem z_continue : SS C X W (.Continue pos) sCnt := ps_continue.imp fun Dd σ H ⟨mp, env, S, hR, hE, h⟩ => h mp H σ (List.prefix_refl _) (HLe.refl _) hR hE
theorem z_expr (ha : SE C X W a ma) (hs : swapsWith a none pos.line X.env = pure false) : SS C X W (.Expr a pos) (sExpr ma) :=
  (ps_expr ha hs).imp fun Dd σ H ⟨mp, env, S, hR, hE, h⟩ => T.ofS hR hE h fun d S1 mp1 H1 x p1 l1 R1 E1 r1 h1 => h1.nx R1 E1
theorem z_ret (ha : SE C X W a ma) : SS C X W (.Return (some a) pos) (sRet ma) :=
  (ps_ret ha).imp fun Dd σ H ⟨mp, env, S, hR, hE, h⟩ => T.ofS hR hE h fun d S1 mp1 H1 x p1 l1 R1 E1 r1 h1 => h1 mp1 H1 x (List.prefix_refl _) (HLe.refl _) R1 r1
theorem z_retN : SS C X W (.Return none pos) sRetN := ps_retN.imp fun Dd σ H ⟨mp, env, S, hR, hE, h⟩ => h mp H .non (List.prefix_refl _) (HLe.refl _) hR .non
theorem z_if {m : MT} {s1 s2 : List Stmt} {m1 m2 : MS} (hc : ST C X W c m) (h1 : SSs C X W s1 m1) (h2 : SSs C X W s2 m2) : SS C X W (.If c s1 s2 pos) (sIf m m1 m2) :=
  (ps_if hc h1 h2).imp fun Dd σ H ⟨mp, env, S, hR, hE, h⟩ => T.ofS hR hE h fun d S1 mp1 H1 x p1 l1 R1 E1 r1 h1 => by
    cases r1
    cases d with
    | true => exact ⟨mp1, env, S1, R1, E1, h1⟩
    | false => exact ⟨mp1, env, S1, R1, E1, h1⟩

/-! ### targets -/
abbrev MG := D → MS
def TG' (C : Ctx) (W : WX) (g : MG) : TG := fun v σ H Q => ∃ mp env S d, Rel C mp S H ∧ EnvR C mp H env σ ∧ Rep C mp H d v ∧ PostS C mp H (g d env S) { nx := Q, rt := fun _ _ => False } W
abbrev SG (C : Ctx) (X : Cx) (W : WX) (tg : Expr) (g : MG) : Prop := PG X tg (TG' C W g)
theorem _root_.L2.PG.imp {X : Cx} {e : Expr} {t u : TG} (h : PG X e t) (q : ∀ v σ H Q, u v σ H Q → t v σ H Q) : PG X e u := ⟨fun pins s σ H v w Q I r z => h.run pins s σ H v w Q I r (q v σ H Q z)⟩
theorem _root_.L2.PGs.imp {X : Cx} {e : List Expr} {t u : TGs} (h : PGs X e t) (q : ∀ v σ H Q, u v σ H Q → t v σ H Q) : PGs X e u := ⟨fun pins s σ H v w Q I r z => h.run pins s σ H v w Q I r (q v σ H Q z)⟩
def gNam (i : Nat) : MG := fun d env S => .ok (.nx (env.set i (some d))) S
theorem g_name {i : Nat} {x : Str} (hN : X.N.Nodup) (hi : X.N[i]? = some x) (hx : Loc X.env.scope x) (hf : X.fn x = true ∨ X.env.scope.names.lookup x = some .local) : SG C X W (.Name x pos) (gNam i) :=
  (pg_name hN hi hx hf).imp fun v σ H Q ⟨mp, env, S, d, hR, hE, rd, h⟩ => h mp H _ (List.prefix_refl _) (HLe.refl _) hR (hE.set rd)
/-- several targets -/
abbrev MGs := List D → MS
def gNil' : MGs := fun ds env S => match ds with
  | [] => .ok (.nx env) S
  | _ => .fail
def gCons' (g : MG) (r : MGs) : MGs := fun ds env S => match ds with
  | d :: ds => sSeq (g d) (r ds) env S
  | _ => .fail
def TGs' (C : Ctx) (W : WX) (g : MGs) : TGs := fun vs σ H Q => ∃ mp env S ds, Rel C mp S H ∧ EnvR C mp H env σ ∧ Reps C mp H ds vs ∧ PostS C mp H (g ds env S) { nx := Q, rt := fun _ _ => False } W
theorem gs_nil : PGs X [] (TGs' C W gNil') := pgs_nil.imp fun vs σ H Q ⟨mp, env, S, ds, hR, hE, rs, h⟩ => by
  cases rs with
  | nil => exact ⟨rfl, h.nx hR hE⟩
  | cons r rr => exact (show False from h).elim
theorem gs_cons {e : Expr} {es : List Expr} {g : MG} {r : MGs} (h1 : SG C X W e g) (h2 : PGs X es (TGs' C W r)) (hs : (assignEach (e :: es) X.env).map (·.2) = assign e X.env :: (assignEach es X.env).map (·.2)) : PGs X (e :: es) (TGs' C W (gCons' g r)) :=
  (pgs_cons h1 h2 hs).imp fun vs σ H Q ⟨mp, env, S, ds, hR, hE, rs, h⟩ => by
    cases rs with
    | nil => exact (show False from h).elim
    | @cons d v ds vs rd rr =>
      refine ⟨v, vs, rfl, mp, env, S, d, hR, hE, rd, ?_⟩
      have h' : PostS C mp H (match g d env S with | .ok (.nx e) S' => r ds e S' | r => r) { nx := Q, rt := fun _ _ => False } W := h
      have key := PostS.seq (f := r ds) h'
      cases q : g d env S with
      | ok fl S' =>
        rw [q] at key
        cases fl with
        | nx e =>
          intro m2 H2 s2 p2 l2 R2 E2
          obtain ⟨m3, e3, S3, R3, E3, h3⟩ := key m2 H2 s2 p2 l2 R2 E2
          exact ⟨m2, e, S', ds, R2, E2, rr.mono p2 l2, by rw [q] at h'; exact PostS.mono p2 l2 h'⟩
        | _ => exact key
      | exc x S' => rw [q] at key; exact key
      | fail => rw [q] at key; exact key
def gTup' (k : Nat) (g : MGs) : MG := fun d env S => match d with
  | .tup ds => if ds.length = k then g ds env S else .fail
  | _ => .fail
theorem g_tup {es : List Expr} {j k : Nat} {g : MGs} (hK : X.K = C.K) (hc : X.calm = true) (h : PGs X es (TGs' C W g)) (hn : (assignEach es X.env).length = k) (hst : (assignEach es X.env).findIdx? (·.1) = none) : SG C X W (.Tuple es j pos) (gTup' k g) :=
  (pg_tup hc h hn hst).imp fun v σ H Q ⟨mp, env, S, d, hR, hE, rd, h⟩ => by
    cases rd with
    | @tup ds vs p q t =>
      have h' : PostS C mp H (if ds.length = k then g ds env S else .fail) { nx := Q, rt := fun _ _ => False } W := h
      by_cases z : ds.length = k
      · rw [if_pos z] at h'
        exact ⟨p, vs, rfl, hK ▸ q.sq, by rw [← t.length]; exact z, mp, env, S, ds, hR, hE, t, h'⟩
      · rw [if_neg z] at h'; exact h'.elim
    | _ => exact (show False from h).elim
/-- o[i] = v, by values -/
def setD (o i v : D) (S : Sto) : Option Sto := match o with
  | .ref n => match S[n]? with
    | some (.lst xs) => match i with
      | .int k => match ixN xs.length k with
        | some j => some (S.set n (.lst (xs.set j v)))
        | none => none
      | _ => none
    | _ => none
  | _ => none
def gSub' (mo mi : ME) : MG := fun d env S => seqE (mo env S) env fun o S => seqE (mi env S) env fun i S => match setD o i d S with
  | some S' => .ok (.nx env) S'
  | none => .fail
theorem g_sub {o i : Expr} {mo mi : ME} (ho : SE C X W o mo) (hi : SE C X W i mi)
    (ha : ∀ v, assign (.Subscript o i pos) X.env v = (do
      let ov ← holding [v] (eval o X.env)
      let iv ← holding [v, ov] (eval i X.env)
      standAt pos
      holding [v, ov, iv] (setItem ov iv v)
      release [v, ov, iv] [])) : SG C X W (.Subscript o i pos) (gSub' mo mi) :=
  (pg_sub ho hi set_list ha).imp fun v σ H Q ⟨mp, env, S, d, hR, hE, rd, h⟩ => by
    refine T.ofS hR hE h fun d1 S1 mp1 H1 x p1 l1 R1 E1 r1 h1 => T.ofS R1 E1 h1 fun d2 S2 mp2 H2 y p2 l2 R2 E2 r2 h2 => ?_
    have r1' := r1.mono p2 l2
    cases q : setD d1 d2 d S2 with
    | none => rw [q] at h2; exact h2.elim
    | some S3 =>
      rw [q] at h2
      unfold setD at q
      split at q
      · rename_i m
        cases r1' with
        | ref q0 =>
          rename_i p
          obtain ⟨oo, hS, ro⟩ := R2.atA q0
          rw [hS] at q
          cases oo with
          | lst xs =>
            obtain ⟨vs, k1, k2⟩ := ro
            dsimp only at q
            split at q
            · rename_i k
              cases r2
              split at q
              · rename_i j hj
                cases q
                refine ⟨p, vs, k, j, rfl, rfl, k1, by rw [← k2.length]; exact hj, ?_⟩
                have le : HLe H2 (upd H2 p (.lst (vs.set j v))) := HLe.upd k1 (fun z => z)
                exact h2 mp2 _ σ (List.prefix_refl _) le (R2.set q0 k1 (fun z => z) ⟨_, upd_same, (k2.set (rd.mono (p1.trans p2) (l1.trans l2)) j).mono (List.prefix_refl _) le⟩) (E2.mono (List.prefix_refl _) le)
              · cases q
            · cases q
          | _ => cases q
      · cases q
/-- target = value -/
def sAsg (m : ME) (g : MG) : MS := fun env S => seqE (m env S) env fun d S => g d env S
/-- a target's meaning goes on or raises -/
def Goes (r : Rs Fl) : Prop := match r with
  | .ok (.nx _) _ => True
  | .ok (.xc _ _) _ => True
  | .fail => True
  | _ => False
theorem PostS.goes {mp : List Addr} {H : Hp} {r : Rs Fl} {Dd : Ends} (g : Goes r) (h : PostS C mp H r Dd W) : PostS C mp H r { nx := Dd.nx, rt := fun _ _ => False } W := by
  cases r with
  | ok fl S => cases fl <;> first | exact h | exact g.elim
  | exc x S => exact h
  | fail => exact h
theorem z_asg {tg : Expr} {g : MG} (ha : SE C X W a ma) (hg : SG C X W tg g) (gg : ∀ d env S, Goes (g d env S)) (hs : swapsWithSole [tg] a pos.line X.env = pure false) (hw : swappedStores [tg] a X.env = pure none)
    (h1 : (assignEach [tg] X.env).map (·.2) = [assign tg X.env]) : SS C X W (.Assign [tg] a pos) (sAsg ma g) :=
  (ps_asg ha hg hs hw h1).imp fun Dd σ H ⟨mp, env, S, hR, hE, h⟩ => T.ofS hR hE h fun d S1 mp1 H1 x p1 l1 R1 E1 r1 h1 => ⟨mp1, env, S1, d, R1, E1, r1, h1.goes (gg d env S1)⟩
theorem z_set {i : Nat} {x : Str} {px : Pos} (hN : X.N.Nodup) (hi : X.N[i]? = some x) (hx : Loc X.env.scope x) (hf : X.fn x = true ∨ X.env.scope.names.lookup x = some .local) (ha : SE C X W a ma) (hs : swapsWith a (some (.Name x px)) pos.line X.env = pure false) :
    SS C X W (.Assign [.Name x px] a pos) (sAsg ma (gNam i)) :=
  (ps_set hN hi hx ha hs hf).imp fun Dd σ H ⟨mp, env, S, hR, hE, h⟩ => T.ofS hR hE h fun d S1 mp1 H1 x p1 l1 R1 E1 r1 h1 => h1 mp1 H1 _ (List.prefix_refl _) (HLe.refl _) R1 (E1.set r1)
/-- o.f = value -/
def putFD (f : Str) (v : D) : List (Str × D) → List (Str × D)
  | [] => [(f, v)]
  | (g, w) :: r => if g = f then (g, v) :: r else (g, w) :: putFD f v r
def sFldD (Γ : GEnv) (f : Str) (m o : ME) : MS := fun env S => seqE (m env S) env fun d S => seqE (o env S) env fun x S => match x with
  | .ref n => match S[n]? with
    | some (.ins c fs) => if Γ.cls c && Γ.noa c f && decide (fs.length < 1000) then .ok (.nx env) (S.set n (.ins c (putFD f d fs))) else .fail
    | _ => .fail
  | _ => .fail
theorem putF_reps {mp : List Addr} {H : Hp} {f : Str} {d : D} {v : V} (rd : Rep C mp H d v) : ∀ {fs : List (Str × D)} {gs : List (Str × V)}, RepFs C mp H fs gs → RepFs C mp H (putFD f d fs) (putF f v gs)
  | [], [], _ => ⟨rfl, .cons rd .nil⟩
  | [], _ :: _, r => by have := r.1; simp at this
  | _ :: _, [], r => by have := r.1; simp at this
  | (k1, d1) :: fs, (k2, v2) :: gs, r => by
    obtain ⟨r1, r2⟩ := r
    simp only [List.map_cons, List.cons.injEq] at r1
    obtain ⟨e1, r1⟩ := r1
    subst e1
    cases r2 with
    | cons rx rr =>
      unfold putFD putF
      by_cases z : k1 = f
      · rw [if_pos z, if_pos z]
        exact ⟨by simp [r1], .cons rd rr⟩
      · rw [if_neg z, if_neg z]
        obtain ⟨h1, h2⟩ := putF_reps rd (fs := fs) (gs := gs) ⟨r1, rr⟩
        exact ⟨by simp [h1], .cons rx h2⟩
theorem z_fld {o : Expr} {mo : ME} {f : Str} {px : Pos} (G : GS C Γ) (hK : X.K = C.K) (ho : SE C X W o mo) (ha : SE C X W a ma) (hs : swapsWith a (some (.Attribute o f px)) pos.line X.env = pure false) : SS C X W (.Assign [.Attribute o f px] a pos) (sFldD Γ f ma mo) :=
  (ps_fld ho ha hs).imp fun Dd σ H ⟨mp, env, S, hR, hE, h⟩ => T.ofS hR hE h fun d S1 mp1 H1 x p1 l1 R1 E1 r1 h1 => T.ofS R1 E1 h1 fun d2 S2 mp2 H2 y p2 l2 R2 E2 r2 h2 => by
    have r1' := r1.mono p2 l2
    cases r2 with
    | @ref m p q0 =>
      obtain ⟨oo, hS, ro⟩ := R2.atA q0
      dsimp only at h2
      rw [hS] at h2
      cases oo with
      | ins c fs =>
        obtain ⟨k, dx, gs, hk, hH, hf⟩ := ro
        dsimp only at h2
        by_cases z : (Γ.cls c && Γ.noa c f && decide (fs.length < 1000)) = true
        · rw [if_pos z] at h2
          obtain ⟨z1, z3⟩ := Bool.and_eq_true_iff.mp z
          obtain ⟨z1, z2⟩ := Bool.and_eq_true_iff.mp z1
          obtain ⟨k1, e1, ok⟩ := G.cls c z1
          obtain ⟨k2, e2, na⟩ := G.noa c f z2
          rw [hk] at e1 e2
          cases e1; cases e2
          have hl : fs.length = gs.length := by have := congrArg List.length hf.1; simpa using this
          refine ⟨p, k, dx, gs, rfl, hH, hK ▸ ok.cl, hK ▸ na, by rw [← hl]; exact of_decide_eq_true z3, ?_⟩
          have le : HLe H2 (upd H2 p (.ins k dx (putF f x gs))) := HLe.upd hH (fun z => z)
          exact h2 mp2 _ σ (List.prefix_refl _) le (R2.set q0 hH (fun z => z) ⟨k, dx, _, hk, upd_same, (putF_reps r1' hf).mono (List.prefix_refl _) le⟩) (E2.mono (List.prefix_refl _) le)
        · rw [if_neg z] at h2; exact h2.elim
      | _ => exact h2.elim
    | _ => exact (show False from h2).elim
end
end Bt

set_option Elab.async false
set_option linter.all false
set_option maxRecDepth 100000
set_option maxHeartbeats 2000000
namespace Bt
open PySem PySem.Spec PyProof.Rows L2
inductive Sq where
  | live (n : Nat) | items (ds : List D)
abbrev MI := Env → Sto → Rs Sq
def listAt (n : Nat) (S : Sto) : Option (List D) := match S[n]? with
  | some (.lst xs) => some xs
  | some (.ro xs) => some xs
  | _ => none
/-- a turn of a loop -/
def turn (g : MG) (body : MS) (d : D) (k : MS) : MS := fun env S => match g d env S with
  | .ok (.nx e1) S1 => (match body e1 S1 with
    | .ok (.nx e) S' => k e S'
    | .ok (.ct e) S' => k e S'
    | .ok (.bk e) S' => .ok (.nx e) S'
    | q => q)
  | q => q
def forL (g : MG) (body : MS) : List D → MS
  | [] => sNil
  | d :: r => turn g body d (forL g body r)
def forR (g : MG) (body : MS) (n : Nat) : Nat → Nat → MS
  | 0, i => fun env S => match listAt n S with
    | some xs => if xs.length ≤ i then .ok (.nx env) S else .fail
    | none => .fail
  | k + 1, i => fun env S => match listAt n S with
    | some xs => match xs[i]? with
      | some d => turn g body d (forR g body n k (i + 1)) env S
      | none => .fail
    | none => .fail
def sFor (m : MI) (g : MG) (body : MS) : MS := fun env S => seqE (m env S) env fun q S => match q with
  | .items ds => forL g body ds env S
  | .live n => match listAt n S with
    | some xs => forR g body n xs.length 0 env S
    | none => .fail
section
variable {C : Ctx} {X : Cx} {W : WX} {Γ : GEnv} {n : Nat} {a b c tg : Expr} {pos : Pos} {ma mb mc : ME}
/-- what an iterator yields at a turn -/
def Yields (C : Ctx) (J : It) (mp : List Addr) (H : Hp) (i : Nat) (d : D) : Prop := J.go i H ∧ ∀ x H', J.yld i H x H' → HLe H H' ∧ (∀ S, Rel C mp S H → Rel C mp S H') ∧ Rep C mp H' d x
def WalksI (C : Ctx) (J : It) (mp : List Addr) (H : Hp) (ds : List D) : Prop := ∀ mp' H', mp <+: mp' → HLe H H' → ∀ i, (∀ d, ds[i]? = some d → Yields C J mp' H' i d) ∧ (ds.length ≤ i → J.stop i H')
def WalksL (C : Ctx) (J : It) (mp : List Addr) (H : Hp) (k : Nat) : Prop := ∀ mp' S' H', mp <+: mp' → HLe H H' → Rel C mp' S' H' → ∀ xs, listAt k S' = some xs → ∀ i, (∀ d, xs[i]? = some d → Yields C J mp' H' i d) ∧ (xs.length ≤ i → J.stop i H')
def TIr (C : Ctx) (W : WX) (m : MI) : TI := fun σ H R => ∃ mp env S, Rel C mp S H ∧ EnvR C mp H env σ ∧ match m env S with
  | .ok (.items ds) S' => ∀ mp' H' J, mp <+: mp' → HLe H H' → Rel C mp' S' H' → WalksI C J mp' H' ds → R J H'
  | .ok (.live k) S' => ∀ mp' H' J, mp <+: mp' → HLe H H' → Rel C mp' S' H' → WalksL C J mp' H' k → R J H'
  | .exc x S' => ∀ mp' H' cls dd, mp <+: mp' → HLe H H' → Rel C mp' S' H' → RepX C mp' H' x cls dd → W cls dd σ H'
  | .fail => False
abbrev SI (C : Ctx) (X : Cx) (W : WX) (tg e : Expr) (m : MI) : Prop := PI X tg e (TIr C W m)
theorem turn_ok {g : MG} {body k : MS} {d : D} {x : V} {mp mp0 : List Addr} {S : Sto} {H H0 : Hp} {env : Env} {σ : L2.St} {Dd : Ends} (gg : ∀ d env S, Goes (g d env S)) (h0 : mp0 <+: mp) (l0 : HLe H0 H) (hR : Rel C mp S H) (hE : EnvR C mp H env σ) (rd : Rep C mp H d x)
    (h : PostS C mp H (turn g body d k env S) Dd W) {N : L2.St → Hp → Prop} (hN : ∀ σ' H' mp' env' S', mp0 <+: mp' → HLe H0 H' → Rel C mp' S' H' → EnvR C mp' H' env' σ' → PostS C mp' H' (k env' S') Dd W → N σ' H') :
    TG' C W g x σ H fun σ2 H2 => TZ C W body { Dd with nx := N, ct := N, bk := Dd.nx } σ2 H2 := by
  refine ⟨mp, env, S, d, hR, hE, rd, ?_⟩
  unfold turn at h
  have gq := gg d env S
  cases q : g d env S with
  | fail => rw [q] at h; exact h
  | exc x S' => rw [q] at h; exact h
  | ok fl S1 =>
    rw [q] at h gq
    cases fl with
    | xc x e => exact h
    | rt d => exact gq.elim
    | bk e => exact gq.elim
    | ct e => exact gq.elim
    | nx e1 =>
      intro mp1 H1 σ1 p1 l1 R1 E1
      refine ⟨mp1, e1, S1, R1, E1, ?_⟩
      have h' := PostS.mono p1 l1 h
      dsimp only at h'
      cases q2 : body e1 S1 with
      | fail => rw [q2] at h'; exact h'
      | exc x S' => rw [q2] at h'; exact h'
      | ok fl2 S2 =>
        rw [q2] at h'
        cases fl2 with
        | nx e => exact fun mp2 H2 σ2 p2 l2 R2 E2 => hN σ2 H2 mp2 e S2 (h0.trans (p1.trans p2)) (l0.trans (l1.trans l2)) R2 E2 (PostS.mono p2 l2 h')
        | ct e => exact fun mp2 H2 σ2 p2 l2 R2 E2 => hN σ2 H2 mp2 e S2 (h0.trans (p1.trans p2)) (l0.trans (l1.trans l2)) R2 E2 (PostS.mono p2 l2 h')
        | bk e => exact h'
        | rt d => exact h'
        | xc x e => exact h'
theorem z_for {m : MI} {g : MG} {body : List Stmt} {mb : MS} (hp : PassesOwn (model X.prog X.w) X.A X.env X.xe) (hc : X.calm = true) (hi : SI C X W tg a m) (hg : SG C X W tg g) (gg : ∀ d env S, Goes (g d env S)) (hb : SSs C X W body mb)
    (hs : ∀ x, foldedSetIterable a X.env x = pure x) : SS C X W (.For tg a body [] pos) (sFor m g mb) := by
  refine (ps_for hp hc hi hg hb hs).imp fun Dd σ H ⟨mp, env, S, hR, hE, h⟩ => ?_
  refine ⟨mp, env, S, hR, hE, ?_⟩
  unfold sFor at h
  cases q : m env S with
  | fail => rw [q] at h; exact h
  | exc x S' =>
    rw [q] at h
    exact fun mp1 H1 cls dd p1 l1 R1 r => h mp1 H1 σ cls dd p1 l1 R1 (hE.mono p1 l1) r
  | ok sq S1 =>
    rw [q] at h
    cases sq with
    | items ds =>
      intro mp1 H1 J p1 l1 R1 w
      have h1 : PostS C mp1 H1 (forL g mb ds env S1) Dd W := PostS.mono p1 l1 h
      refine ⟨fun i m σ H => m = ds.length - i ∧ i ≤ ds.length ∧ ∃ mp2 env2 S2, mp1 <+: mp2 ∧ HLe H1 H ∧ Rel C mp2 S2 H ∧ EnvR C mp2 H env2 σ ∧ PostS C mp2 H (forL g mb (ds.drop i) env2 S2) Dd W,
        ⟨ds.length, by simp, Nat.zero_le _, mp1, env, S1, List.prefix_refl _, HLe.refl _, R1, hE.mono p1 l1, by simpa using h1⟩, ?_⟩
      rintro i m σ2 H2 ⟨rfl, hi, mp2, env2, S2, p2, l2, R2, E2, h2⟩
      obtain ⟨w1, w2⟩ := w mp2 H2 p2 l2 i
      by_cases hlt : i < ds.length
      · rw [List.drop_eq_getElem_cons hlt] at h2
        obtain ⟨go, yl⟩ := w1 ds[i] (by simp [hlt])
        refine .inr ⟨go, fun σ' H' => ∃ mp' env' S', mp1 <+: mp' ∧ HLe H1 H' ∧ Rel C mp' S' H' ∧ EnvR C mp' H' env' σ' ∧ PostS C mp' H' (forL g mb (ds.drop (i + 1)) env' S') Dd W, fun σ' H' ⟨mp', env', S', q1, q2, q3, q4, q5⟩ => ⟨ds.length - (i + 1), by omega, rfl, hlt, mp', env', S', q1, q2, q3, q4, q5⟩, fun x H3 y => ?_⟩
        obtain ⟨y1, y2, y3⟩ := yl x H3 y
        exact turn_ok gg p2 (l2.trans y1) (y2 S2 R2) (E2.mono (List.prefix_refl _) y1) y3 (PostS.mono (List.prefix_refl _) y1 h2) fun σ' H' mp' env' S' q1 q2 q3 q4 q5 => ⟨mp', env', S', q1, q2, q3, q4, q5⟩
      · have e : i = ds.length := by omega
        subst e
        rw [List.drop_length] at h2
        exact .inl ⟨w2 (Nat.le_refl _), h2.nx R2 E2⟩
    | live k =>
      have h' : PostS C mp H (match listAt k S1 with
        | some xs => forR g mb k xs.length 0 env S1
        | none => .fail) Dd W := h
      cases q1 : listAt k S1 with
      | none => rw [q1] at h'; exact h'.elim
      | some xs =>
        rw [q1] at h'
        intro mp1 H1 J p1 l1 R1 w
        have h1 := PostS.mono p1 l1 h'
        refine ⟨fun i m σ H => ∃ mp2 env2 S2, mp1 <+: mp2 ∧ HLe H1 H ∧ Rel C mp2 S2 H ∧ EnvR C mp2 H env2 σ ∧ PostS C mp2 H (forR g mb k m i env2 S2) Dd W, ⟨xs.length, mp1, env, S1, List.prefix_refl _, HLe.refl _, R1, hE.mono p1 l1, h1⟩, ?_⟩
        rintro i m σ2 H2 ⟨mp2, env2, S2, p2, l2, R2, E2, h2⟩
        cases m with
        | zero =>
          unfold forR at h2
          cases q2 : listAt k S2 with
          | none => rw [q2] at h2; exact h2.elim
          | some ys =>
            rw [q2] at h2
            dsimp only at h2
            by_cases z : ys.length ≤ i
            · rw [if_pos z] at h2
              exact .inl ⟨(w mp2 S2 H2 p2 l2 R2 ys q2 i).2 z, h2.nx R2 E2⟩
            · rw [if_neg z] at h2; exact h2.elim
        | succ m =>
          unfold forR at h2
          cases q2 : listAt k S2 with
          | none => rw [q2] at h2; exact h2.elim
          | some ys =>
            rw [q2] at h2
            dsimp only at h2
            cases q3 : ys[i]? with
            | none => rw [q3] at h2; exact h2.elim
            | some d =>
              rw [q3] at h2
              dsimp only at h2
              obtain ⟨go, yl⟩ := (w mp2 S2 H2 p2 l2 R2 ys q2 i).1 d q3
              refine .inr ⟨go, fun σ' H' => ∃ mp' env' S', mp1 <+: mp' ∧ HLe H1 H' ∧ Rel C mp' S' H' ∧ EnvR C mp' H' env' σ' ∧ PostS C mp' H' (forR g mb k m (i + 1) env' S') Dd W, fun σ' H' hN => ⟨m, Nat.lt_succ_self m, hN⟩, fun x H3 y => ?_⟩
              obtain ⟨y1, y2, y3⟩ := yl x H3 y
              exact turn_ok gg p2 (l2.trans y1) (y2 S2 R2) (E2.mono (List.prefix_refl _) y1) y3 (PostS.mono (List.prefix_refl _) y1 h2) fun σ' H' mp' env' S' q1 q2 q3 q4 q5 => ⟨mp', env', S', q1, q2, q3, q4, q5⟩
end
end Bt

set_option Elab.async false
set_option linter.all false
set_option maxRecDepth 100000
set_option maxHeartbeats 2000000
namespace Bt
open PySem PySem.Spec PyProof.Rows L2
/-- the signs of a text -/
def signsD (z : Str) : List D := z.cps.toList.map fun c => .str ⟨#[c]⟩
def iterD (d : D) (S : Sto) : Rs Sq := match d with
  | .tup ds => .ok (.items ds) S
  | .str z => .ok (.items (signsD z)) S
  | .ref n => match listAt n S with
    | some _ => .ok (.live n) S
    | none => .fail
  | _ => .fail
def mIter (m : ME) : MI := fun env S => (m env S).bind fun d S => iterD d S
def rangeD (lo : Int) (k : Nat) : List D := (List.range k).map fun i => .int (lo + (i : Nat))
def mRange1 (m : ME) : MI := fun env S => (m env S).bind fun d S => match d with
  | .int j => if -(2 ^ 62) ≤ j ∧ j < 2 ^ 62 then .ok (.items (rangeD 0 j.toNat)) S else .fail
  | _ => .fail
def mRange2 (m m' : ME) : MI := fun env S => (m env S).bind fun d S => (m' env S).bind fun e S => match d, e with
  | .int i, .int j => if -(2 ^ 62) ≤ i ∧ i < 2 ^ 62 ∧ -(2 ^ 62) ≤ j ∧ j < 2 ^ 62 then .ok (.items (rangeD i (j - i).toNat)) S else .fail
  | _, _ => .fail
section
variable {C : Ctx} {X : Cx} {W : WX} {Γ : GEnv} {n : Nat} {a b c tg : Expr} {pos : Pos} {ma mb mc : ME}
theorem walks_list {mp : List Addr} {S : Sto} {H : Hp} {k : Nat} {p : Addr} (hR : Rel C mp S H) (hk : mp[k]? = some p) : WalksL C (Itl C.K p) mp H k := by
  intro mp' S' H' pm lh R' xs hx i
  have hk' := pre_get pm hk
  have key : ∃ vs, SqL C.K H' p vs ∧ Reps C mp' H' xs vs := by
    obtain ⟨o, ho, ro⟩ := R'.atA hk'
    unfold listAt at hx
    rw [ho] at hx
    cases o with
    | lst ys => obtain ⟨vs, h1, h2⟩ := ro; cases hx; exact ⟨vs, .of h1, h2⟩
    | ro ys => obtain ⟨oo, vs, h1, h2⟩ := ro; cases hx; exact ⟨vs, .inl (.inr ⟨oo, h1⟩), h2⟩
    | dic _ => cases hx
    | ins _ _ => cases hx
  obtain ⟨vs, hq, hr⟩ := key
  refine ⟨fun d hd => ?_, fun hl => ⟨vs, hq, by rw [← hr.length]; exact hl⟩⟩
  obtain ⟨v, hv, rv⟩ := hr.get hd
  refine ⟨⟨vs, v, hq, hv⟩, fun x H'' ⟨e, y⟩ => ?_⟩
  subst e
  have := y vs hq
  rw [hv] at this
  cases this
  exact ⟨HLe.refl _, fun _ r => r, rv⟩
theorem walks_tup {mp : List Addr} {H : Hp} {ds : List D} {vs : List V} {p : Addr} (q : TupAt C.K H p vs) (t : Reps C mp H ds vs) : WalksI C (Itt C.K p) mp H ds := by
  intro mp' H' pm lh i
  have q' := tupAt_mono lh q
  refine ⟨fun d hd => ?_, fun hl => ⟨vs, q'.sq, by rw [← t.length]; exact hl⟩⟩
  obtain ⟨v, hv, rv⟩ := (t.mono pm lh).get hd
  refine ⟨⟨vs, v, q'.sq, hv⟩, fun x H'' ⟨e, y⟩ => ?_⟩
  subst e
  have := y vs q'.sq
  rw [hv] at this
  cases this
  exact ⟨HLe.refl _, fun _ r => r, rv⟩
theorem walks_range {mp : List Addr} {H : Hp} (lo : Int) (k : Nat) : WalksI C (Itr lo k) mp H (rangeD lo k) := by
  intro mp' H' pm lh i
  have hl : (rangeD lo k).length = k := by simp [rangeD]
  refine ⟨fun d hd => ?_, fun h => by rw [hl] at h; exact h⟩
  have hik : i < k := by
    have := (List.getElem?_eq_some_iff.mp hd).1
    rw [hl] at this; exact this
  have ed : d = .int (lo + (i : Nat)) := by
    unfold rangeD at hd
    rw [List.getElem?_map, List.getElem?_range hik] at hd
    exact (Option.some.inj hd).symm
  subst ed
  refine ⟨hik, fun x H'' ⟨e, y⟩ => ?_⟩
  subst e
  subst y
  exact ⟨HLe.refl _, fun _ r => r, .int _⟩
theorem walks_str {mp : List Addr} {H : Hp} (z : Str) : WalksI C (Its z) mp H (signsD z) := by
  intro mp' H' pm lh i
  have hl : (signsD z).length = z.cps.size := by simp [signsD]
  refine ⟨fun d hd => ?_, fun h => by rw [hl] at h; exact h⟩
  have hik : i < z.cps.size := by
    have := (List.getElem?_eq_some_iff.mp hd).1
    rw [hl] at this; exact this
  refine ⟨hik, fun x H'' ⟨e, cc, hc, ex⟩ => ?_⟩
  subst e
  subst ex
  unfold signsD at hd
  rw [List.getElem?_map] at hd
  have e1 : z.cps.toList[i]? = some cc := by simpa using hc
  rw [e1] at hd
  cases hd
  exact ⟨HLe.refl _, fun _ r => r, .str _⟩
/-- an iterator has come, by the value -/
theorem pie_list {pins : List (Addr × Obj)} {σ : L2.St} {H : Hp} {s : Shared} {p : Addr} {R : It → Hp → Prop} {vs : List V} (I : Inv X pins σ H s) (hq : SqL X.K H p vs) (q : R (Itl X.K p) H) : wpAny (model X.prog X.w) X.A (pyIter (.ref p)) (PIE X pins σ tg R) X.xe s := by
  obtain ⟨its, rv, pl, hz⟩ := I.list hq
  refine wpAny_pyIter_list pl.isList ⟨s.heap.objs.size, [s.heap.objs.size], _, _, H, rfl, I.kept (t' := s.toks) fun b o e => Heap.get?_push_of_some _ e, turn_list p _, ⟨_, Heap.get?_push_size _ rfl, rfl, rfl⟩, fun b hb => ?_, q⟩
  cases List.mem_singleton.mp hb
  exact I.fpOk (Nat.le_refl _) (I.hok.fresh (Nat.le_refl _))
theorem pie_tup {pins : List (Addr × Obj)} {σ : L2.St} {H : Hp} {s : Shared} {p : Addr} {R : It → Hp → Prop} {vs : List V} (I : Inv X pins σ H s) (hq : SqT X.K H p vs) (q : R (Itt X.K p) H) : wpAny (model X.prog X.w) X.A (pyIter (.ref p)) (PIE X pins σ tg R) X.xe s := by
  obtain ⟨its, rv, pl, hz⟩ := I.tuple hq
  refine wpAny_pyIter_tuple (show s.heap.IsTuple p its.toArray from pl) ⟨s.heap.objs.size, [s.heap.objs.size], _, _, H, rfl, I.kept (t' := s.toks) fun b o e => Heap.get?_push_of_some _ e, turn_tuple p _, ⟨_, Heap.get?_push_size _ rfl, rfl, rfl⟩, fun b hb => ?_, q⟩
  cases List.mem_singleton.mp hb
  exact I.fpOk (Nat.le_refl _) (I.hok.fresh (Nat.le_refl _))
theorem pie_str {pins : List (Addr × Obj)} {σ : L2.St} {H : Hp} {s : Shared} {x : Str} {t : Tok} {R : It → Hp → Prop} (I : Inv X pins σ H s) (q : R (Its x) H) : wpAny (model X.prog X.w) X.A (pyIter (.str x t)) (PIE X pins σ tg R) X.xe s := by
  cases ha : x.cps.all (· < 128)
  · exact wpAny_pyIter_wide ha (pi_one (tk := s.toks) I _ (turn_str _ x t "str_iterator" (.inr rfl)) ⟨_, Heap.get?_push_size _ rfl, rfl, rfl⟩ q)
  · exact wpAny_pyIter_ascii ha (pi_one (tk := s.toks) I _ (turn_str _ x t "str_ascii_iterator" (.inl rfl)) ⟨_, Heap.get?_push_size _ rfl, rfl, rfl⟩ q)
/-- what a reading of an iterable asks, from a value on -/
def PostI (C : Ctx) (W : WX) (mp : List Addr) (H : Hp) (σ : L2.St) (r : Rs Sq) (R : It → Hp → Prop) : Prop := match r with
  | .ok (.items ds) S' => ∀ mp' H' J, mp <+: mp' → HLe H H' → Rel C mp' S' H' → WalksI C J mp' H' ds → R J H'
  | .ok (.live k) S' => ∀ mp' H' J, mp <+: mp' → HLe H H' → Rel C mp' S' H' → WalksL C J mp' H' k → R J H'
  | .exc x S' => ∀ mp' H' cls dd, mp <+: mp' → HLe H H' → Rel C mp' S' H' → RepX C mp' H' x cls dd → W cls dd σ H'
  | .fail => False
theorem TIr_eq {m : MI} {σ : L2.St} {H : Hp} {R : It → Hp → Prop} : TIr C W m σ H R ↔ ∃ mp env S, Rel C mp S H ∧ EnvR C mp H env σ ∧ PostI C W mp H σ (m env S) R := Iff.rfl
theorem PostI.mono {mp mp' : List Addr} {H H' : Hp} {σ : L2.St} {r : Rs Sq} {R : It → Hp → Prop} (p : mp <+: mp') (h : HLe H H') (q : PostI C W mp H σ r R) : PostI C W mp' H' σ r R := by
  cases r with
  | ok sq S' =>
    cases sq with
    | items ds => exact fun m2 H2 J p2 h2 => q m2 H2 J (p.trans p2) (h.trans h2)
    | live k => exact fun m2 H2 J p2 h2 => q m2 H2 J (p.trans p2) (h.trans h2)
  | exc x S' => exact fun m2 H2 c d p2 h2 => q m2 H2 c d (p.trans p2) (h.trans h2)
  | fail => exact q
theorem T.ofI {α β : Type} {Rl : RelT α β} {mp : List Addr} {S : Sto} {H : Hp} {env : Env} {σ : L2.St} {m : Env → Sto → Rs α} {f : α → Sto → Rs Sq} {R : It → Hp → Prop} {P : β → Hp → Prop} (hR : Rel C mp S H) (hE : EnvR C mp H env σ) (h : PostI C W mp H σ ((m env S).bind f) R)
    (hk : ∀ d S1 mp1 H1 x, mp <+: mp1 → HLe H H1 → Rel C mp1 S1 H1 → EnvR C mp1 H1 env σ → Rl mp1 H1 d x → PostI C W mp1 H1 σ (f d S1) R → P x H1) : T C W Rl m σ H P := by
  refine ⟨mp, env, S, hR, hE, ?_⟩
  cases e : m env S with
  | ok d S1 =>
    rw [e] at h
    exact fun mp1 H1 x p1 h1 R1 r => hk d S1 mp1 H1 x p1 h1 R1 (hE.mono p1 h1) r (PostI.mono p1 h1 h)
  | exc x S1 =>
    rw [e] at h
    exact h
  | fail =>
    rw [e] at h
    exact h
theorem i_any (hK : X.K = C.K) (ha : SE C X W a ma) : SI C X W tg a (mIter ma) := by
  refine ⟨fun pins s σ H R I h0 => ?_⟩
  obtain ⟨mp, env, S, hR, hE, h⟩ := TIr_eq.mp h0
  refine thn (ha.run pins s σ H (fun x H1 => ∃ mp1 S1 d, Rel C mp1 S1 H1 ∧ Rep C mp1 H1 d x ∧ PostI C W mp1 H1 σ (iterD d S1) R) I (T.ofI hR hE h fun d S1 mp1 H1 x p1 l1 R1 E1 r1 h1 => ⟨mp1, S1, d, R1, r1, h1⟩)) fun v s1 ⟨x, H1, I1, rx, mp1, S1, d, R1, r1, h1⟩ => ?_
  cases r1 with
  | @tup ds vs p q t =>
    cases (show v = Value.ref p from rx)
    refine pie_tup I1 (vs := vs) (hK ▸ q.sq) ?_
    rw [hK]
    exact h1 mp1 H1 _ (List.prefix_refl _) (HLe.refl _) R1 (walks_tup q t)
  | str z =>
    obtain ⟨t, rfl⟩ := rx
    exact pie_str I1 (h1 mp1 H1 _ (List.prefix_refl _) (HLe.refl _) R1 (walks_str z))
  | @ref k p q =>
    cases (show v = Value.ref p from rx)
    have h1' : PostI C W mp1 H1 σ (match listAt k S1 with
      | some _ => .ok (.live k) S1
      | none => .fail) R := h1
    cases q1 : listAt k S1 with
    | none => rw [q1] at h1'; exact h1'.elim
    | some xs =>
      rw [q1] at h1'
      have fin : ∀ {vs : List V}, SqL C.K H1 p vs → wpAny (model X.prog X.w) X.A (pyIter (.ref p)) (PIE X pins σ tg R) X.xe s1 := fun {vs} hq => by
        refine pie_list I1 (vs := vs) (hK ▸ hq) ?_
        rw [hK]
        exact h1' mp1 H1 _ (List.prefix_refl _) (HLe.refl _) R1 (walks_list R1 q)
      obtain ⟨o, ho, ro⟩ := R1.atA q
      unfold listAt at q1
      rw [ho] at q1
      cases o with
      | lst ys => obtain ⟨vs, k1, _⟩ := ro; exact fin (.of k1)
      | ro ys => obtain ⟨oo, vs, k1, _⟩ := ro; exact fin (.inl (.inr ⟨oo, k1⟩))
      | dic _ => cases q1
      | ins _ _ => cases q1
  | _ => exact (show False from h1).elim
theorem _root_.L2.PI.imp {X : Cx} {tg e : Expr} {t u : TI} (h : PI X tg e t) (q : ∀ σ H Q, u σ H Q → t σ H Q) : PI X tg e u := ⟨fun pins s σ H Q I w => h.run pins s σ H Q I (q σ H Q w)⟩
theorem i_range1 {p : Pos} (hg : Gl X "range") (hm : X.mg "range" = none) (ha : SE C X W a ma) (hn : noStar [a] = true) : SI C X W tg (.Call (.Name "range" p) [a] [] pos) (mRange1 ma) := by
  have hs := starEach_cons (env := X.env) hn
  refine (pi_range1 hg hm (pa_cons ha pa_nil hs) hs).imp fun σ H R h0 => ?_
  obtain ⟨mp, env, S, hR, hE, h⟩ := TIr_eq.mp h0
  refine T.ofI hR hE h fun d S1 mp1 H1 x p1 l1 R1 E1 r1 h1 => ?_
  cases r1 with
  | int j =>
    have h1' : PostI C W mp1 H1 σ (if -(2 ^ 62) ≤ j ∧ j < 2 ^ 62 then .ok (.items (rangeD 0 j.toNat)) S1 else .fail) R := h1
    by_cases z : -(2 ^ 62) ≤ j ∧ j < 2 ^ 62
    · rw [if_pos z] at h1'
      exact ⟨j, rfl, z.1, z.2, h1' mp1 H1 _ (List.prefix_refl _) (HLe.refl _) R1 (walks_range 0 j.toNat)⟩
    · rw [if_neg z] at h1'; exact h1'.elim
  | _ => exact (show False from h1).elim
theorem i_range2 {p : Pos} (hg : Gl X "range") (hm : X.mg "range" = none) (ha : SE C X W a ma) (hb : SE C X W b mb) (hn : noStar [a, b] = true) : SI C X W tg (.Call (.Name "range" p) [a, b] [] pos) (mRange2 ma mb) := by
  have hs := starEach_cons (env := X.env) hn
  have hs2 := starEach_cons (env := X.env) (noStar_tail hn)
  refine (pi_range2 hg hm (pa_cons ha (pa_cons hb pa_nil hs2) hs) (by rw [hs, hs2]; rfl) hs2).imp fun σ H R h0 => ?_
  obtain ⟨mp, env, S, hR, hE, h⟩ := TIr_eq.mp h0
  refine T.ofI hR hE h fun d S1 mp1 H1 x p1 l1 R1 E1 r1 h1 => T.ofI R1 E1 h1 fun e S2 mp2 H2 y p2 l2 R2 E2 r2 h2 => ?_
  cases r1 with
  | int i =>
    cases r2 with
    | int j =>
      have h1' : PostI C W mp2 H2 σ (if -(2 ^ 62) ≤ i ∧ i < 2 ^ 62 ∧ -(2 ^ 62) ≤ j ∧ j < 2 ^ 62 then .ok (.items (rangeD i (j - i).toNat)) S2 else .fail) R := h2
      by_cases z : -(2 ^ 62) ≤ i ∧ i < 2 ^ 62 ∧ -(2 ^ 62) ≤ j ∧ j < 2 ^ 62
      · rw [if_pos z] at h1'
        exact ⟨i, j, rfl, z, h1' mp2 H2 _ (List.prefix_refl _) (HLe.refl _) R2 (walks_range i (j - i).toNat)⟩
      · rw [if_neg z] at h1'; exact h1'.elim
    | _ => exact (show False from h2).elim
  | _ => cases r2 <;> exact (show False from h2).elim
end
end Bt

set_option Elab.async false
set_option linter.all false
set_option maxRecDepth 100000
set_option maxHeartbeats 2000000
namespace Bt
open PySem PySem.Spec PyProof.Rows L2
/-! ### comprehensions -/
/-- the target of a comprehension: a name, or a tuple of names -/
inductive CTg where
  | one (i : Nat) | tup (is : List Nat)
def setsE : Env → List Nat → List D → Env
  | env, i :: is, d :: ds => setsE (env.set i (some d)) is ds
  | env, _, _ => env
def bindC (t : CTg) (d : D) (env : Env) : Option Env := match t with
  | .one i => some (env.set i (some d))
  | .tup is => match d with
    | .tup ds => if ds.length = is.length then some (setsE env is ds) else none
    | _ => none
def wipeE (env : Env) : List Nat → Env
  | [] => env
  | v :: vs => (wipeE env vs).set v none
def appD (k : Nat) (y : D) (S : Sto) : Option Sto := match S[k]? with
  | some (.lst xs) => if xs.length < sizeLine then some (S.set k (.lst (xs ++ [y]))) else none
  | _ => none
/-- one item of a list comprehension: k the new list -/
def lcTurn (k : Nat) (t : CTg) (ts : MT) (e : ME) (d : D) (env : Env) (S : Sto) (next : Sto → Rs Unit) : Rs Unit := match bindC t d env with
  | none => .fail
  | some env2 => match ts env2 S with
    | .ok true S1 => (match e env2 S1 with
      | .ok y S2 => (match appD k y S2 with
        | some S3 => next S3
        | none => .fail)
      | _ => .fail)
    | .ok false S1 => next S1
    | _ => .fail
def lcL (k : Nat) (t : CTg) (ts : MT) (e : ME) (env : Env) : List D → Sto → Rs Unit
  | [], S => .ok () S
  | d :: r, S => lcTurn k t ts e d env S (lcL k t ts e env r)
def lcR (k : Nat) (t : CTg) (ts : MT) (e : ME) (env : Env) (n : Nat) : Nat → Nat → Sto → Rs Unit
  | 0, i, S => match listAt n S with
    | some xs => if xs.length ≤ i then .ok () S else .fail
    | none => .fail
  | j + 1, i, S => match listAt n S with
    | some xs => match xs[i]? with
      | some d => lcTurn k t ts e d env S (lcR k t ts e env n j (i + 1))
      | none => .fail
    | none => .fail
def mLc (it : MI) (own : List Nat) (t : CTg) (ts : MT) (e : ME) : ME := fun env S => (it env S).bind fun q S => match (match q with
    | .items ds => lcL S.length t ts e (wipeE env own) ds (S ++ [.lst []])
    | .live n => match listAt n S with
      | some xs => lcR S.length t ts e (wipeE env own) n xs.length 0 (S ++ [.lst []])
      | none => .fail : Rs Unit) with
  | .ok _ S' => .ok (.ref S.length) S'
  | _ => .fail
/-- the readings of such a target -/
def gNames : List Nat → TGs
  | [] => gNil
  | i :: is => gCons (gName i) (gNames is)
def gC (K : PySem.W.Frag) : CTg → TG
  | .one i => gName i
  | .tup is => gTup K is.length (gNames is)
def CTg.within (vs : List Nat) : CTg → Prop
  | .one i => i ∈ vs
  | .tup is => ∀ i ∈ is, i ∈ vs
section
variable {C : Ctx} {X : Cx} {W : WX} {Γ : GEnv} {n : Nat} {a b c tg : Expr} {pos : Pos} {ma mb mc : ME}
theorem wipe_r {mp : List Addr} {H : Hp} {env : Env} {σ : L2.St} (h : EnvR C mp H env σ) : ∀ vs : List Nat, EnvR C mp H (wipeE env vs) (wipe σ vs)
  | [] => h
  | v :: vs => (wipe_r h vs).unset v
theorem wipe_set (σ : L2.St) (i : Nat) (x : Option V) : ∀ vs : List Nat, i ∈ vs → wipe (σ.set i x) vs = wipe σ vs
  | v :: vs, h => by
    unfold wipe
    by_cases hi : i ∈ vs
    · rw [wipe_set σ i x vs hi]
    · have e : i = v := by
        rcases List.mem_cons.mp h with h | h
        · exact h
        · exact absurd h hi
      subst e
      have key : ∀ ws : List Nat, i ∉ ws → wipe (σ.set i x) ws = (wipe σ ws).set i x := by
        intro ws
        induction ws with
        | nil => intro _; rfl
        | cons w ws ih =>
          intro hn
          have h1 : i ≠ w := fun e => hn (by simp [e])
          have h2 : i ∉ ws := fun e => hn (List.mem_cons_of_mem _ e)
          unfold wipe
          rw [ih h2, List.set_comm _ _ h1]
      rw [key vs hi, List.set_set]
theorem wipe_wipe (σ : L2.St) (vs : List Nat) : wipe (wipe σ vs) vs = wipe σ vs := by
  have key : ∀ ws : List Nat, (∀ w ∈ ws, w ∈ vs) → wipe (wipe σ ws) vs = wipe σ vs := by
    intro ws
    induction ws with
    | nil => intro _; rfl
    | cons w ws ih =>
      intro h
      show wipe ((wipe σ ws).set w none) vs = wipe σ vs
      rw [wipe_set _ _ _ _ (h w (by simp))]
      exact ih fun z hz => h z (List.mem_cons_of_mem _ hz)
  exact key vs fun _ h => h
/-- the target is stored, the reading goes on with the slots explicit -/
theorem bindC_ok {t : CTg} {d : D} {x : V} {mp : List Addr} {H : Hp} {env env2 : Env} {σ : L2.St} {vs : List Nat} {Q : L2.St → Hp → Prop} (hw : t.within vs) (hE : EnvR C mp H env σ) (rd : Rep C mp H d x) (hb : bindC t d env = some env2)
    (h : ∀ σ2, EnvR C mp H env2 σ2 → wipe σ2 vs = wipe σ vs → Q σ2 H) : gC C.K t x σ H Q := by
  cases t with
  | one i =>
    cases hb
    exact h _ (hE.set rd) (wipe_set σ i _ vs hw)
  | tup is =>
    unfold bindC at hb
    cases rd with
    | @tup ds ws p q tt =>
      dsimp only at hb
      split at hb
      · rename_i hl
        cases hb
        refine ⟨p, ws, rfl, q.sq, by rw [← tt.length]; exact hl, ?_⟩
        have key : ∀ (is : List Nat) (ds : List D) (ws : List V) (env : Env) (σ' : L2.St), (∀ i ∈ is, i ∈ vs) → ds.length = is.length → Reps C mp H ds ws → EnvR C mp H env σ' → wipe σ' vs = wipe σ vs → (∀ σ2, EnvR C mp H (setsE env is ds) σ2 → wipe σ2 vs = wipe σ vs → Q σ2 H) → gNames is ws σ' H Q := by
          intro is
          induction is with
          | nil =>
            intro ds ws env σ' hv hl hr hE' hw' h'
            cases hr with
            | nil => exact ⟨rfl, h' σ' hE' hw'⟩
            | cons _ _ => simp at hl
          | cons i is ih =>
            intro ds ws env σ' hv hl hr hE' hw' h'
            cases hr with
            | nil => simp at hl
            | @cons d v ds ws r rr =>
              refine ⟨v, ws, rfl, ?_⟩
              show gNames is ws (σ'.set i (some v)) H Q
              exact ih ds ws (env.set i (some d)) (σ'.set i (some v)) (fun j hj => hv j (List.mem_cons_of_mem _ hj)) (by simpa using hl) rr (hE'.set r) (by rw [wipe_set _ _ _ _ (hv i (by simp))]; exact hw') h'
        exact key is ds ws env σ hw hl tt hE rfl h
      · cases hb
    | _ => cases hb
/-- nothing is raised -/
def W0 : WX := fun _ _ _ _ => False
def PostU (C : Ctx) (mp : List Addr) (H : Hp) (r : Rs Unit) (P : List Addr → Hp → Prop) : Prop := match r with
  | .ok _ S' => ∀ mp' H', mp <+: mp' → HLe H H' → Rel C mp' S' H' → P mp' H'
  | _ => False
theorem PostU.mono {mp mp' : List Addr} {H H' : Hp} {r : Rs Unit} {P : List Addr → Hp → Prop} (p : mp <+: mp') (h : HLe H H') (q : PostU C mp H r P) : PostU C mp' H' r P := by
  cases r with
  | ok u S' => exact fun m2 H2 p2 h2 => q m2 H2 (p.trans p2) (h.trans h2)
  | exc x S' => exact q
  | fail => exact q
theorem lcTurn_ok {k : Nat} {t : CTg} {ts : MT} {e : ME} {d : D} {x : V} {env : Env} {S : Sto} {next : Sto → Rs Unit} {mp mp0 : List Addr} {H H0 : Hp} {σ : L2.St} {vs : List Nat} {Da : Addr} {P : List Addr → Hp → Prop} {Nx : Hp → Prop} (hw : t.within vs) (h0 : mp0 <+: mp) (l0 : HLe H0 H)
    (hR : Rel C mp S H) (hE : EnvR C mp H env (wipe σ vs)) (rd : Rep C mp H d x) (hk : mp[k]? = some Da) (h : PostU C mp H (lcTurn k t ts e d env S next) P)
    (hN : ∀ mp' S' H', mp0 <+: mp' → HLe H0 H' → mp'[k]? = some Da → Rel C mp' S' H' → PostU C mp' H' (next S') P → Nx H') :
    gC C.K t x (wipe σ vs) H fun σ2 H2 => wipe σ2 vs = wipe σ vs ∧ T C W0 RB ts σ2 H2 fun b H3 => if b = true then T C W0 (RD C) e σ2 H3 fun y H4 => ∃ acc, H4 Da = some (.lst acc) ∧ acc.length < sizeLine ∧ Nx (upd H4 Da (.lst (acc ++ [y]))) else Nx H3 := by
  unfold lcTurn at h
  cases q : bindC t d env with
  | none => rw [q] at h; exact h.elim
  | some env2 =>
    rw [q] at h
    dsimp only at h
    refine bindC_ok hw hE rd q fun σ2 E2 hw2 => ⟨by rw [hw2, wipe_wipe], mp, env2, S, hR, E2, ?_⟩
    cases q1 : ts env2 S with
    | fail => rw [q1] at h; exact h.elim
    | exc y S1 => rw [q1] at h; exact h.elim
    | ok bb S1 =>
      rw [q1] at h
      cases bb with
      | false =>
        intro mp1 H1 v p1 l1 R1 rv
        cases rv
        exact hN mp1 S1 H1 (h0.trans p1) (l0.trans l1) (pre_get p1 hk) R1 (PostU.mono p1 l1 h)
      | true =>
        intro mp1 H1 v p1 l1 R1 rv
        cases rv
        dsimp only at h
        refine ⟨mp1, env2, S1, R1, E2.mono p1 l1, ?_⟩
        cases q2 : e env2 S1 with
        | fail => rw [q2] at h; exact h.elim
        | exc y S2 => rw [q2] at h; exact h.elim
        | ok y S2 =>
          rw [q2] at h
          dsimp only at h
          intro mp2 H2 yv p2 l2 R2 ry
          cases q3 : appD k y S2 with
          | none => rw [q3] at h; exact h.elim
          | some S3 =>
            rw [q3] at h
            dsimp only at h
            have hk2 := pre_get (p1.trans p2) hk
            unfold appD at q3
            obtain ⟨o, ho, ro⟩ := R2.atA hk2
            rw [ho] at q3
            cases o with
            | lst xs =>
              obtain ⟨ws, k1, k2⟩ := ro
              dsimp only at q3
              split at q3
              · rename_i hz
                cases q3
                refine ⟨ws, k1, by rw [← k2.length]; exact hz, ?_⟩
                have le : HLe H2 (upd H2 Da (.lst (ws ++ [yv]))) := HLe.upd k1 (fun z => z)
                exact hN mp2 (S2.set k (.lst (xs ++ [y]))) _ (h0.trans (p1.trans p2)) (l0.trans ((l1.trans l2).trans le)) hk2 (R2.set hk2 k1 (fun z => z) ⟨_, upd_same, (k2.append (.cons ry .nil)).mono (List.prefix_refl _) le⟩) (PostU.mono (p1.trans p2) ((l1.trans l2).trans le) h)
              · cases q3
            | _ => cases q3
theorem lc_reads {it : MI} {own : List Nat} {t : CTg} {ts : MT} {e : ME} {σ : L2.St} {H : Hp} {Q : VK} (hK : X.K = C.K) (hw : t.within own) (h0 : T C W (RD C) (mLc it own t ts e) σ H Q) :
    tLc (TIr C W it) (gC X.K t) (T C W0 RB ts) (T C W0 (RD C) e) own σ H Q := by
  rw [hK]
  obtain ⟨mp, env, S, hR, hE, h⟩ := h0
  refine ⟨mp, env, S, hR, hE, ?_⟩
  unfold mLc at h
  cases q : it env S with
  | fail => rw [q] at h; exact h
  | exc x S' => rw [q] at h; exact h
  | ok sq S1 =>
    rw [q] at h
    have start : ∀ {mp1 : List Addr} {H1 : Hp} {Da : Addr}, Rel C mp1 S1 H1 → H1 Da = none → Rel C (mp1 ++ [Da]) (S1 ++ [.lst []]) (upd H1 Da (.lst [])) ∧ (mp1 ++ [Da])[S1.length]? = some Da := fun {mp1 H1 Da} R1 hD =>
      ⟨R1.push hD ⟨[], upd_same, .nil⟩, by rw [List.getElem?_append_right (by rw [R1.len]; exact Nat.le_refl _), R1.len]; simp⟩
    cases sq with
    | items ds =>
      have h' : Post C (RD C) mp H σ (match lcL S1.length t ts e (wipeE env own) ds (S1 ++ [.lst []]) with | .ok _ S' => .ok (.ref S1.length) S' | _ => .fail) Q W := h
      have hu : ∀ {mp1 : List Addr} {H1 : Hp} {Da : Addr}, mp <+: mp1 → HLe H H1 → mp1[S1.length]? = some Da → PostU C mp1 H1 (lcL S1.length t ts e (wipeE env own) ds (S1 ++ [.lst []])) fun mp' H' => mp'[S1.length]? = some Da → Q (.ref Da) H' := fun {mp1 H1 Da} p1 l1 hk => by
        cases z : lcL S1.length t ts e (wipeE env own) ds (S1 ++ [.lst []]) with
        | ok u S2 =>
          rw [z] at h'
          exact fun mp2 H2 p2 l2 R2 hk2 => h' mp2 H2 _ (p1.trans p2) (l1.trans l2) R2 (.ref hk2)
        | exc x S2 => rw [z] at h'; exact h'
        | fail => rw [z] at h'; exact h'
      intro mp1 H1 J p1 l1 R1 w Da hD
      obtain ⟨Rs0, hk0⟩ := start R1 hD
      have pa : mp1 <+: mp1 ++ [Da] := List.prefix_append _ _
      refine ⟨fun i m H => m = ds.length - i ∧ i ≤ ds.length ∧ ∃ mp2 S2, mp1 <+: mp2 ∧ HLe H1 H ∧ mp2[S1.length]? = some Da ∧ Rel C mp2 S2 H ∧ PostU C mp2 H (lcL S1.length t ts e (wipeE env own) (ds.drop i) S2) fun mp' H' => mp'[S1.length]? = some Da → Q (.ref Da) H',
        ⟨ds.length, by simp, Nat.zero_le _, mp1 ++ [Da], S1 ++ [.lst []], pa, HLe.new hD, hk0, Rs0, by simpa using hu (p1.trans pa) (l1.trans (HLe.new hD)) hk0⟩, ?_⟩
      rintro i m H2 ⟨rfl, hi, mp2, S2, p2, l2, hk2, R2, h2⟩
      obtain ⟨w1, w2⟩ := w mp2 H2 p2 l2 i
      by_cases hlt : i < ds.length
      · rw [List.drop_eq_getElem_cons hlt] at h2
        obtain ⟨go, yl⟩ := w1 ds[i] (by simp [hlt])
        refine .inr ⟨go, fun H' => ∃ mp' S', mp1 <+: mp' ∧ HLe H1 H' ∧ mp'[S1.length]? = some Da ∧ Rel C mp' S' H' ∧ PostU C mp' H' (lcL S1.length t ts e (wipeE env own) (ds.drop (i + 1)) S') fun mp' H' => mp'[S1.length]? = some Da → Q (.ref Da) H', fun H' ⟨mp', S', q1, q2, q3, q4, q5⟩ => ⟨ds.length - (i + 1), by omega, rfl, hlt, mp', S', q1, q2, q3, q4, q5⟩, fun x H3 y => ?_⟩
        obtain ⟨y1, y2, y3⟩ := yl x H3 y
        exact lcTurn_ok hw p2 (l2.trans y1) (y2 S2 R2) ((wipe_r hE own).mono (p1.trans p2) (l1.trans (l2.trans y1))) y3 hk2 (PostU.mono (List.prefix_refl _) y1 h2) fun mp' S' H' q1 q2 q3 q4 q5 => ⟨mp', S', q1, q2, q3, q4, q5⟩
      · have e : i = ds.length := by omega
        subst e
        rw [List.drop_length] at h2
        exact .inl ⟨w2 (Nat.le_refl _), h2 mp2 H2 (List.prefix_refl _) (HLe.refl _) R2 hk2⟩
    | live k =>
      have h1' : Post C (RD C) mp H σ (match (match listAt k S1 with
        | some xs => lcR S1.length t ts e (wipeE env own) k xs.length 0 (S1 ++ [.lst []])
        | none => .fail : Rs Unit) with | .ok _ S' => .ok (.ref S1.length) S' | _ => .fail) Q W := h
      cases qx : listAt k S1 with
      | none => rw [qx] at h1'; exact h1'.elim
      | some xs =>
        rw [qx] at h1'
        dsimp only at h1'
        have hu : ∀ {mp1 : List Addr} {H1 : Hp} {Da : Addr}, mp <+: mp1 → HLe H H1 → mp1[S1.length]? = some Da → PostU C mp1 H1 (lcR S1.length t ts e (wipeE env own) k xs.length 0 (S1 ++ [.lst []])) fun mp' H' => mp'[S1.length]? = some Da → Q (.ref Da) H' := fun {mp1 H1 Da} p1 l1 hk => by
          cases z : lcR S1.length t ts e (wipeE env own) k xs.length 0 (S1 ++ [.lst []]) with
          | ok u S2 =>
            rw [z] at h1'
            exact fun mp2 H2 p2 l2 R2 hk2 => h1' mp2 H2 _ (p1.trans p2) (l1.trans l2) R2 (.ref hk2)
          | exc x S2 => rw [z] at h1'; exact h1'
          | fail => rw [z] at h1'; exact h1'
        intro mp1 H1 J p1 l1 R1 w Da hD
        obtain ⟨Rs0, hk0⟩ := start R1 hD
        have pa : mp1 <+: mp1 ++ [Da] := List.prefix_append _ _
        refine ⟨fun i m H => ∃ mp2 S2, mp1 <+: mp2 ∧ HLe H1 H ∧ mp2[S1.length]? = some Da ∧ Rel C mp2 S2 H ∧ PostU C mp2 H (lcR S1.length t ts e (wipeE env own) k m i S2) fun mp' H' => mp'[S1.length]? = some Da → Q (.ref Da) H',
          ⟨xs.length, mp1 ++ [Da], S1 ++ [.lst []], pa, HLe.new hD, hk0, Rs0, hu (p1.trans pa) (l1.trans (HLe.new hD)) hk0⟩, ?_⟩
        rintro i m H2 ⟨mp2, S2, p2, l2, hk2, R2, h2⟩
        cases m with
        | zero =>
          unfold lcR at h2
          cases q2 : listAt k S2 with
          | none => rw [q2] at h2; exact h2.elim
          | some ys =>
            rw [q2] at h2
            dsimp only at h2
            by_cases z : ys.length ≤ i
            · rw [if_pos z] at h2
              exact .inl ⟨(w mp2 S2 H2 p2 l2 R2 ys q2 i).2 z, h2 mp2 H2 (List.prefix_refl _) (HLe.refl _) R2 hk2⟩
            · rw [if_neg z] at h2; exact h2.elim
        | succ m =>
          unfold lcR at h2
          cases q2 : listAt k S2 with
          | none => rw [q2] at h2; exact h2.elim
          | some ys =>
            rw [q2] at h2
            dsimp only at h2
            cases q3 : ys[i]? with
            | none => rw [q3] at h2; exact h2.elim
            | some d =>
              rw [q3] at h2
              dsimp only at h2
              obtain ⟨go, yl⟩ := (w mp2 S2 H2 p2 l2 R2 ys q2 i).1 d q3
              refine .inr ⟨go, fun H' => ∃ mp' S', mp1 <+: mp' ∧ HLe H1 H' ∧ mp'[S1.length]? = some Da ∧ Rel C mp' S' H' ∧ PostU C mp' H' (lcR S1.length t ts e (wipeE env own) k m (i + 1) S') fun mp' H' => mp'[S1.length]? = some Da → Q (.ref Da) H', fun H' hN => ⟨m, Nat.lt_succ_self m, hN⟩, fun x H3 y => ?_⟩
              obtain ⟨y1, y2, y3⟩ := yl x H3 y
              exact lcTurn_ok hw p2 (l2.trans y1) (y2 S2 R2) ((wipe_r hE own).mono (p1.trans p2) (l1.trans (l2.trans y1))) y3 hk2 (PostU.mono (List.prefix_refl _) y1 h2) fun mp' S' H' q1 q2 q3 q4 q5 => ⟨mp', S', q1, q2, q3, q4, q5⟩
end
end Bt

set_option Elab.async false
set_option linter.all false
set_option maxRecDepth 100000
set_option maxHeartbeats 2000000
namespace Bt
open PySem PySem.Spec PyProof.Rows L2
section
variable {C : Ctx} {X : Cx} {W : WX} {Γ : GEnv} {n : Nat} {a b c tg : Expr} {pos : Pos} {ma mb mc : ME}
/-- a clause's tests: none, or one -/
def SCl (C : Ctx) (X : Cx) (ifs : List Expr) (m : MT) : Prop := PTs X ifs (T C W0 RB m)
def mYes : MT := fun _ S => .ok true S
theorem _root_.L2.PTs.imp {X : Cx} {e : List Expr} {t u : TT} (h : PTs X e t) (q : ∀ σ H Q, u σ H Q → t σ H Q) : PTs X e u := ⟨fun pins s σ H Q I w => h.run pins s σ H Q I (q σ H Q w)⟩
theorem cl_nil : SCl C X [] mYes := pts_nil.imp fun σ H Q h => h.now (fun _ _ => rfl) fun _ => rfl
theorem cl_one {m : MT} (h : ST C X W0 a m) : SCl C X [a] m := pts_one h
theorem s_lc {elt iter : Expr} {ifs : List Expr} {scope : Scope} {own : List (Str × Nat)} {it : MI} {t : CTg} {ts : MT} {e : ME} (hc : X.calm = true) (hN : X.N.Nodup) (hK : X.K = C.K) (hi : SI C X W tg iter it) (ok : BlkOk X.N X.env.scope scope own) (hw : t.within (own.map (·.2)))
    (hg : ∀ (s : Shared) (H : Hp) (D : Addr) (cl : List (Str × Addr)) (fp : List Addr), PG (X.blk s H scope (compEnvC scope cl D X.env) fp) tg (gC X.K t)) (ht : ∀ (s : Shared) (H : Hp) (D : Addr) (cl : List (Str × Addr)) (fp : List Addr), SCl C (X.blk s H scope (compEnvC scope cl D X.env) fp) ifs ts)
    (he : ∀ (s : Shared) (H : Hp) (D : Addr) (cl : List (Str × Addr)) (fp : List Addr), SE C (X.blk s H scope (compEnvC scope cl D X.env) fp) W0 elt e) (hs : ∀ x, foldedSetIterable iter X.env x = pure x) :
    SE C X W (.ListComp elt [⟨tg, iter, ifs, 0⟩] scope pos) (mLc it (own.map (·.2)) t ts e) :=
  (pe_lc hc hN hi ok hg ht he hs).imp fun σ H Q h => lc_reads hK hw h
theorem z_setLc {i : Nat} {y : Str} {py spos : Pos} {elt iter : Expr} {ifs : List Expr} {scope : Scope} {own : List (Str × Nat)} {it : MI} {t : CTg} {ts : MT} {e : ME} (hc : X.calm = true) (hN : X.N.Nodup) (hK : X.K = C.K) (hy : X.N[i]? = some y) (hyl : X.env.scope.names.lookup y = some .local)
    (hsw : swapsWith (.ListComp elt [⟨tg, iter, ifs, 0⟩] scope pos) (some (.Name y py)) spos.line X.env = pure true) (hi : SI C X W tg iter it) (ok : BlkOk X.N X.env.scope scope own) (hw : t.within (own.map (·.2)))
    (hg : ∀ (s : Shared) (H : Hp) (D : Addr) (cl : List (Str × Addr)) (fp : List Addr), PG (X.blk s H scope (compEnvC scope cl D X.env) fp) tg (gC X.K t)) (ht : ∀ (s : Shared) (H : Hp) (D : Addr) (cl : List (Str × Addr)) (fp : List Addr), SCl C (X.blk s H scope (compEnvC scope cl D X.env) fp) ifs ts)
    (he : ∀ (s : Shared) (H : Hp) (D : Addr) (cl : List (Str × Addr)) (fp : List Addr), SE C (X.blk s H scope (compEnvC scope cl D X.env) fp) W0 elt e) (hs : ∀ x, foldedSetIterable iter X.env x = pure x) :
    SS C X W (.Assign [.Name y py] (.ListComp elt [⟨tg, iter, ifs, 0⟩] scope pos) spos) (sAsg (mLc it (own.map (·.2)) t ts e) (gNam i)) :=
  (ps_setLc hc hN hy hyl hsw hi ok hg ht he hs).imp fun Dd σ H ⟨mp, env, S, hR, hE, h⟩ =>
    lc_reads hK hw (T.ofS hR hE h fun d S1 mp1 H1 x p1 l1 R1 E1 r1 h1 => h1 mp1 H1 _ (List.prefix_refl _) (HLe.refl _) R1 (E1.set r1))
/-- the targets of a comprehension, in its block -/
theorem gC_one {i : Nat} {x : Str} (hN : X.N.Nodup) (hi : X.N[i]? = some x) (hx : Loc X.env.scope x) (hf : X.fn x = true ∨ X.env.scope.names.lookup x = some .local) : PG X (.Name x pos) (gC X.K (.one i)) := pg_name hN hi hx hf
theorem gC_tup {es : List Expr} {is : List Nat} {j : Nat} (hc : X.calm = true) (h : PGs X es (gNames is)) (hn : (assignEach es X.env).length = is.length) (hst : (assignEach es X.env).findIdx? (·.1) = none) : PG X (.Tuple es j pos) (gC X.K (.tup is)) := pg_tup hc h hn hst

/-! ### while -/
def whileF (t : MT) (body : MS) : Nat → MS
  | 0 => fun _ _ => .fail
  | k + 1 => fun env S => seqE (t env S) env fun b S => if b then (match body env S with
    | .ok (.nx e) S' => whileF t body k e S'
    | .ok (.ct e) S' => whileF t body k e S'
    | .ok (.bk e) S' => .ok (.nx e) S'
    | q => q) else .ok (.nx env) S
/-- enough turns for every loop here -/
def turns : Nat := 100000
theorem z_while {m : MT} {body : List Stmt} {mb : MS} (hp : PassesOwn (model X.prog X.w) X.A X.env X.xe) (hc : ST C X W c m) (hb : SSs C X W body mb) : SS C X W (.While c body [] pos) (whileF m mb turns) := by
  refine (ps_while hp hc hb).imp fun Dd σ H ⟨mp, env, S, hR, hE, h⟩ => ?_
  refine ⟨fun k σ H => ∃ mp env S, Rel C mp S H ∧ EnvR C mp H env σ ∧ PostS C mp H (whileF m mb k env S) Dd W, ⟨turns, mp, env, S, hR, hE, h⟩, ?_⟩
  rintro k σ1 H1 ⟨mp1, env1, S1, R1, E1, h1⟩
  cases k with
  | zero => exact h1.elim
  | succ k =>
    refine T.ofS R1 E1 h1 fun d S2 mp2 H2 x p2 l2 R2 E2 r2 h2 => ?_
    cases r2
    cases d with
    | false => exact h2.nx R2 E2
    | true =>
      refine ⟨fun σ' H' => ∃ mp env S, Rel C mp S H' ∧ EnvR C mp H' env σ' ∧ PostS C mp H' (whileF m mb k env S) Dd W, fun σ' H' hN => ⟨k, Nat.lt_succ_self k, hN⟩, mp2, env1, S2, R2, E2, ?_⟩
      have h2' : PostS C mp2 H2 (match mb env1 S2 with
        | .ok (.nx e) S' => whileF m mb k e S'
        | .ok (.ct e) S' => whileF m mb k e S'
        | .ok (.bk e) S' => .ok (.nx e) S'
        | q => q) Dd W := h2
      cases q : mb env1 S2 with
      | fail => rw [q] at h2'; exact h2'
      | exc x S3 => rw [q] at h2'; exact h2'
      | ok fl S3 =>
        rw [q] at h2'
        cases fl with
        | nx e => exact fun mp3 H3 σ3 p3 l3 R3 E3 => ⟨mp3, e, S3, R3, E3, PostS.mono p3 l3 h2'⟩
        | ct e => exact fun mp3 H3 σ3 p3 l3 R3 E3 => ⟨mp3, e, S3, R3, E3, PostS.mono p3 l3 h2'⟩
        | bk e => exact h2'
        | rt d => exact h2'
        | xc x e => exact h2'
end
end Bt

set_option Elab.async false
set_option linter.all false
set_option maxRecDepth 100000
set_option maxHeartbeats 2000000
namespace RT
open PySem PySem.Spec PyProof.Rows
section
variable {prog : Program} {w : World} {A : Around} {E : Value → Shared → Prop} {s : Shared}
theorem extend_rev {R : Result → Shared → Prop} {it l : Addr} {items : Array Value} (hh : A.handled = none) (hit : s.heap.IsRevIter it l ((items.size : Int) - 1)) (hl : s.heap.IsList l items) (hne : l ≠ it) (hn : items.size ≤ sizeLine) (S : Addr) (res : Value) (c₀ : Nat) (hS : s.heap.get? S = some { cls := .type "list", data := .seq #[] c₀ }) (hSi : S ≠ it) (hSl : S ≠ l)
    (hR : ∀ h' tk acc' c', (∀ b o, b ≠ S → b ≠ it → s.heap.get? b = some o → h'.get? b = some o) → h'.get? S = some { cls := .type "list", dict := none, data := .seq acc' c', slots := #[] } → ItemsOf (fun i v => items[items.size - 1 - i]? = some v) acc' items.size → R (.ok (.ret res)) { s with heap := h', toks := tk }) :
    wpAny (model prog w) A.in1 (Builtin.List.listExtendWith (.ref S) (.ref it) res)
      (fun fin s' => match fin with | .done f => R (.ok f) s' | .again c' => c'.quiet = true ∧ codeAny (model prog w) A c' R s') (fun e s' => R (.error e) s') s := by
  have W := (Walks.listRev (prog := prog) (w := w) (A := A.in1) hh it l hne items).toS
  have hSf : S ∉ [it, l] := by simp only [List.mem_cons, List.not_mem_nil, or_false, not_or]; exact ⟨hSi, hSl⟩
  have hT : s.TypeIs (.ref it) "list_reverseiterator" := hit.typeIs
  have h1 : Builtin.List.listSameRef (.ref S) (.ref it) = false := by simp [Builtin.List.listSameRef, hSi]
  unfold Builtin.List.listExtendWith
  refine wpAny_bind (wpAny_typeOf hT ?_)
  rw [if_neg (by rw [h1]; decide)]
  refine wpAny_bind (wpAny_pyIter_revIter hit ?_)
  refine wpAny_bind (wpAny_holding ?_)
  unfold Builtin.List.listLengthHint
  refine wpAny_bind (wpAny_specialOf hT nolen_lri ?_)
  show wpAny _ A.in1 (specialOf (Value.ref it) (Str.ofString "__length_hint__") >>= _) _ _ _
  refine wpAny_bind (wpAny_specialOf hT hint_lri ?_)
  generalize hid : ("list_reverseiterator.__length_hint__" : String) = id0
  wp_delta
  rw [show splitId id0 = some ("list_reverseiterator", "__length_hint__") from by subst hid; decide +kernel]
  subst hid
  refine wpAny_bind (wpAny_isInstance (b := true) hT (by rw [isSubtype_type]; kernel_rfl) ?_)
  refine wpAny_pure ?_
  rw [if_neg (by decide)]
  have e0 : ((items.size : Nat) : Int) - 1 - ((0 : Nat) : Int) = (items.size : Int) - 1 := by omega
  refine wpAny_pure ⟨plainId_quiet F.plain_extend_loop _, codeAny_extend_loopS W hn _ hSf _ items.size 0 _ _ _ rfl (Nat.zero_le _) ⟨Nat.zero_le _, by rw [e0]; exact hit, hl⟩ hS (ItemsOf.nil _) fun s' acc' c' hm hS' hacc => ?_⟩
  rw [Moved.eq_with hm]
  refine hR s'.heap s'.toks acc' c' (fun b o hb hb2 e => hm.heap b o (fun hmem => ?_) e) hS' hacc
  rcases List.mem_cons.mp hmem with e' | hmem
  · exact hb e'
  · exact hb2 (List.mem_singleton.mp hmem)
theorem list_init_rev {R : Result → Shared → Prop} {it l : Addr} {items : Array Value} (hh : A.handled = none) (hit : s.heap.IsRevIter it l ((items.size : Int) - 1)) (hl : s.heap.IsList l items) (hne : l ≠ it) (hn : items.size ≤ sizeLine) (S : Addr) (hS : s.heap.get? S = some { cls := .type "list", data := .seq #[] }) (hSi : S ≠ it) (hSl : S ≠ l)
    (hR : ∀ h' tk acc' c', (∀ b o, b ≠ S → b ≠ it → s.heap.get? b = some o → h'.get? b = some o) → h'.get? S = some { cls := .type "list", dict := none, data := .seq acc' c', slots := #[] } → ItemsOf (fun i v => items[items.size - 1 - i]? = some v) acc' items.size → R (.ok (.ret .none)) { s with heap := h', toks := tk }) :
    wpAny (model prog w) A.in1 (Builtin.«list.__init__» ⟨[.ref S, .ref it], []⟩)
      (fun fin s' => match fin with | .done f => R (.ok f) s' | .again c' => c'.quiet = true ∧ codeAny (model prog w) A c' R s') (fun e s' => R (.error e) s') s := by
  show wpAny _ _ (do let old ← Builtin.List.listItems (.ref S); Builtin.List.listUpdate (.ref S) (fun _ => #[]); letGo old.toList.reverse; Builtin.List.listExtendWith (.ref S) (.ref it) .none) _ _ s
  refine wpAny_bind ?_
  unfold Builtin.List.listItems
  refine wpAny_bind (wpAny_seqItems hS rfl (wpAny_pure ?_))
  show wpAny _ _ (updateSeq S (fun _ => #[]) >>= fun _ => letGo (#[] : Array Value).toList.reverse >>= fun _ => Builtin.List.listExtendWith (.ref S) (.ref it) .none) _ _ s
  refine wpAny_bind (wpAny_updateSeq hS rfl ?_)
  have hS₂ := Heap.get?_update_self (Obj.mapSeq (fun _ => (#[] : Array Value))) hS rfl
  have oth : ∀ b o, b ≠ S → s.heap.get? b = some o → (s.heap.update S (Obj.mapSeq (fun _ => (#[] : Array Value)))).get? b = some o :=
    fun b o hb e => (Heap.get?_update_other _ _ (Ne.symm hb)).trans e
  refine wpAny_bind (wpAny_letGo ?_)
  have hl' : (s.heap.update S (Obj.mapSeq (fun _ => (#[] : Array Value)))).IsList l items := by
    obtain ⟨o, ho, r⟩ := hl
    exact ⟨o, oth l o (Ne.symm hSl) ho, r⟩
  refine extend_rev hh (hit.at fun o e => oth it o (Ne.symm hSi) e) hl' hne hn S .none _ hS₂ hSi hSl fun h' tk acc' c' hk hS' hacc => ?_
  exact hR h' tk acc' c' (fun b o hb hb2 e => hk b o hb hb2 (oth b o hb e)) hS' hacc
theorem call_list_rev {Q : Value → Shared → Prop} {it l : Addr} {items : Array Value} (hh : A.handled = none) (hit : s.heap.IsRevIter it l ((items.size : Int) - 1)) (hl : s.heap.IsList l items) (hne : l ≠ it) (hn : items.size ≤ sizeLine)
    (hQ : ∀ h' tk acc' c', (∀ b o, b ≠ it → s.heap.get? b = some o → h'.get? b = some o) → h'.get? s.heap.objs.size = some { cls := .type "list", dict := none, data := .seq acc' c', slots := #[] } → ItemsOf (fun i v => items[items.size - 1 - i]? = some v) acc' items.size → Q (.ref s.heap.objs.size) { s with heap := h', toks := tk }) :
    wpAny (model prog w) A (call (.type "list") [.ref it]) Q E s := by
  refine callType_codes (Q₁ := fun obj s₁ => obj = .ref s.heap.objs.size ∧ s₁ = { s with heap := s.heap.push { cls := .type "list", data := .seq #[] } }) F.called_list (F.typeCall_list_1 _) F.entry_list_init
    (code_list_new _ ⟨rfl, rfl⟩) fun obj s₁ h₁ => ?_
  obtain ⟨rfl, rfl⟩ := h₁
  have hS : (s.heap.push { cls := .type "list", data := .seq #[] }).get? s.heap.objs.size = some { cls := .type "list", data := .seq #[] } := Heap.get?_push_size _ rfl
  obtain ⟨oi, hoi, _⟩ := id hit
  obtain ⟨ol, hol, _⟩ := id hl
  refine ⟨⟨_, hS, rfl⟩, F.args_list_init_2 _ _, list_init_rev (A := A.in1) hh (hit.at fun o e => Heap.get?_push_of_some _ e) (hl.push _) hne hn _ hS (Nat.ne_of_gt (Heap.lt_size hoi)) (Nat.ne_of_gt (Heap.lt_size hol)) fun h' tk acc' c' hk hS' hacc => ?_⟩
  exact ⟨rfl, hQ h' tk acc' c' (fun b o hb e => hk b o (Nat.ne_of_lt (Heap.lt_size e)) hb (Heap.get?_push_of_some _ e)) hS' hacc⟩
end
end RT
namespace Bt
open PySem PySem.Spec PyProof.Rows L2 RT
/-- list(reversed(x)), x a list: a new list -/
def tLstRev (K : PySem.W.Frag) (te : TE) : TE := fun σ H Q => te σ H fun v H1 => ∃ (a : Addr) (xs : List V), v = .ref a ∧ SqL K H1 a xs ∧ ∀ q, H1 q = none → Q (.ref q) (upd H1 q (.lst xs.reverse))
section
variable {X : Cx}
theorem pe_lstRev {e : Expr} {te : TE} {p p2 pos pos2 : Pos} (hc : X.calm = true) (hg : Gl X "list") (hm : X.mg "list" = none) (hg2 : Gl X "reversed") (hm2 : X.mg "reversed" = none) (he : PE X e te)
    (hs : starEach [e] X.env = (false, eval e X.env) :: starEach [] X.env) :
    PE X (.Call (.Name "list" p) [.Call (.Name "reversed" p2) [e] [] pos2] [] pos) (tLstRev X.K te) := by
  have hs2 : starEach [.Call (.Name "reversed" p2) [e] [] pos2] X.env = (false, eval (.Call (.Name "reversed" p2) [e] [] pos2) X.env) :: starEach [] X.env := rfl
  refine ⟨fun pins s σ H Q I h => ?_⟩
  refine Call_ (ld_blt I hg hm boot_list (PyProof.Rows.callWith_type1 (args_cons (Call_ (ld_blt I hg2 hm2 PyProof.Rows.boot_reversed (PyProof.Rows.callWith_type1 (args_cons (thn (he.run pins s σ H _ I h) fun u s1 ⟨v, H1, I1, r1, q1⟩ => args_nil ?_) hs) hs rfl))) hs2) hs2 rfl))
  obtain ⟨a, xs, ev, hq, q⟩ := q1
  subst ev
  obtain rfl : u = Value.ref a := r1
  obtain ⟨its, rv, p', hz⟩ := I1.list hq
  refine call_reversed_list p'.isList (args_nil ?_)
  have k0 : ∀ b o, s1.heap.get? b = some o → (s1.heap.push (revObj a ((its.toArray.size : Int) - 1))).get? b = some o := fun b o e => Heap.get?_push_of_some _ e
  have I2 : Inv X pins σ H1 { s1 with heap := s1.heap.push (revObj a ((its.toArray.size : Int) - 1)) } := I1.kept (t' := s1.toks) k0
  obtain ⟨f0, f1, f2, f3, f4, f5⟩ := I1.fpOk (H' := H1) (b := s1.heap.objs.size) (Nat.le_refl _) (I1.hok.fresh (Nat.le_refl _))
  have hl := p'.isList
  obtain ⟨ol, hol, _⟩ := id hl
  have hne : a ≠ s1.heap.objs.size := Nat.ne_of_lt (Heap.lt_size hol)
  have hn : its.toArray.size ≤ sizeLine := by rw [List.size_toArray, ← rv.length]; exact hz
  refine call_list_rev (s := { s1 with heap := s1.heap.push (revObj a ((its.toArray.size : Int) - 1)) }) (I1.ok.hd hc) ⟨_, Heap.get?_push_size _ rfl, rfl, rfl⟩ (hl.push _) hne hn fun h' tk acc c' hk hS hi => ?_
  have sz : (s1.heap.push (revObj a ((its.toArray.size : Int) - 1))).objs.size = s1.heap.objs.size + 1 := by simp [Heap.push]
  have old : ∀ b o, s1.heap.get? b = some o → h'.get? b = some o := fun b o e => hk b o (Nat.ne_of_lt (Heap.lt_size e)) (k0 b o e)
  have big : s1.heap.objs.size ≤ (s1.heap.push (revObj a ((its.toArray.size : Int) - 1))).objs.size := by rw [sz]; exact Nat.le_succ _
  refine ⟨.ref _, upd H1 _ (.lst xs.reverse), I1.laid (t' := tk) old big ⟨by rw [List.length_reverse]; exact hz, acc.toList, c', vals_rev rv hi, ?_⟩, rfl, q _ (I1.hok.fresh big)⟩
  rw [Array.toArray_toList]
  exact hS
end
/-- its meaning -/
def mRevL (m : ME) : ME := fun env S => (m env S).bind fun d S => match d with
  | .ref n => (match listAt n S with
    | some xs => .ok (.ref S.length) (S ++ [.lst xs.reverse])
    | none => .fail)
  | _ => .fail
section
variable {C : Ctx} {X : Cx} {W : WX} {a : Expr} {ma : ME}
theorem s_revL {p p2 pos pos2 : Pos} (hK : X.K = C.K) (hc : X.calm = true) (hg : Gl X "list") (hm : X.mg "list" = none) (hg2 : Gl X "reversed") (hm2 : X.mg "reversed" = none) (ha : SE C X W a ma) (hs : noStar [a] = true) :
    SE C X W (.Call (.Name "list" p) [.Call (.Name "reversed" p2) [a] [] pos2] [] pos) (mRevL ma) := by
  refine (pe_lstRev hc hg hm hg2 hm2 ha (starEach_cons hs)).imp fun σ H Q ⟨mp, env, S, hR, hE, h⟩ => ?_
  refine T.of hR hE h fun d S1 mp1 H1 x p1 l1 R1 E1 r1 h1 => ?_
  cases r1 with
  | @ref n p q =>
    have h1' : Post C (RD C) mp1 H1 σ (match listAt n S1 with
      | some xs => .ok (.ref S1.length) (S1 ++ [.lst xs.reverse])
      | none => .fail) Q W := h1
    obtain ⟨o, ho, ro⟩ := R1.atA q
    have fin : ∀ {xs : List D} {vs : List V}, SqL C.K H1 p vs → Reps C mp1 H1 xs vs → Post C (RD C) mp1 H1 σ (.ok (.ref S1.length) (S1 ++ [.lst xs.reverse])) Q W → ∃ (a : Addr) (xs : List V), V.ref p = .ref a ∧ SqL X.K H1 a xs ∧ ∀ q, H1 q = none → Q (.ref q) (upd H1 q (.lst xs.reverse)) := fun {xs vs} hs ht hq => by
      refine ⟨p, vs, rfl, hK ▸ hs, fun p' hp' => ?_⟩
      refine hq (mp1 ++ [p']) _ (.ref p') (List.prefix_append _ _) (HLe.new hp') (R1.push hp' ⟨_, upd_same, (ht.reverse).mono (List.prefix_append _ _) (HLe.new hp')⟩) (.ref ?_)
      rw [List.getElem?_append_right (by rw [R1.len]; exact Nat.le_refl _), R1.len]
      simp
    unfold listAt at h1'
    rw [ho] at h1'
    cases o with
    | lst xs => obtain ⟨vs, k1, k2⟩ := ro; exact fin (.of k1) k2 h1'
    | ro xs => obtain ⟨oo, vs, k1, k2⟩ := ro; exact fin (.inl (.inr ⟨oo, k1⟩)) k2 h1'
    | dic kvs => exact h1'.elim
    | ins c fs => exact h1'.elim
  | _ => exact (show False from h1).elim
end
end Bt

set_option Elab.async false
set_option linter.all false
set_option maxRecDepth 100000
set_option maxHeartbeats 2000000
namespace Bt
open PySem PySem.Spec PySem.Calls PyProof.Rows L2 PySem.W PySem.HandSPX

/-! ### an own error's __init__: super().__init__(text), then its fields -/
def supSt (msg : Str) (j : Nat) (p0 p1 p2 p3 p4 p5 : Pos) : Stmt := .Expr (.Call (.Attribute (.Call (.Name "super" p0) [] [] p1) "__init__" p2) [.Constant (.str msg) j p3] [] p4) p5
section
variable {prog : Program} {w : World} {A : Around} {E : Value → Shared → Prop} {h : Heap} {g : Array GenState} {d : Drawn} {t : Nat} {os : OsState}
variable {nm q : Str} {C N : Addr} {bs bm : List Value} {hdct : Bool} {sn : List Str} {sub : List Value} {ab : Bool} {col : Option Bool} {dd : Option Addr} {k0 k1 k2 k3 k5 : Option Value}
theorem call_mw {u e t0 : Addr} {rest : List Value} {Q : Value → Shared → Prop}
    (hC : h.get? C = some (excClassObj nm q C N bs bm hdct sn sub ab col dd k0 k1 k2 k3 k5 "ValueError.__new__")) (he : h.get? e = some (excO C t0)) (hu : h.get? u = some (kxs_mw "ValueError.__init__" e)) (hrest : rest.length ≤ sizeLine)
    (hq : ∀ h' t1, (∀ b o, b ≠ e → h.get? b = some o → h'.get? b = some o) → h'.get? e = some (excO C t1) → Q .none ⟨h', g, d, t, os⟩) :
    wpAny (model prog w) A (call (.ref u) rest) Q E ⟨h, g, d, t, os⟩ := by
  refine wpAny_call (codeAny_of_tree ?_)
  show wpAny _ A.in1 (callAny (.ref u) ⟨rest, []⟩) _ _ _
  simp only [callAny]
  refine wpAny_bind (wpAny_load hu ?_)
  simp only [kxs_mw, show (Value.type "method-wrapper" == Value.type "method" || Value.type "method-wrapper" == Value.type "builtin_function_or_method" || Value.type "method-wrapper" == Value.type "method-wrapper") = true by decide, if_true]
  refine W.KFB.if_so (by decide) ?_
  refine wpAny_bind (ESX.check_bound F.excBase_ValueError hC he rfl ?_)
  refine wpAny_bind (wpAny_pure (wpAny_pure ?_))
  refine ⟨Code.quiet_builtin _ (by decide +kernel), codeAny_builtin F.excBase_ValueError.initEntry ?_⟩
  rw [Around.under_plainId F.excBase_ValueError.init.plain _]
  wp_walk
  refine hq _ h.objs.size (fun b o hb ho => ?_) ?_
  · rw [Heap.get?_update_other _ _ (Ne.symm hb)]
    exact Heap.get?_push_of_some _ ho
  · rw [Heap.get?_update_self _ (Heap.get?_push_of_some _ he) rfl]
    rfl
end
/-- the text of an own error's class and of its __init__ -/
structure ErrC (prog : Program) (K : Frag) (mg : Str → Option Value) (C : Addr) : Prop where
  ox : OexC K C
  nop : nsIn K cStatics "thirdparty.any" = some none
  sup : mg "super" = none
  init : ks_superIn K C C "__init__" = some (some (.builtin "ValueError.__init__"))
  self : mroIn K C (.ref C) = some true
  subVE : subIn K (.ref C) (.type "ValueError") = some true
  htop : (prog.main.scope.names.lookup ("super" : Str)).isSome = false
def arg1 (x : Str) (p : Pos) : Arg := { arg := x, annotation := none, pos := p }
def iArgs (l : List (Str × Pos)) : Arguments := { posonlyargs := [], args := l.map fun q => arg1 q.1 q.2, vararg := none, kwonlyargs := [], kw_defaults := [], kwarg := none, defaults := [] }
def stoSt (f : Str) (q1 q2 q3 q4 : Pos) : Stmt := .Assign [.Attribute (.Name "self" q1) f q2] (.Name f q3) q4
/-- the function -/
structure ErrFn (prog : Program) (K : Frag) (C fI : Addr) (args : Arguments) (body : List Stmt) (scope : Scope) (qual : Str) (cda cc : Addr) : Prop where
  lk : ∃ (oc : Value) (od : Option Addr) (doc pm : Value) (an : Option Addr) (ct : Value) (osl : Array (Option Value)), K.lookup fI = some ⟨oc, od, .func (ksFn "__init__" qual args body scope .none .none doc pm an (.ref cda) ct cc), osl⟩
  cd : codeIn K (.ref cda) qual = true
  code : ∃ (ccl : Value) (cdd : Option Addr) (vs : Array Value) (ccs : Array (Option Value)) (file : Str) (tf : Tok), K.lookup cda = some ⟨ccl, cdd, .fields vs, ccs⟩ ∧ vs[2]? = some (.str file tf) ∧ ((prog.main.file : Str) == file) = true
  cell : ∃ (cl : Value) (cld : Option Addr) (csl : Array (Option Value)), K.lookup cc = some ⟨cl, cld, .cell (some (.ref C)), csl⟩
  iC : findIn K (.ref C) "__init__" = some (some (.ref fI))
  tI : typeIn K (.ref fI) = some (.type "function")
structure ErrSc (scope : Scope) : Prop where
  sup : scope.names.lookup ("super" : Str) = some .globalImplicit
  cls : scope.names.lookup ("__class__" : Str) = some .free
  slf : scope.names.lookup ("self" : Str) = some .local
  kind : scope.kind = .function
  cell : ∀ x ∈ scope.names, x.2 ≠ .cell
  co : scope.isCoroutine = false
  gen : scope.isGenerator = false
section
variable {prog : Program} {w : World} {A : Around} {E : Value → Shared → Prop} {s : Shared} {K : Frag} {mg : Str → Option Value} {C fI cda cc : Addr} {args : Arguments} {body : List Stmt} {scope : Scope} {qual : Str}
theorem sup_eval {env : PySem.Env} {o : Expr} {m : Str} {apos pos : Pos} {es : List Expr} (hl : (apos.endLine == pos.line) = true) (hn : noStar es = true) (hf : es.length < 29) :
    eval (.Call (.Attribute o m apos) es [] pos) env = (do
      let ov ← attributeBase o m env (eval o env)
      standAt apos.atName
      let (f, first) ← holding [ov] (getMethod ov m (do return (← importBound o env).getD true))
      callWith pos f first (backTo pos (starEach es env)) []) := by
  rw [arm_eval_Call]
  have hform : methodCallForm (es.length + ([] : List Keyword).length) (backTo pos (starEach es env)) (backToKw pos (keywordEach [] env)) = true := by
    unfold methodCallForm
    rw [noStar_all hn]
    show (true && true && decide (es.length + 0 + 0 < 30)) = true
    simp
    omega
  congr 1
  funext ov
  congr 1
  funext _
  unfold methodCall
  rw [hform]
  have hpos : methodCallPos true o env apos pos = pure pos := by unfold methodCallPos; simp [hl]
  rw [hpos]
  rfl
theorem sup_part (T : ErrC prog K mg C) (F1 : ErrFn prog K C fI args body scope qual cda cc) (S : ErrSc scope) {L x t0 : Addr} {m mb : Str → Option Value} {msg : Str} {j : Nat} {p0 p1 p2 p3 p4 p5 : Pos} {b2 : List Stmt} {p : Pos} (hl : (p2.endLine == p4.line) = true) (ha : (args.posonlyargs ++ args.args).head? = some (arg1 "self" p))
    (X : K.In s.heap) (hg : s.heap.Ns mainGlobals mg) (hb : s.heap.Ns builtinsNs mb) (hbs : mb "super" = some (.type "super")) (hL : s.heap.Ns L m) (hm : m "self" = some (.ref x)) (hx : s.heap.get? x = some (excO C t0)) {Q : Flow → Shared → Prop}
    (hq : ∀ h' tk' t1, (∀ b o, b ≠ x → s.heap.get? b = some o → h'.get? b = some o) → h'.get? x = some (excO C t1) → Q .next { s with heap := h', toks := tk' }) :
    _root_.PySem.wpAt (model prog w) A (.func b2 (ksEnv qual scope L fI (.ref cda) cc)) (exec (supSt msg j p0 p1 p2 p3 p4 p5) (ksEnv qual scope L fI (.ref cda) cc)) Q E s := by
  obtain ⟨oc, od, doc, pm, an, ct, osl, hf⟩ := F1.lk
  obtain ⟨ccl, cdd, vs, ccs, file, tf, hcode, hvs, hfile⟩ := F1.code
  obtain ⟨cl, cld, csl, hcell⟩ := F1.cell
  obtain ⟨nm, q, N, bs, bm, sn, sub, ab, col, dd, k0, k1, k2, k3, k5, hC, hbm⟩ := T.ox.cls
  have hcl : clsIn K C = some { name := nm, bases := bs, mro := .ref C :: bm, ns := N, qualname := q, hasDict := true, slotNames := sn, subclasses := sub, abstract := ab, collection := col, hasDel := false } := by unfold clsIn; rw [hC] <;> rfl
  have I : InstAt s.heap x (excO C t0) C none := ⟨hx, rfl, rfl, trivial⟩
  obtain ⟨hh, g, d, t, os⟩ := s
  refine ks_wpAt_Expr_any (ks_wpAt_MethodCall ?_ (sup_eval (es := [.Constant (.str msg) j p3]) hl rfl (by show 1 < 29; decide))) (by unfold interactive; rw [show (ksEnv qual scope L fI (.ref cda) cc).scope.kind = .function from S.kind]; rfl) (by first | rfl | skip)
  refine ks_wpAt_super_base (env := ksEnv qual scope L fI (.ref cda) cc) S.sup S.cls rfl rfl (X _ _ hf) rfl ha rfl (X _ _ hcode) rfl hvs hfile T.htop ?_
  refine ks_loadName_global S.kind S.sup (loadGlobal_builtin (env := ksEnv qual scope L fI (.ref cda) cc) hg T.sup hb hbs ⟨rfl, ?_⟩)
  refine wpAny_loadName_free S.kind S.cls rfl ⟨_, X _ _ hcell, rfl⟩ ?_
  refine wpAny_loadName_local S.kind S.slf hL hm ?_
  refine ks_wpAny_isType_cls (X _ _ hC) rfl ⟨rfl, ?_⟩
  refine ks_wpAny_call_super (X _ _ hC) rfl hx rfl (fun c e => by cases e) (looks_mroIn X T.self) (fun h1 e1 kp1 => ?_)
  have X1 : K.In h1 := X.keeps kp1
  have hin : Looks (model prog w) h1 (isInstance (.ref x) (.type "ValueError")) true := (I.type.keeps kp1).andThen (looks_subIn X1 T.subVE)
  have hi := T.init
  unfold ks_superIn at hi
  rw [hcl] at hi
  refine kxs_getMethod kxs_ValueError e1 (looks_opaque X1 T.nop) (l₀ := .ref C :: bm) ?_ rfl X1 hi hin (ks_ne X I hcl) rfl ?_
  · exact fun A Q E s k q => wpAny_bind ((looks_clsIn X1 hcl) A _ E s k (wpAny_pure q))
  · have kp2 : ∀ b o, h1.get? b = some o → (h1.push (kxs_mw "ValueError.__init__" x)).get? b = some o := fun b o e => Heap.get?_push_of_some _ e
    have hu : (h1.push (kxs_mw "ValueError.__init__" x)).get? h1.objs.size = some (kxs_mw "ValueError.__init__" x) := Heap.get?_push_at rfl rfl
    refine kxs_callWith (i := "ValueError.__init__") (x := x) rfl (evalArgs_plain ?_)
    show wpAny _ _ (spliced (backTo p4 [(false, eval (.Constant (.str msg) j p3) _)])) _ _ _
    refine Calls.spliced_cons (wpAny_Constant_str (k := j) (pos := p3) (Calls.spliced_nil ?_))
    refine ⟨hu, ?_⟩
    show wpAny _ _ (call (.ref h1.objs.size) [.str msg _]) _ _ _
    refine call_mw ((X1.keeps kp2) _ _ hC) (kp2 _ _ (kp1 _ _ hx)) hu (by rw [sizeLine_eq]; exact (by decide : 1 ≤ 16777216)) fun h' t1 k hx' => ?_
    exact hq h' _ t1 (fun b o hb ho => k b o hb (kp2 _ _ (kp1 _ _ ho))) hx'
end
def Bnd1 (f : Str) : Prop := f ≠ "self" ∧ (f == ("__debug__" : Str)) = false ∧ ∀ (qual : Str) (ps pf : Pos) (body : List Stmt) (scope : Scope) (doc pm : Value) (an : Option Addr) (cd ct : Value) (cc : Addr) (a b : Value), bindArgs (ksFn "__init__" qual (iArgs [("self", ps), (f, pf)]) body scope .none .none doc pm an cd ct cc) ⟨[a, b], []⟩ = pure [(("self" : Str), a), (f, b)]
def Bnd2 (f g : Str) : Prop := f ≠ "self" ∧ g ≠ "self" ∧ f ≠ g ∧ (f == ("__debug__" : Str)) = false ∧ (g == ("__debug__" : Str)) = false ∧ ∀ (qual : Str) (ps pf pg : Pos) (body : List Stmt) (scope : Scope) (doc pm : Value) (an : Option Addr) (cd ct : Value) (cc : Addr) (a b c : Value), bindArgs (ksFn "__init__" qual (iArgs [("self", ps), (f, pf), (g, pg)]) body scope .none .none doc pm an cd ct cc) ⟨[a, b, c], []⟩ = pure [(("self" : Str), a), (f, b), (g, c)]
theorem bnd_index : Bnd1 "index" := ⟨by decide, by decide, fun _ _ _ _ _ _ _ _ _ _ _ _ _ => rfl⟩
theorem bnd_name : Bnd1 "name" := ⟨by decide, by decide, fun _ _ _ _ _ _ _ _ _ _ _ _ _ => rfl⟩
theorem bnd_limit : Bnd1 "limit" := ⟨by decide, by decide, fun _ _ _ _ _ _ _ _ _ _ _ _ _ => rfl⟩
theorem bnd_place_why : Bnd2 "place" "why" := ⟨by decide, by decide, by decide, by decide, by decide, fun _ _ _ _ _ _ _ _ _ _ _ _ _ _ _ => rfl⟩
theorem bnd_index_code : Bnd2 "index" "code" := ⟨by decide, by decide, by decide, by decide, by decide, fun _ _ _ _ _ _ _ _ _ _ _ _ _ _ _ => rfl⟩
/-- what __init__ leaves of a fresh exception at x -/
structure InitEnd (h h' : Heap) (x C dx : Addr) (mA : Str → Option Value) : Prop where
  keep : ∀ b o, b ≠ x → h.get? b = some o → h'.get? b = some o
  obj : ∃ t1 : Addr, h'.get? x = some { cls := .ref C, dict := some dx, data := .fields #[.ref t1, .none, .none, .none, .bool false, .none] }
  dbig : h.objs.size ≤ dx
  dne : dx ≠ x
  ns : h'.Ns1 dx mA
/-- a made error -/
structure OwnMade (h h' : Heap) (e C d : Addr) (mA : Str → Option Value) : Prop where
  keep : ∀ b o, h.get? b = some o → h'.get? b = some o
  new : h.objs.size ≤ e
  obj : ∃ oe vs, h'.get? e = some oe ∧ oe.cls = .ref C ∧ oe.dict = some d ∧ oe.data = .fields vs ∧ vs[1]? = some .none
  dbig : h.objs.size ≤ d
  dne : d ≠ e
  ns : h'.Ns1 d mA
def one1 (f : Str) (v : Value) : Str → Option Value := fun y => if y = f then some v else none
def two2 (f g : Str) (v u : Value) : Str → Option Value := fun y => if y = g then some u else if y = f then some v else none
theorem ldX {M : Model} {A : Around} {E : Value → Shared → Prop} {s : Shared} {qual : Str} {scope : Scope} {L a cc : Addr} {cd : Value} {m : Str → Option Value} {x : Str} {pos : Pos} {v : Value} {Q : Value → Shared → Prop} (hn : s.heap.Ns L m) (hv : m x = some v) (hk : scope.kind = .function)
    (hl : scope.names.lookup x = some .local) (hd : (x == ("__debug__" : Str)) = false) (h : Q v s) : wpAny M A (eval (.Name x pos) (ksEnv qual scope L a cd cc)) Q E s := wpAny_Name (wpAny_loadName_local hk hl hn hv h) hd
section
variable {prog : Program} {w : World} {A : Around} {E : Value → Shared → Prop} {R : Result → Shared → Prop} {s : Shared} {K : Frag} {mg : Str → Option Value} {C fI cda cc : Addr} {scope : Scope} {qual : Str}
theorem err_init1 {f : Str} {ps pf : Pos} {msg : Str} {j : Nat} {p0 p1 p2 p3 p4 p5 q1 q2 q3 q4 : Pos} (T : ErrC prog K mg C) (F1 : ErrFn prog K C fI (iArgs [("self", ps), (f, pf)]) [supSt msg j p0 p1 p2 p3 p4 p5, stoSt f q1 q2 q3 q4] scope qual cda cc) (S : ErrSc scope) (hl : (p2.endLine == p4.line) = true)
    (hf : scope.names.lookup f = some .local) (B : Bnd1 f) (noF : findIn K (.ref C) f = some none) {x t0 : Addr} {v : Value} {mb : Str → Option Value}
    (X : K.In s.heap) (hg : s.heap.Ns mainGlobals mg) (hb : s.heap.Ns builtinsNs mb) (hbs : mb "super" = some (.type "super")) (hlim : s.heap.NoLimit) (hx : s.heap.get? x = some (excO C t0)) (hnx : K.lookup x = none) (hroom : A.depth < recursionLimit)
    (hq : ∀ h' tk dx, InitEnd s.heap h' x C dx (one1 f v) → R (.ok (.ret .none)) { s with heap := h', toks := tk }) :
    codeAny (model prog w) A (.call (.ref fI) ⟨[.ref x, v], []⟩) R s := by
  obtain ⟨hfs, hfd, hbd⟩ := B
  obtain ⟨oc, od, doc, pm, an, ct, osl, ho⟩ := F1.lk
  obtain ⟨nm, q, N, bs, bm, sn, sub, ab, col, dd, k0, k1, k2, k3, k5, hC, hbm⟩ := T.ox.cls
  have hcl : clsIn K C = some { name := nm, bases := bs, mro := .ref C :: bm, ns := N, qualname := q, hasDict := true, slotNames := sn, subclasses := sub, abstract := ab, collection := col, hasDel := false } := by unfold clsIn; rw [hC] <;> rfl
  refine ks_codeAny_call_defAt (binds := [("self", .ref x), (f, v)]) hroom (X _ _ ho) rfl hlim (codeRec_of X F1.cd) rfl (BindsTo.of_eq (hbd _ _ _ _ _ _ _ _ _ _ _ _ _)) S.cell (by
    intro y hy
    rcases List.mem_cons.mp hy with rfl | hy
    · exact S.slf
    · rcases List.mem_cons.mp hy with rfl | hy
      · exact hf
      · cases hy) (fun h₁ hns k => ?_) S.co S.gen S.kind
  have hm0 : ([("self", Value.ref x), (f, v)] : List (Str × Value)).reverse.lookup ("self" : Str) = some (.ref x) := by
    show List.lookup ("self" : Str) [(f, v), ("self", .ref x)] = _
    have e : ((("self" : Str)) == f) = false := by simpa using Ne.symm hfs
    simp [List.lookup, e]
  have hm1 : ([("self", Value.ref x), (f, v)] : List (Str × Value)).reverse.lookup f = some v := by
    show List.lookup f [(f, v), ("self", .ref x)] = _
    simp [List.lookup]
  have X₁ : K.In h₁ := X.keeps k
  refine ks_wpAt_execs_cons (sup_part (s := { s with heap := h₁, toks := s.toks + 2 }) T F1 S hl rfl X₁ (hg.keeps k) (hb.keeps k) hbs hns hm0 (k _ _ hx) fun h2 tk2 t1 k2 hx2 => ?_)
  have hLx : s.heap.objs.size ≠ x := Nat.ne_of_gt (Heap.lt_size hx)
  have hns2 : h2.Ns s.heap.objs.size (fun y => ([("self", Value.ref x), (f, v)] : List (Str × Value)).reverse.lookup y) := by
    obtain ⟨o, es, ep, e, r⟩ := hns
    exact ⟨o, es, ep, k2 _ _ hLx e, r⟩
  have X2 : K.In h2 := fun a o e => k2 a o (fun z => by rw [z, hnx] at e; cases e) (X₁ a o e)
  refine wpAt_of_wpAny ?_
  show wpAny _ _ (execs [stoSt f q1 q2 q3 q4] _) _ _ _
  refine wpAny_execs_cons (plainObj_wpAny_Assign_Attribute ?_)
  refine ldX hns2 hm1 S.kind hf hfd (ldX hns2 hm0 S.kind S.slf rfl ?_)
  refine set_plain X2 (ox := excO C t1) (od := none) ⟨hx2, rfl, rfl, trivial⟩ T.ox.sa ?_
  refine exc_osa X2 hx2 hcl (show refsVE (.ref C :: bm) = true from hbm) rfl noF (fun h₃ tk₃ dx k₃ dn dne hx₃ hn₃ => ?_)
  show wpAny _ _ (execs [] _) _ _ _
  have z : s.heap.objs.size < h2.objs.size := hns2.lt
  exact wpAny_execs_nil (hq h₃ tk₃ dx ⟨fun b o hb e => k₃ b o hb (k2 b o hb (k b o e)), ⟨_, hx₃⟩, Nat.le_of_lt (Nat.lt_of_lt_of_le z dn), dne, hn₃⟩)
theorem err_init2 {f g : Str} {ps pf pg : Pos} {msg : Str} {j : Nat} {p0 p1 p2 p3 p4 p5 q1 q2 q3 q4 r1 r2 r3 r4 : Pos} (T : ErrC prog K mg C) (F1 : ErrFn prog K C fI (iArgs [("self", ps), (f, pf), (g, pg)]) [supSt msg j p0 p1 p2 p3 p4 p5, stoSt f q1 q2 q3 q4, stoSt g r1 r2 r3 r4] scope qual cda cc) (S : ErrSc scope) (hl : (p2.endLine == p4.line) = true)
    (hf : scope.names.lookup f = some .local) (hg0 : scope.names.lookup g = some .local) (B : Bnd2 f g) (noF : findIn K (.ref C) f = some none) (noG : findIn K (.ref C) g = some none) {x t0 : Addr} {v u : Value} {mb : Str → Option Value}
    (X : K.In s.heap) (hg : s.heap.Ns mainGlobals mg) (hb : s.heap.Ns builtinsNs mb) (hbs : mb "super" = some (.type "super")) (hlim : s.heap.NoLimit) (hx : s.heap.get? x = some (excO C t0)) (hnx : K.lookup x = none) (hroom : A.depth < recursionLimit)
    (hq : ∀ h' tk dx, InitEnd s.heap h' x C dx (two2 f g v u) → R (.ok (.ret .none)) { s with heap := h', toks := tk }) :
    codeAny (model prog w) A (.call (.ref fI) ⟨[.ref x, v, u], []⟩) R s := by
  obtain ⟨hfs, hgs, hfg, hfd, hgd, hbd⟩ := B
  obtain ⟨oc, od, doc, pm, an, ct, osl, ho⟩ := F1.lk
  obtain ⟨nm, q, N, bs, bm, sn, sub, ab, col, dd, k0, k1, k2, k3, k5, hC, hbm⟩ := T.ox.cls
  have hcl : clsIn K C = some { name := nm, bases := bs, mro := .ref C :: bm, ns := N, qualname := q, hasDict := true, slotNames := sn, subclasses := sub, abstract := ab, collection := col, hasDel := false } := by unfold clsIn; rw [hC] <;> rfl
  refine ks_codeAny_call_defAt (binds := [("self", .ref x), (f, v), (g, u)]) hroom (X _ _ ho) rfl hlim (codeRec_of X F1.cd) rfl (BindsTo.of_eq (hbd _ _ _ _ _ _ _ _ _ _ _ _ _ _ _)) S.cell (by
    intro y hy
    rcases List.mem_cons.mp hy with rfl | hy
    · exact S.slf
    · rcases List.mem_cons.mp hy with rfl | hy
      · exact hf
      · rcases List.mem_cons.mp hy with rfl | hy
        · exact hg0
        · cases hy) (fun h₁ hns k => ?_) S.co S.gen S.kind
  have hm0 : ([("self", Value.ref x), (f, v), (g, u)] : List (Str × Value)).reverse.lookup ("self" : Str) = some (.ref x) := by
    show List.lookup ("self" : Str) [(g, u), (f, v), ("self", .ref x)] = _
    have e : ((("self" : Str)) == f) = false := by simpa using Ne.symm hfs
    have e2 : ((("self" : Str)) == g) = false := by simpa using Ne.symm hgs
    simp [List.lookup, e, e2]
  have hm1 : ([("self", Value.ref x), (f, v), (g, u)] : List (Str × Value)).reverse.lookup f = some v := by
    show List.lookup f [(g, u), (f, v), ("self", .ref x)] = _
    have e : (f == g) = false := by simpa using hfg
    simp [List.lookup, e]
  have hm2 : ([("self", Value.ref x), (f, v), (g, u)] : List (Str × Value)).reverse.lookup g = some u := by
    show List.lookup g [(g, u), (f, v), ("self", .ref x)] = _
    simp [List.lookup]
  have X₁ : K.In h₁ := X.keeps k
  refine ks_wpAt_execs_cons (sup_part (s := { s with heap := h₁, toks := s.toks + 3 }) T F1 S hl rfl X₁ (hg.keeps k) (hb.keeps k) hbs hns hm0 (k _ _ hx) fun h2 tk2 t1 k2 hx2 => ?_)
  have hLx : s.heap.objs.size ≠ x := Nat.ne_of_gt (Heap.lt_size hx)
  have hns2 : h2.Ns s.heap.objs.size (fun y => ([("self", Value.ref x), (f, v), (g, u)] : List (Str × Value)).reverse.lookup y) := by
    obtain ⟨o, es, ep, e, r⟩ := hns
    exact ⟨o, es, ep, k2 _ _ hLx e, r⟩
  have X2 : K.In h2 := fun a o e => k2 a o (fun z => by rw [z, hnx] at e; cases e) (X₁ a o e)
  refine wpAt_of_wpAny ?_
  show wpAny _ _ (execs [stoSt f q1 q2 q3 q4, stoSt g r1 r2 r3 r4] _) _ _ _
  refine wpAny_execs_cons (plainObj_wpAny_Assign_Attribute ?_)
  refine ldX hns2 hm1 S.kind hf hfd (ldX hns2 hm0 S.kind S.slf rfl ?_)
  refine set_plain X2 (ox := excO C t1) (od := none) ⟨hx2, rfl, rfl, trivial⟩ T.ox.sa ?_
  refine exc_osa X2 hx2 hcl (show refsVE (.ref C :: bm) = true from hbm) rfl noF (fun h₃ tk₃ dx k₃ dn dne hx₃ hn₃ => ?_)
  show wpAny _ _ (execs [stoSt g r1 r2 r3 r4] _) _ _ _
  have z : s.heap.objs.size < h2.objs.size := hns2.lt
  have hns3 : h₃.Ns s.heap.objs.size (fun y => ([("self", Value.ref x), (f, v), (g, u)] : List (Str × Value)).reverse.lookup y) := by
    obtain ⟨o, es, ep, e, r⟩ := hns2
    exact ⟨o, es, ep, k₃ _ _ hLx e, r⟩
  have X3 : K.In h₃ := fun a o e => k₃ a o (fun z => by rw [z, hnx] at e; cases e) (X2 a o e)
  refine wpAny_execs_cons (plainObj_wpAny_Assign_Attribute ?_)
  refine ldX hns3 hm2 S.kind hg0 hgd (ldX hns3 hm0 S.kind S.slf rfl ?_)
  obtain ⟨oD, esD, epD, hoD, hdD, _⟩ := hn₃.count (Within.cons f v Within.nil)
  refine set_plain X3 (ox := { cls := .ref C, dict := some dx, data := .fields #[.ref t1, .none, .none, .none, .bool false, .none] }) (od := some oD) ⟨hx₃, rfl, rfl, hoD⟩ T.ox.sa ?_
  refine OEX.osa_old X3 hx₃ hn₃ (Within.cons f v Within.nil) (by show 1 ≤ 1000; decide) hcl (show refsVE (.ref C :: bm) = true from hbm) rfl noG (fun h4 tk4 k4 hn4 => ?_)
  show wpAny _ _ (execs [] _) _ _ _
  have dn' : s.heap.objs.size ≤ dx := Nat.le_of_lt (Nat.lt_of_lt_of_le z dn)
  exact wpAny_execs_nil (hq h4 tk4 dx ⟨fun b o hb e => k4 b o (Nat.ne_of_lt (Nat.lt_of_lt_of_le (Heap.lt_size e) dn')) (k₃ b o hb (k2 b o hb (k b o e))), ⟨_, k4 _ _ (Ne.symm dne) hx₃⟩, dn', dne, hn4⟩)

/-- C(..): a new exception, then its __init__ -/
theorem err_made {vs : List Value} {mA : Str → Option Value} (T : OexC K C) (iC : findIn K (.ref C) "__init__" = some (some (.ref fI))) (tI : typeIn K (.ref fI) = some (.type "function")) (hz : vs.length ≤ sizeLine)
    (hinit : ∀ (A : Around) (R : Result → Shared → Prop) (s1 : Shared) (x t0 : Addr), (∀ b o, s.heap.get? b = some o → s1.heap.get? b = some o) → s1.heap.get? x = some (excO C t0) → K.lookup x = none → A.depth < recursionLimit →
      (∀ h' tk dx, InitEnd s1.heap h' x C dx mA → R (.ok (.ret .none)) { s1 with heap := h', toks := tk }) → codeAny (model prog w) A (.call (.ref fI) ⟨.ref x :: vs, []⟩) R s1)
    (X : K.In s.heap) (hroom : A.depth + 1 < recursionLimit) (hq : ∀ h' tk e d, OwnMade s.heap h' e C d mA → R (.ok (.ret (.ref e))) { s with heap := h', toks := tk }) :
    codeAny (model prog w) A (.call (.ref C) ⟨vs, []⟩) R s := by
  obtain ⟨nm, q, N, bs, bm, sn, sub, ab, col, dd, k0, k1, k2, k3, k5, hC, hbm⟩ := T.cls
  obtain ⟨hp, g, dr, tk, os⟩ := s
  have k : ∀ b o, hp.get? b = some o → ((hp.push (kdv_tup vs)).push (excO C hp.objs.size)).get? b = some o := fun b o e => Heap.get?_push_of_some _ (Heap.get?_push_of_some _ e)
  have hget : ((hp.push (kdv_tup vs)).push (excO C hp.objs.size)).get? (hp.objs.size + 1) = some (excO C hp.objs.size) := by heap_get
  have hnx : K.lookup (hp.objs.size + 1) = none := by
    cases e : K.lookup (hp.objs.size + 1) with
    | none => rfl
    | some o =>
      have z : hp.get? (hp.objs.size + 1) = some o := X _ _ e
      exact absurd (Nat.lt_of_succ_lt (Heap.lt_size z)) (Nat.lt_irrefl _)
  refine call_own F.excBase_ValueError (fun X => refsVE_contains X bm hbm) (X _ _ hC) (looks_findIn X iC) (fun self => bind_fn X self tI) hz ?_
  refine hinit _ _ ⟨(hp.push (kdv_tup vs)).push (excO C hp.objs.size), g, dr, tk, os⟩ _ _ k hget hnx ?_ fun h' tk' dx ⟨k', ⟨t1, hx⟩, dn, dne, hns⟩ => ?_
  · show A.depth + 1 < recursionLimit
    exact hroom
  · have old : ∀ b o, hp.get? b = some o → h'.get? b = some o := fun b o e => k' b o (Nat.ne_of_lt (Nat.lt_succ_of_lt (Heap.lt_size e))) (k b o e)
    have z : hp.objs.size + 1 + 1 ≤ dx := by
      first
        | (simpa only [Heap.size_push] using dn)
        | exact dn
        | (have q := dn; rw [Heap.size_push, Heap.size_push] at q; exact q)
    exact ⟨rfl, hq h' tk' (hp.objs.size + 1) dx ⟨old, Nat.le_succ _, ⟨_, _, hx, rfl, rfl, rfl, rfl⟩, Nat.le_trans (Nat.le_trans (Nat.le_succ _) (Nat.le_succ _)) z, dne, hns⟩⟩
end
end Bt

set_option Elab.async false
set_option linter.all false
set_option maxRecDepth 100000
set_option maxHeartbeats 2000000
namespace Bt
open PySem PySem.Spec PySem.Calls PyProof.Rows L2 PySem.W PySem.HandSPX

/-- C(..) makes an error with these fields -/
def EMk (prog : Program) (w : World) (K : Frag) (mg : Str → Option Value) (C : Addr) (ns : List Str) : Prop := ∀ (A : Around) (R : Result → Shared → Prop) (s : Shared) (vs : List Value) (mb : Str → Option Value), vs.length = ns.length → K.In s.heap → s.heap.Ns mainGlobals mg → s.heap.Ns builtinsNs mb → mb "super" = some (.type "super") → s.heap.NoLimit → A.depth + 1 < recursionLimit →
  (∀ h' tk e d mA, OwnMade s.heap h' e C d mA → (∀ y, mA y = List.lookup y (ns.zip vs).reverse) → R (.ok (.ret (.ref e))) { s with heap := h', toks := tk }) → codeAny (model prog w) A (.call (.ref C) ⟨vs, []⟩) R s
section
variable {prog : Program} {w : World} {K : Frag} {mg : Str → Option Value} {C fI cda cc : Addr} {scope : Scope} {qual : Str}
theorem emk1 {f : Str} {ps pf : Pos} {msg : Str} {j : Nat} {p0 p1 p2 p3 p4 p5 q1 q2 q3 q4 : Pos} (T : ErrC prog K mg C) (F1 : ErrFn prog K C fI (iArgs [("self", ps), (f, pf)]) [supSt msg j p0 p1 p2 p3 p4 p5, stoSt f q1 q2 q3 q4] scope qual cda cc) (S : ErrSc scope) (hl : (p2.endLine == p4.line) = true)
    (hf : scope.names.lookup f = some .local) (B : Bnd1 f) (noF : findIn K (.ref C) f = some none) : EMk prog w K mg C [f] := by
  intro A R s vs mb hv X hg hb hbs hlim hroom hq
  match vs, hv with
  | [v], _ =>
    refine err_made (mA := one1 f v) T.ox F1.iC F1.tI (by rw [sizeLine_eq]; exact (by decide : 1 ≤ 16777216)) (fun A R s1 x t0 k hx hnx hr hq => ?_) X hroom fun h' tk e d M => hq h' tk e d _ M fun y => ?_
    · exact err_init1 T F1 S hl hf B noF (X.keeps k) (hg.keeps k) (hb.keeps k) hbs (hlim.keeps k) hx hnx hr hq
    · show one1 f v y = List.lookup y [(f, v)]
      unfold one1
      by_cases e : y = f
      · subst e; simp
      · rw [if_neg e]
        have : (y == f) = false := by simpa using e
        simp [List.lookup, this]
theorem emk2 {f g : Str} {ps pf pg : Pos} {msg : Str} {j : Nat} {p0 p1 p2 p3 p4 p5 q1 q2 q3 q4 r1 r2 r3 r4 : Pos} (T : ErrC prog K mg C) (F1 : ErrFn prog K C fI (iArgs [("self", ps), (f, pf), (g, pg)]) [supSt msg j p0 p1 p2 p3 p4 p5, stoSt f q1 q2 q3 q4, stoSt g r1 r2 r3 r4] scope qual cda cc) (S : ErrSc scope) (hl : (p2.endLine == p4.line) = true)
    (hf : scope.names.lookup f = some .local) (hg0 : scope.names.lookup g = some .local) (B : Bnd2 f g) (noF : findIn K (.ref C) f = some none) (noG : findIn K (.ref C) g = some none) : EMk prog w K mg C [f, g] := by
  intro A R s vs mb hv X hg hb hbs hlim hroom hq
  match vs, hv with
  | [v, u], _ =>
    refine err_made (mA := two2 f g v u) T.ox F1.iC F1.tI (by rw [sizeLine_eq]; exact (by decide : 2 ≤ 16777216)) (fun A R s1 x t0 k hx hnx hr hq => ?_) X hroom fun h' tk e d M => hq h' tk e d _ M fun y => ?_
    · exact err_init2 T F1 S hl hf hg0 B noF noG (X.keeps k) (hg.keeps k) (hb.keeps k) hbs (hlim.keeps k) hx hnx hr hq
    · show two2 f g v u y = List.lookup y [(g, u), (f, v)]
      unfold two2
      by_cases e : y = g
      · subst e; simp
      · rw [if_neg e]
        have h1 : (y == g) = false := by simpa using e
        by_cases e : y = f
        · subst e; simp [List.lookup, h1]
        · rw [if_neg e]
          have h2 : (y == f) = false := by simpa using e
          simp [List.lookup, h1, h2]
end
theorem relO_zip : ∀ {ns : List Str} {vs : List V} {us : List Value}, Vals vs us → ∀ f, RelO (List.lookup f (ns.zip vs).reverse) (List.lookup f (ns.zip us).reverse) := by
  have key : ∀ {ns : List Str} {vs : List V} {us : List Value}, Vals vs us → ∀ (a : List (Str × V)) (b : List (Str × Value)), (∀ f, RelO (List.lookup f a) (List.lookup f b)) → ∀ f, RelO (List.lookup f ((ns.zip vs).reverse ++ a)) (List.lookup f ((ns.zip us).reverse ++ b)) := by
    intro ns
    induction ns with
    | nil => intro vs us _ a b h f; simpa using h f
    | cons n ns ih =>
      intro vs us r a b h f
      cases r with
      | nil => simpa using h f
      | cons rv rr =>
        rename_i v u vs us
        simp only [List.zip_cons_cons, List.reverse_cons, List.append_assoc, List.singleton_append]
        refine ih rr _ _ (fun g => ?_) f
        by_cases e : g = n
        · subst e; simp [List.lookup]; exact rv
        · have q : (g == n) = false := by simpa using e
          simp only [List.lookup, q]
          exact h g
  intro ns vs us r f
  have := key r [] [] (fun _ => trivial) f (ns := ns)
  simpa using this
section
variable {X : Cx} {C : Addr}
def tMkE (C : Addr) (ns : List Str) (ta : TA) : L2.St → Hp → XK → Prop := fun σ H Q => ta σ H fun vs H1 => vs.length = ns.length ∧ ∀ d, H1 d = none → Q (.ref C) (some d) (upd H1 d (.xd (ns.zip vs).reverse))
theorem pmk_err {x : Str} {ns : List Str} {a : Expr} {es : List Expr} {ta : TA} {p pos : Pos} {k : Nat} (T : OexC X.K C) (M : EMk X.prog X.w X.K X.mg C ns) (hr : Room k X.A) (gC : X.mg x = some (.ref C)) (ha : PA X (a :: es) ta) (hg : Gl X x) (hdb : (x == ("__debug__" : Str)) = false)
    (he : starEach (a :: es) X.env = (false, eval a X.env) :: starEach es X.env) (hpl : (backTo pos (starEach es X.env)).any (·.1) = false) :
    PMk X (.Call (.Name x p) (a :: es) [] pos) (tMkE C ns ta) := by
  intro pins s σ H Q I h
  refine wpAny_Call_Name_kw (ld_glob I hg gC ?_ hdb)
  refine PySem.W.callWith_K (h₀ := X.base) I.ok.mod.kin T.kC (thn (ha.run pos pins s σ H _ I h) fun us s1 hh => ?_) he hpl
  obtain ⟨vs, H1, I1, r1, hv, q1⟩ := hh
  refine ⟨I1.kIn, ?_⟩
  show wpAny _ _ (call (.ref C) us) _ _ _
  have hlim := I1.nolimit
  obtain ⟨mb, b1, b2⟩ := I1.mod.blt
  have hgl := I1.mod.glob.keeps I1.bk
  have hbl := b1.keeps I1.bk
  obtain ⟨hp, g, dr, tk, os⟩ := s1
  refine wpAny_call (M _ _ ⟨hp, g, dr, tk, os⟩ us mb (by rw [← r1.length]; exact hv) I1.kIn hgl hbl ((b2 _ (by decide)).trans (by kernel_rfl)) hlim (by have := hr.dp; omega) fun h' tk' e d mA M hmA => ?_)
  show MkP X pins σ Q (.ref e) ⟨h', g, dr, tk', os⟩
  obtain ⟨oe, fv, hoe, hc, hd, hdat, h1⟩ := M.obj
  have hns := M.ns
  obtain ⟨G', g1, g2⟩ := restrict h' fun b => decide (b ≠ e)
  have gk : ∀ b, b ≠ e → G'.get? b = h'.get? b := fun b hb => g1 b (decide_eq_true hb)
  have ge : G'.get? e = none := g2 e (by simp)
  have old : ∀ b o, hp.get? b = some o → G'.get? b = some o := fun b o q => (gk b (Nat.ne_of_lt (Nat.lt_of_lt_of_le (Heap.lt_size q) M.new))).trans (M.keep b o q)
  have ob : ObjOk X.prog X.w (upd H1 d (.xd (ns.zip vs).reverse)) G' d (.xd (ns.zip vs).reverse) :=
    ⟨_, hns.at (fun o q => (gk d M.dne).trans q), fun f => by rw [hmA]; exact relO_zip r1 f⟩
  have J : Inv X pins σ (upd H1 d (.xd (ns.zip vs).reverse)) ⟨G', g, dr, tk', os⟩ := I1.laid (t' := tk') old M.dbig ob
  refine ⟨e, oe, fv, ⟨G', g, dr, tk', os⟩, _, .ref C, some d, rfl, J, fun b o q => ?_, ge, hoe, ⟨hc, hd⟩, hdat, h1, ?_, rfl, I1.bare, raises_own T.exC T.tyC, q1 d (I1.hok.fresh M.dbig)⟩
  · by_cases hb : b = e
    · have q' : G'.get? b = some o := q
      rw [hb, ge] at q'; cases q'
    · exact (gk b hb).symm.trans q
  · rw [upd_ne (Ne.symm M.dne)]
    exact I1.hok.fresh M.new
end

/-! ### raise -/
/-- the errors: some ns: with fields; none: with a text -/
structure GX (C : Ctx) (X : Cx) (er : Str → Option (Option (List Str))) : Prop where
  fl : ∀ c ns, er c = some (some ns) → ∃ k, C.mg c = some (.ref k) ∧ OexC C.K k ∧ EMk X.prog X.w C.K C.mg k ns
  tx : ∀ c, er c = some none → ∃ k, C.mg c = some (.ref k) ∧ excIn C.K k veTail "ValueError.__new__" = true ∧ keepIn C.K (.ref k) = true ∧ subIn C.K (.ref k) (.type "BaseException") = some true ∧ typeIn C.K (.ref k) = some (.type "type")
def seqA (r : Rs (List D)) (env : Env) (f : List D → Sto → Rs Fl) : Rs Fl := match r with
  | .ok d S => f d S
  | .exc x S => .ok (.xc x env) S
  | .fail => .fail
def sRaise (c : Str) (ns : List Str) (m : MA) : MS := fun env S => seqA (m env S) env fun ds S => if ds.length = ns.length then .ok (.xc ⟨c, (ns.zip ds).reverse⟩ env) S else .fail
def sRaiseT (c : Str) : MS := fun env S => .ok (.xc ⟨c, []⟩ env) S
section
variable {C : Ctx} {X : Cx} {W : WX} {er : Str → Option (Option (List Str))} {pos pos2 p : Pos}
theorem reps_zip {mp : List Addr} {H : Hp} {ns : List Str} {ds : List D} {vs : List V} (r : Reps C mp H ds vs) (h : ds.length = ns.length) : RepFs C mp H (ns.zip ds).reverse (ns.zip vs).reverse := by
  have hl := r.length
  constructor
  · rw [List.map_reverse, List.map_reverse, List.map_fst_zip (by omega), List.map_fst_zip (by omega)]
  · rw [List.map_reverse, List.map_reverse, List.map_snd_zip (by omega), List.map_snd_zip (by omega)]
    exact r.reverse
theorem z_raise {x : Str} {ns : List Str} {a : Expr} {es : List Expr} {m : MA} {k : Nat} (G : GX C X er) (hx : er x = some (some ns)) (hK : X.K = C.K) (hm : X.mg = C.mg) (hc : X.calm = true) (tk : Takes X W) (hr : Room k X.A) (ha : SA C X W (a :: es) m) (hg : Gl X x) (hdb : (x == ("__debug__" : Str)) = false)
    (he : starEach (a :: es) X.env = (false, eval a X.env) :: starEach es X.env) (hpl : (backTo pos (starEach es X.env)).any (·.1) = false) : SS C X W (.Raise (some (.Call (.Name x p) (a :: es) [] pos)) none pos2) (sRaise x ns m) := by
  obtain ⟨k1, e1, ox, M⟩ := G.fl x ns hx
  rw [← hK, ← hm] at M
  rw [← hK] at ox
  refine (ps_raise hc tk (pmk_err ox M hr (hm ▸ e1) ha hg hdb he hpl)).imp fun Dd σ H ⟨mp, env, S, hR, hE, h⟩ => ?_
  refine ⟨mp, env, S, hR, hE, ?_⟩
  unfold sRaise seqA at h
  cases q : m env S with
  | fail => rw [q] at h; exact h
  | exc x S1 =>
    rw [q] at h
    exact fun mp1 H1 cls dd p1 l1 R1 r => h mp1 H1 σ cls dd p1 l1 R1 (hE.mono p1 l1) r
  | ok ds S1 =>
    rw [q] at h
    dsimp only at h
    intro mp1 H1 vs p1 l1 R1 r1
    by_cases z : ds.length = ns.length
    · rw [if_pos z] at h
      refine ⟨by rw [← r1.length]; exact z, fun d hd => ?_⟩
      have le : HLe H1 (upd H1 d (.xd (ns.zip vs).reverse)) := HLe.new hd
      exact h mp1 _ σ (.ref k1) (some d) p1 (l1.trans le) (R1.new hd) (hE.mono p1 (l1.trans le)) ⟨k1, e1, rfl, .inr ⟨d, _, rfl, upd_same, (reps_zip r1 z).mono (List.prefix_refl _) le⟩⟩
    · rw [if_neg z] at h; exact h.elim
theorem z_raiseT {x m : Str} {j : Nat} {p2 : Pos} (G : GX C X er) (hx : er x = some none) (hK : X.K = C.K) (hm : X.mg = C.mg) (hc : X.calm = true) (tk : Takes X W) (hg : Gl X x) (hdb : (x == ("__debug__" : Str)) = false) : SS C X W (.Raise (some (.Call (.Name x p) [.Constant (.str m) j p2] [] pos)) none pos2) (sRaiseT x) := by
  obtain ⟨k1, e1, h2, h3, h4, h5⟩ := G.tx x hx
  rw [← hK] at h2 h3 h4 h5
  refine (ps_raise hc tk (pmk_own F.excBase_ValueError h2 (hm ▸ e1) h3 (raises_own h4 h5) hg hdb)).imp fun Dd σ H ⟨mp, env, S, hR, hE, h⟩ => ?_
  exact h mp H σ (.ref k1) none (List.prefix_refl _) (HLe.refl _) hR hE ⟨k1, e1, rfl, .inl ⟨rfl, rfl⟩⟩
end

/-! ### try -/
theorem _root_.Bt.Rep.er {C C' : Ctx} (hK : C'.K = C.K) (hm : C'.mg = C.mg) {mp : List Addr} {H : Hp} {d : D} {v : V} (r : Rep C mp H d v) : Rep C' mp H d v := by
  refine Rep.rec (motive_1 := fun d v _ => Rep C' mp H d v) (motive_2 := fun ds vs _ => Reps C' mp H ds vs) ?_ ?_ ?_ ?_ ?_ ?_ ?_ ?_ ?_ ?_ ?_ r
  · exact .non
  · exact fun b => .bl b
  · exact fun b => .int b
  · exact fun b => .str b
  · exact fun q _ ih => .tup (by rw [hK]; exact q) ih
  · exact fun q => .ref q
  · exact fun q => .glo (by rw [hm]; exact q)
  · exact fun n => .ty n
  · exact fun q _ ih => .fz (by rw [hK]; exact q) ih
  · exact .nil
  · exact fun _ _ a b => .cons a b
theorem _root_.Bt.Reps.er {C C' : Ctx} (hK : C'.K = C.K) (hm : C'.mg = C.mg) {mp : List Addr} {H : Hp} : ∀ {ds : List D} {vs : List V}, Reps C mp H ds vs → Reps C' mp H ds vs
  | _, _, .nil => .nil
  | _, _, .cons r t => .cons (r.er hK hm) (Reps.er hK hm t)
section
variable {C C' : Ctx} {mp : List Addr} {S : Sto} {H : Hp}
theorem RepO.er (hK : C'.K = C.K) (hm : C'.mg = C.mg) {a : Addr} {o : Ob} (r : RepO C mp H a o) : RepO C' mp H a o := by
  cases o with
  | lst ds => obtain ⟨vs, q, t⟩ := r; exact ⟨vs, q, t.er hK hm⟩
  | ro ds => obtain ⟨o, vs, q, t⟩ := r; exact ⟨o, vs, q, t.er hK hm⟩
  | dic ds => obtain ⟨vs, q, t⟩ := r; exact ⟨vs, q, t.1, t.2.er hK hm⟩
  | ins c fs => obtain ⟨k, dx, gs, q1, q, t⟩ := r; exact ⟨k, dx, gs, by rw [hm]; exact q1, q, t.1, t.2.er hK hm⟩
theorem Rel.er (hK : C'.K = C.K) (hm : C'.mg = C.mg) (r : Rel C mp S H) : Rel C' mp S H := ⟨r.len, r.nd, fun n o a h1 h2 => (r.ob n o a h1 h2).er hK hm⟩
theorem RepX.er (hK : C'.K = C.K) (hm : C'.mg = C.mg) {x : Exc} {cls : Value} {dd : Option Addr} (r : RepX C mp H x cls dd) : RepX C' mp H x cls dd := by
  obtain ⟨k, h1, h2, h3⟩ := r
  refine ⟨k, by rw [hm]; exact h1, h2, ?_⟩
  rcases h3 with h3 | ⟨d, gs, e1, e2, e3⟩
  · exact .inl h3
  · exact .inr ⟨d, gs, e1, e2, e3.1, e3.2.er hK hm⟩
end
/-- inside an except suite -/
def Ctx.in_ (C : Ctx) (q : ErI) : Ctx := { C with er := some q }
def wipeR (i : Nat) (r : Rs Fl) : Rs Fl := match r with
  | .ok (.nx e) S => .ok (.nx (e.set i none)) S
  | .ok (.bk e) S => .ok (.bk (e.set i none)) S
  | .ok (.ct e) S => .ok (.ct (e.set i none)) S
  | .ok (.rt d) S => .ok (.rt d) S
  | _ => .fail
/-- try: body; except c as n: suite. mt: does the clause take an error of this class? -/
def sTryAs (mt : Str → Option Bool) (i : Nat) (body : MS) (suite : Exc → MS) : MS := fun env S => match body env S with
  | .ok (.xc x e) S' => (match mt x.c with
    | some true => wipeR i (suite x (e.set i (some .exc)) S')
    | some false => .ok (.xc x e) S'
    | none => .fail)
  | q => q
def noXc (r : Rs Fl) : Rs Fl := match r with
  | .ok (.xc _ _) _ => .fail
  | q => q
def sTry (mt : Str → Option Bool) (body : MS) (suite : Exc → MS) : MS := fun env S => match body env S with
  | .ok (.xc x e) S' => (match mt x.c with
    | some true => noXc (suite x e S')
    | some false => .ok (.xc x e) S'
    | none => .fail)
  | q => q
def WF : WX := fun _ _ _ _ => False
theorem takesF {X : Cx} : Takes X WF := fun u s' ⟨a, B, sI, pins, σ, H, cls, d, e, I, nb, up, sky, na, os, ag, w⟩ => w.elim
/-- the reading of an except suite that holds the error at a -/
def TSu (C : Ctx) (i : Option Nat) (suite : Exc → MS) (a : Addr) (cls : Value) (d : Option Addr) : TS := fun Dd σ H => ∃ x mp env S, Rel C mp S H ∧ EnvR (C.in_ ⟨i, a, x, cls, d⟩) mp H env σ ∧ PostS (C.in_ ⟨i, a, x, cls, d⟩) mp H (suite x env S) Dd WF
/-- what is wanted of the suite's meaning -/
def SSu (C : Ctx) (X : Cx) (i : Option Nat) (st : List Stmt) (suite : Exc → MS) : Prop := ∀ (a : Addr) (oe : Obj) (cls : Value) (d : Option Addr) (pn : List (Addr × Obj)) (x : Exc), Zc cls d oe → (∃ vs, oe.data = .fields vs) → SSs (C.in_ ⟨i, a, x, cls, d⟩) (X.suite a ((a, oe) :: pn)) WF st (suite x)
/-- which errors a clause takes -/
structure Mt (C : Ctx) (c : Value) (mt : Str → Option Bool) : Prop where
  at_ : ∀ x b k, mt x = some b → C.mg x = some (.ref k) → exmOne C.K (.ref k) c = some b
section
variable {C : Ctx} {X : Cx} {W : WX} {pos pos' np : Pos} {c : Value} {x : Str} {body su : List Stmt} {b0 : Stmt} {mb : MS} {ms : Exc → MS} {mt : Str → Option Bool}
theorem su_run {i : Option Nat} (h : SSu C X i su ms) (a : Addr) (oe : Obj) (cls : Value) (d : Option Addr) (pn : List (Addr × Obj)) (hz : Zc cls d oe) (hf : ∃ vs, oe.data = .fields vs) : PSs (X.suite a ((a, oe) :: pn)) su (TSu C i ms a cls d) :=
  ⟨fun pins s σ H Dd I ⟨x, mp, env, S, hR, hE, hp⟩ => (h a oe cls d pn x hz hf).run pins s σ H Dd I ⟨mp, env, S, hR.er (C := C) (C' := C.in_ _) rfl rfl, hE, hp⟩⟩
theorem env_in {mp : List Addr} {H : Hp} {env : Env} {σ : L2.St} {i : Nat} {q : ErI} (h0 : C.er = none) (qi : q.i = some i) (hE : EnvR C mp H env σ) (r : RepX C mp H q.x q.cls q.d) : EnvR (C.in_ q) mp H (env.set i (some .exc)) (σ.set i (some (.ref q.a))) := by
  refine ⟨by simp [hE.len], fun j d e ne => ?_, fun q' hq => ?_, fun j e => ?_⟩
  · by_cases hj : i = j
    · subst hj
      have hl : i < env.length := by
        have z := (List.getElem?_eq_some_iff.mp e).1
        simpa using z
      rw [List.getElem?_set_self hl] at e
      cases e
      exact absurd rfl ne
    · rw [List.getElem?_set_ne hj] at e ⊢
      obtain ⟨v, h1, h2⟩ := hE.at_ j d e ne
      exact ⟨v, h1, h2.er (C := C) (C' := C.in_ q) rfl rfl⟩
  · cases hq
    exact r.er (C := C) (C' := C.in_ _) rfl rfl
  · by_cases hj : i = j
    · subst hj
      have hl : i < env.length := by
        have z := (List.getElem?_eq_some_iff.mp e).1
        simpa using z
      exact ⟨q, rfl, qi, by rw [List.getElem?_set_self (by rw [← hE.len]; exact hl)]⟩
    · rw [List.getElem?_set_ne hj] at e
      obtain ⟨q2, e2, _⟩ := hE.ex j e
      rw [h0] at e2; cases e2
theorem env_in0 {mp : List Addr} {H : Hp} {env : Env} {σ : L2.St} {q : ErI} (h0 : C.er = none) (hE : EnvR C mp H env σ) (r : RepX C mp H q.x q.cls q.d) : EnvR (C.in_ q) mp H env σ := by
  refine ⟨hE.len, fun j d e ne => ?_, fun q' hq => ?_, fun j e => ?_⟩
  · obtain ⟨v, h1, h2⟩ := hE.at_ j d e ne
    exact ⟨v, h1, h2.er (C := C) (C' := C.in_ q) rfl rfl⟩
  · cases hq
    exact r.er (C := C) (C' := C.in_ _) rfl rfl
  · obtain ⟨q2, e2, _⟩ := hE.ex j e
    rw [h0] at e2; cases e2
theorem env_out {mp : List Addr} {H : Hp} {env : Env} {σ : L2.St} {i : Nat} {q : ErI} (h0 : C.er = none) (qi : q.i = some i) (hE : EnvR (C.in_ q) mp H env σ) : EnvR C mp H (env.set i none) (σ.set i none) := by
  have hE2 := hE.unset i
  refine ⟨hE2.len, fun j d e ne => ?_, fun q' hq => ?_, fun j e => ?_⟩
  · obtain ⟨v, h1, h2⟩ := hE2.at_ j d e ne
    exact ⟨v, h1, h2.er (C := C.in_ q) (C' := C) rfl rfl⟩
  · rw [h0] at hq; cases hq
  · obtain ⟨q2, e2, e3, e4⟩ := hE2.ex j e
    cases e2
    rw [qi] at e3
    cases e3
    exfalso
    by_cases hl : i < env.length
    · rw [List.getElem?_set_self hl] at e; cases e
    · rw [List.getElem?_eq_none (by simpa using hl)] at e; cases e
theorem env_out0 {mp : List Addr} {H : Hp} {env : Env} {σ : L2.St} {q : ErI} (h0 : C.er = none) (qi : q.i = none) (hE : EnvR (C.in_ q) mp H env σ) : EnvR C mp H env σ := by
  refine ⟨hE.len, fun j d e ne => ?_, fun q' hq => ?_, fun j e => ?_⟩
  · obtain ⟨v, h1, h2⟩ := hE.at_ j d e ne
    exact ⟨v, h1, h2.er (C := C.in_ q) (C' := C) rfl rfl⟩
  · rw [h0] at hq; cases hq
  · obtain ⟨q2, e2, e3, e4⟩ := hE.ex j e
    cases e2
    rw [qi] at e3
    cases e3
/-- what the suite leaves -/
theorem su_out {mp : List Addr} {H : Hp} {r : Rs Fl} {Dd : Ends} {i : Nat} {q : ErI} (h0 : C.er = none) (qi : q.i = some i) (h : PostS C mp H (wipeR i r) Dd W) :
    PostS (C.in_ q) mp H r { nx := fun σ' H' => Dd.nx (σ'.set i none) H', rt := Dd.rt, bk := fun σ' H' => Dd.bk (σ'.set i none) H', ct := fun σ' H' => Dd.ct (σ'.set i none) H' } WF := by
  cases r with
  | fail => exact h
  | exc x S => exact h
  | ok fl S =>
    cases fl with
    | nx e => exact fun mp1 H1 σ1 p1 l1 R1 E1 => h mp1 H1 _ p1 l1 (R1.er (C := C.in_ q) (C' := C) rfl rfl) (env_out h0 qi E1)
    | bk e => exact fun mp1 H1 σ1 p1 l1 R1 E1 => h mp1 H1 _ p1 l1 (R1.er (C := C.in_ q) (C' := C) rfl rfl) (env_out h0 qi E1)
    | ct e => exact fun mp1 H1 σ1 p1 l1 R1 E1 => h mp1 H1 _ p1 l1 (R1.er (C := C.in_ q) (C' := C) rfl rfl) (env_out h0 qi E1)
    | rt d => exact fun mp1 H1 v p1 l1 R1 r1 => h mp1 H1 v p1 l1 (R1.er (C := C.in_ q) (C' := C) rfl rfl) (r1.er (C := C.in_ q) (C' := C) rfl rfl)
    | xc x e => exact h.elim
theorem su_out0 {mp : List Addr} {H : Hp} {r : Rs Fl} {Dd : Ends} {q : ErI} (h0 : C.er = none) (qi : q.i = none) (h : PostS C mp H (noXc r) Dd W) : PostS (C.in_ q) mp H r Dd WF := by
  cases r with
  | fail => exact h
  | exc x S => exact h
  | ok fl S =>
    cases fl with
    | nx e => exact fun mp1 H1 σ1 p1 l1 R1 E1 => h mp1 H1 _ p1 l1 (R1.er (C := C.in_ q) (C' := C) rfl rfl) (env_out0 h0 qi E1)
    | bk e => exact fun mp1 H1 σ1 p1 l1 R1 E1 => h mp1 H1 _ p1 l1 (R1.er (C := C.in_ q) (C' := C) rfl rfl) (env_out0 h0 qi E1)
    | ct e => exact fun mp1 H1 σ1 p1 l1 R1 E1 => h mp1 H1 _ p1 l1 (R1.er (C := C.in_ q) (C' := C) rfl rfl) (env_out0 h0 qi E1)
    | rt d => exact fun mp1 H1 v p1 l1 R1 r1 => h mp1 H1 v p1 l1 (R1.er (C := C.in_ q) (C' := C) rfl rfl) (r1.er (C := C.in_ q) (C' := C) rfl rfl)
    | xc x e => exact h.elim
theorem z_tryAs {i : Nat} {n : Str} (h0 : C.er = none) (hK : X.K = C.K) (hs : X.stack = X.env :: X.outer) (hf : X.env.frame = some X.env.locals) (hN : X.N.Nodup) (hi : X.N[i]? = some n) (hln : X.env.kindOf n = some .local) (hc : Names X x c) (M : Mt C c mt) (tk : Takes X W)
    (hb : ∀ (W : WX) (pn : List (Addr × Obj)) (xe : Value → Shared → Prop), Takes (X.tr pn xe) W → PassesOwn (model X.prog X.w) X.A X.env xe → SSs C (X.tr pn xe) W body mb) (hsu : SSu C X (some i) (b0 :: su) ms) :
    SS C X W (.Try body [.ExceptHandler (some (.Name x np)) (some n) (b0 :: su) pos'] [] [] pos) (sTryAs mt i mb ms) := by
  refine (ps_try_as (i := i) (tb := fun W => TZ C W mb) (ts := TSu C (some i) ms) (Wout := W) hs hf hN hi hln hc tk hb (su_run hsu)).imp fun Dd σ H ⟨mp, env, S, hR, hE, h⟩ => ?_
  refine ⟨mp, env, S, hR, hE, ?_⟩
  unfold sTryAs at h
  cases q : mb env S with
  | fail => rw [q] at h; exact h
  | exc x S1 => rw [q] at h; exact h
  | ok fl S1 =>
    rw [q] at h
    cases fl with
    | nx e => exact h
    | bk e => exact h
    | ct e => exact h
    | rt d => exact h
    | xc x e =>
      intro mp1 H1 σ1 cls dd p1 l1 R1 E1 r1
      have h1 := PostS.mono p1 l1 h
      dsimp only at h1
      cases z : mt x.c with
      | none => rw [z] at h1; exact h1.elim
      | some b =>
        rw [z] at h1
        obtain ⟨k, hk, ek, _⟩ := id r1
        refine ⟨b, by rw [ek, hK]; exact M.at_ _ _ _ z hk, fun hb a ha => ?_, fun hb => ?_⟩
        · subst hb
          exact ⟨x, mp1, e.set i (some .exc), S1, R1, env_in (q := ⟨some i, a, x, cls, dd⟩) h0 rfl E1 r1, su_out h0 rfl h1⟩
        · subst hb
          exact h1 mp1 H1 σ1 cls dd (List.prefix_refl _) (HLe.refl _) R1 E1 r1
theorem z_try (h0 : C.er = none) (hK : X.K = C.K) (hs : X.stack = X.env :: X.outer) (hf : X.env.frame = some X.env.locals) (hc : Names X x c) (M : Mt C c mt) (tk : Takes X W)
    (hb : ∀ (W : WX) (pn : List (Addr × Obj)) (xe : Value → Shared → Prop), Takes (X.tr pn xe) W → PassesOwn (model X.prog X.w) X.A X.env xe → SSs C (X.tr pn xe) W body mb) (hsu : SSu C X none (b0 :: su) ms) :
    SS C X W (.Try body [.ExceptHandler (some (.Name x np)) none (b0 :: su) pos'] [] [] pos) (sTry mt mb ms) := by
  refine (ps_try_only (tb := fun W => TZ C W mb) (ts := TSu C none ms) (Wout := W) hs hf hc tk hb (su_run hsu)).imp fun Dd σ H ⟨mp, env, S, hR, hE, h⟩ => ?_
  refine ⟨mp, env, S, hR, hE, ?_⟩
  unfold sTry at h
  cases q : mb env S with
  | fail => rw [q] at h; exact h
  | exc x S1 => rw [q] at h; exact h
  | ok fl S1 =>
    rw [q] at h
    cases fl with
    | nx e => exact h
    | bk e => exact h
    | ct e => exact h
    | rt d => exact h
    | xc x e =>
      intro mp1 H1 σ1 cls dd p1 l1 R1 E1 r1
      have h1 := PostS.mono p1 l1 h
      dsimp only at h1
      cases z : mt x.c with
      | none => rw [z] at h1; exact h1.elim
      | some b =>
        rw [z] at h1
        obtain ⟨k, hk, ek, _⟩ := id r1
        refine ⟨b, by rw [ek, hK]; exact M.at_ _ _ _ z hk, fun hb a ha => ?_, fun hb => ?_⟩
        · subst hb
          exact ⟨x, mp1, e, S1, R1, env_in0 (q := ⟨none, a, x, cls, dd⟩) h0 E1 r1, su_out0 h0 rfl h1⟩
        · subst hb
          exact h1 mp1 H1 σ1 cls dd (List.prefix_refl _) (HLe.refl _) R1 E1 r1
end
end Bt

set_option Elab.async false
set_option linter.all false
set_option maxRecDepth 100000
set_option maxHeartbeats 2000000
namespace Bt
open PySem PySem.Spec PySem.Calls PyProof.Rows L2 PySem.W PySem.HandSPX

/-- what an except suite asks of its error's class -/
structure GE (C : Ctx) (xf : Str → Str → Bool) (xi : Str → Bool) : Prop where
  fld : ∀ c f, xf c f = true → ∃ k, C.mg c = some (.ref k) ∧ XfC C.K k ∧ findIn C.K (.ref k) f = some none
  is_ : ∀ c, xi c = true → ∃ k, C.mg c = some (.ref k) ∧ ExcC C.K k
theorem pe_no {X : Cx} {e : Expr} {t : TE} (h : ∀ σ H Q, ¬ t σ H Q) : PE X e t := ⟨fun pins s σ H Q I w => (h σ H Q w).elim⟩
/-- e.f -/
def mErrF (xf : Str → Str → Bool) (i : Nat) (x : Exc) (f : Str) : ME := fun env S => match env[i]? with
  | some (some .exc) => if xf x.c f then (match x.fs.lookup f with
    | some d => .ok d S
    | none => .fail) else .fail
  | _ => .fail
/-- isinstance(e, c) -/
def mErrI (Γ : GEnv) (xi : Str → Bool) (i : Nat) (x : Exc) (c : ME) : ME := fun env S => match env[i]? with
  | some (some .exc) => (c env S).bind fun d S => if xi x.c then (match tyC d with
    | some u => (match Γ.isi (.o x.c) u with
      | some b => .ok (.bl b) S
      | none => .fail)
    | none => .fail) else .fail
  | _ => .fail
section
variable {C : Ctx} {X : Cx} {W : WX} {Γ : GEnv} {xf : Str → Str → Bool} {xi : Str → Bool} {a : Addr} {oe : Obj} {cls : Value} {d : Option Addr} {pn : List (Addr × Obj)} {x : Exc} {i : Nat} {n f : Str} {pos p : Pos}
theorem lookup_fs {C : Ctx} {mp : List Addr} {H : Hp} {f : Str} {v : D} : ∀ {fs : List (Str × D)} {gs : List (Str × V)}, RepFs C mp H fs gs → fs.lookup f = some v → ∃ u, gs.lookup f = some u ∧ Rep C mp H v u
  | [], _, _, e => by cases e
  | _ :: _, [], r, _ => by have := r.1; simp at this
  | (k1, d1) :: fs, (k2, v2) :: gs, r, e => by
    obtain ⟨r1, r2⟩ := r
    simp only [List.map_cons, List.cons.injEq] at r1
    obtain ⟨e1, r1⟩ := r1
    subst e1
    cases r2 with
    | cons rx rr =>
      unfold List.lookup at e ⊢
      cases q : f == k1 with
      | true => rw [q] at e; cases e; exact ⟨v2, rfl, rx⟩
      | false => rw [q] at e; exact lookup_fs ⟨r1, rr⟩ e
theorem s_errF (G : GE C xf xi) (hK : X.K = C.K) (hN : X.N[i]? = some n) (hv : Vis X.env.scope n) (hd : (n == ("__debug__" : Str)) = false) (hcd : (n == ("__classdict__" : Str)) = false) (hz : Zc cls d oe) (hf : ∃ vs, oe.data = .fields vs)
    (hb : attributeBase (.Name n p) f X.env (eval (.Name n p) X.env) = eval (.Name n p) X.env) :
    SE (C.in_ ⟨some i, a, x, cls, d⟩) (X.suite a ((a, oe) :: pn)) W (.Attribute (.Name n p) f pos) (mErrF xf i x f) := by
  cases hq : xf x.c f with
  | false =>
    refine pe_no fun σ H Q ⟨mp, env, S, hR, hE, h⟩ => ?_
    unfold mErrF at h
    split at h
    · rw [hq] at h; exact h
    · exact h
  | true =>
    obtain ⟨k, e1, T, no⟩ := G.fld _ _ hq
    rw [← hK] at T no
    refine (pe_xf (d := d) (cls := cls) T no hz hf (pe_var hN hv hd hcd) hb).imp fun σ H Q ⟨mp, env, S, hR, hE, h⟩ => ?_
    unfold mErrF at h
    split at h
    · rename_i e
      rw [hq, if_pos rfl] at h
      obtain ⟨q, eq, ei, es⟩ := hE.ex i e
      cases eq
      refine ⟨.ref a, es, rfl, ?_⟩
      obtain ⟨k', e2, e3, e4⟩ := hE.er _ rfl
      have e2' : C.mg x.c = some (.ref k') := e2
      rw [e1] at e2'
      cases e2'
      refine ⟨e3, ?_⟩
      cases ql : x.fs.lookup f with
      | none => rw [ql] at h; exact h.elim
      | some v =>
        rw [ql] at h
        rcases e4 with ⟨e5, _⟩ | ⟨dd, gs, e5, e6, e7⟩
        · have e5' : x.fs = [] := e5
          rw [e5'] at ql; cases ql
        · obtain ⟨u, h1, h2⟩ := lookup_fs e7 ql
          exact ⟨dd, gs, u, e5, e6, h1, h mp H u (List.prefix_refl _) (HLe.refl _) hR h2⟩
    · exact h.elim
theorem s_errI {cx : Expr} {mc : ME} (GSt : GS C Γ) (G : GE C xf xi) (hK : X.K = C.K) (hm : X.mg = C.mg) (hfre : Γ.fre "isinstance" = true) (hN : X.N[i]? = some n) (hv : Vis X.env.scope n) (hd : (n == ("__debug__" : Str)) = false) (hcd : (n == ("__classdict__" : Str)) = false) (hz : Zc cls d oe) (hf : ∃ vs, oe.data = .fields vs)
    {p0 : Pos} (hg : Gl X "isinstance") (hc : SE (C.in_ ⟨some i, a, x, cls, d⟩) (X.suite a ((a, oe) :: pn)) W cx mc) (hn : noStar [.Name n p, cx] = true) :
    SE (C.in_ ⟨some i, a, x, cls, d⟩) (X.suite a ((a, oe) :: pn)) W (.Call (.Name "isinstance" p0) [.Name n p, cx] [] pos) (mErrI Γ xi i x mc) := by
  refine ⟨fun pins s σ H Q I ⟨mp, env, S, hR, hE, h⟩ => ?_⟩
  unfold mErrI at h
  split at h
  · rename_i e
    obtain ⟨q, eq, ei, es⟩ := hE.ex i e
    cases eq
    have hmn : X.mg "isinstance" = none := by rw [hm]; exact GSt.fre _ hfre
    refine wpAny_Call_Name_kw (ld_blt (X := X.suite a ((a, oe) :: pn)) I hg hmn PyProof.Rows.boot_isinstance ?_ (by decide) (by decide))
    have ha : PA (X.suite a ((a, oe) :: pn)) [.Name n p, cx] (tCons (tVar i) (tCons (T (C.in_ ⟨some i, a, x, cls, d⟩) W (RD _) mc) tNil)) := pa_cons (pe_var hN hv hd hcd) (pa_cons hc pa_nil (starEach_cons (noStar_tail hn))) (starEach_cons hn)
    have run := ha.run pos pins s σ H (fun vs H1 => ∃ y mp1 S1 dc, vs = [.ref a, y] ∧ Rel (C.in_ ⟨some i, a, x, cls, d⟩) mp1 S1 H1 ∧ EnvR (C.in_ ⟨some i, a, x, cls, d⟩) mp1 H1 env σ ∧ Rep (C.in_ ⟨some i, a, x, cls, d⟩) mp1 H1 dc y ∧ Post (C.in_ ⟨some i, a, x, cls, d⟩) (RD _) mp1 H1 σ (if xi x.c then (match tyC dc with
        | some u => (match Γ.isi (.o x.c) u with
          | some b => .ok (.bl b) S1
          | none => .fail)
        | none => .fail) else .fail) Q W) I ⟨.ref a, es, T.of hR hE h fun dc S1 mp1 H1 y p1 l1 R1 E1 r1 h1 => ⟨y, mp1, S1, dc, rfl, R1, E1, r1, h1⟩⟩
    refine PyProof.Rows.callWith_builtin1 (thn run fun us s1 ⟨vs, H1, I1, r, y, mp1, S1, dc, ev, R1, E1, rd, h1⟩ => ?_) (starEach_cons hn) (noStar_any (noStar_tail hn))
    subst ev
    cases r with
    | cons rx rr => cases rr with
      | cons rt rr =>
        cases rr
        cases rx
        cases hq : xi x.c with
        | false => rw [hq] at h1; exact h1.elim
        | true =>
          rw [hq, if_pos rfl] at h1
          obtain ⟨k, e1, EC⟩ := G.is_ _ hq
          obtain ⟨k', e2, e3, e4⟩ := E1.er _ rfl
          have e2' : C.mg x.c = some (.ref k') := e2
          rw [e1] at e2'
          cases e2'
          have e3' : cls = .ref k := e3
          subst e3'
          cases qt : tyC dc with
          | none => rw [qt] at h1; exact h1.elim
          | some u =>
            rw [qt] at h1
            dsimp only at h1
            cases qi : Γ.isi (.o x.c) u with
            | none => rw [qi] at h1; exact h1.elim
            | some b =>
              rw [qi] at h1
              obtain ⟨tv, uv, t1, t2, t3⟩ := GSt.isi _ _ _ qi
              obtain ⟨t1, _⟩ := t1
              rw [e1] at t1
              cases t1
              have rd' : Rep C mp1 H1 dc y := rd.er (C := C.in_ _) (C' := C) rfl rfl
              have cv := tyC_ok rd' qt t2
              have euv := cv.eq rt
              obtain ⟨hget, _⟩ := I1.pin (a, oe) (List.mem_append.mpr (.inl List.mem_cons_self))
              obtain ⟨vs, hvs⟩ := hf
              have J : ∃ od, PySem.W.InstAt s1.heap a oe k od := by
                rcases e4 with ⟨_, e5⟩ | ⟨dd, gs, e5, e6, e7⟩
                · have e5' : d = none := e5
                  subst e5'
                  exact ⟨none, hget, hz.1, by unfold notCls; rw [hvs] <;> rfl, by rw [hz.2]; trivial⟩
                · have e5' : d = some dd := e5
                  subst e5'
                  obtain ⟨o, ho⟩ := objOk_get (I1.hok dd _ e6)
                  exact ⟨some o, hget, hz.1, by unfold notCls; rw [hvs] <;> rfl, by rw [hz.2]; exact ho⟩
              obtain ⟨od, J⟩ := J
              obtain ⟨cd, hcd', _⟩ := any_some EC.hd
              have Z := PySem.W.kitx_exc (K := C.K) (x := a) (C := k) (ox := oe) (od := od) (by rw [hcd']; rfl) EC.hg EC.hk EC.hs EC.ha EC.hn EC.ht EC.hm
              have kin : C.K.In s1.heap := by rw [← hK]; exact I1.kIn
              subst euv
              exact PySem.W.kia_one Z kin J t3 (fun z => nomatch z) fun tk => ⟨.bl b, H1, I1.kept (t' := tk) fun _ _ z => z, rfl, h1.done R1 (.bl b)⟩
  · exact h.elim
end
end Bt

set_option Elab.async false
set_option linter.all false
set_option maxRecDepth 100000
set_option maxHeartbeats 2000000
namespace Bt
open PySem PySem.Spec PyProof.Rows L2

/-! ### the evaluator of the written text -/
structure GA where
  Γ : GEnv
  er : Str → Option (Option (List Str))
  xf : Str → Str → Bool
  xi : Str → Bool
  mt : Str → Str → Option Bool
structure SC where
  N : List Str
  sc : Scope
  top : Bool
def ixS (x : Str) : List Str → Nat → Option Nat
  | [], _ => none
  | y :: r, i => if y = x then some i else ixS x r (i + 1)
abbrev SC.ix (s : SC) (x : Str) : Option Nat := ixS x s.N 0
def okN (x : Str) : Bool := !(x == ("__debug__" : Str)) && !(x == ("__classdict__" : Str))
def visB (sc : Scope) (x : Str) : Bool := match sc.names.lookup x with
  | some .local => true
  | some .cell => true
  | some .free => true
  | _ => false
def locB (sc : Scope) (x : Str) : Bool := match sc.names.lookup x with
  | some .local => true
  | _ => false
/-- a name that may be stored -/
def SC.stB (s : SC) (x : Str) : Bool := match s.sc.names.lookup x with
  | some .local => true
  | some .cell => s.top
  | _ => false
def gloB (sc : Scope) (x : Str) : Bool := match sc.names.lookup x with
  | some .globalImplicit => true
  | _ => false
def mBad {α : Type} : Env → Sto → Rs α := fun _ _ => .fail
def gBad : MG := fun _ _ _ => .fail
/-- the built-in types -/
def btyOf (x : Str) : Option String :=
  if x = "int" then some "int" else if x = "str" then some "str" else if x = "bool" then some "bool" else if x = "tuple" then some "tuple" else if x = "list" then some "list" else if x = "dict" then some "dict" else if x = "ValueError" then some "ValueError" else none
def mGlob (Γ : GEnv) (x : Str) : ME := fun _ S => match Γ.con x with
  | some d => .ok d S
  | none => if Γ.fre x then (match btyOf x with
    | some n => .ok (.ty n) S
    | none => .fail) else .fail
def nameM (G : GA) (s : SC) (x : Str) : ME := if visB s.sc x && okN x then (match s.ix x with
  | some i => mVar i
  | none => mBad) else if gloB s.sc x && okN x then mGlob G.Γ x else mBad
def attrB : Expr → Bool
  | .Call (.Name id _) [] [] _ => !(id == ("super" : Str))
  | _ => true
def plainB : Expr → Bool
  | .UnaryOp .Not _ _ => false
  | .BoolOp _ _ _ => false
  | .IfExp _ _ _ _ => false
  | .Compare _ _ _ _ => false
  | _ => true
def noSlice : Expr → Bool
  | .Slice _ _ _ _ => false
  | _ => true
def noSet : Expr → Bool
  | .Set _ _ _ => false
  | _ => true
def noComp : Expr → Bool
  | .ListComp _ _ _ _ => false
  | .SetComp _ _ _ _ => false
  | .DictComp _ _ _ _ _ => false
  | _ => true
def noTup : Expr → Bool
  | .Tuple _ _ _ => false
  | _ => true
def binM : Operator → Option (D → D → Sto → Rs D)
  | .Add => some addD
  | .Sub => some subI
  | .Mult => some mulI
  | .FloorDiv => some divI
  | .Mod => some modI
  | .Pow => some powI
  | .LShift => some shlI
  | .RShift => some shrI
  | .BitAnd => some andI
  | _ => none
/-- list(reversed(a)) -/
def revArg (f : Str) (es : List Expr) : Option Expr := match es with
  | [.Call (.Name g _) [a] [] _] => if f = "list" ∧ g = "reversed" then some a else none
  | _ => none
structure Ev where
  E : SC → Expr → ME
  T : SC → Expr → MT
  S : SC → Stmt → MS
section
variable (G : GA) (r : Ev)
def evA (s : SC) : List Expr → MA
  | [] => mNil
  | e :: es => mCons (r.E s e) (evA s es)
def andV (s : SC) : List Expr → ME
  | [] => mBad
  | a :: es => match es with
    | [] => r.E s a
    | _ :: _ => mAndV (r.E s a) (andV s es)
def orV (s : SC) : List Expr → ME
  | [] => mBad
  | a :: es => match es with
    | [] => r.E s a
    | _ :: _ => mOrV (r.E s a) (orV s es)
def andT (s : SC) : List Expr → MT
  | [] => mBad
  | a :: es => match es with
    | [] => r.T s a
    | _ :: _ => mAndT (r.T s a) (andT s es)
def orT (s : SC) : List Expr → MT
  | [] => mBad
  | a :: es => match es with
    | [] => r.T s a
    | _ :: _ => mOrT (r.T s a) (orT s es)
def evO (s : SC) : Option Expr → MO
  | none => mNoPart
  | some e => mPart (r.E s e)
def evI (s : SC) (e : Expr) : MI := match e with
  | .Call (.Name f p) es [] q => if f = "range" then (match es with
    | [a] => if noStar [a] && gloB s.sc "range" && G.Γ.fre "range" then mRange1 (r.E s a) else mBad
    | [a, b] => if noStar [a, b] && gloB s.sc "range" && G.Γ.fre "range" then mRange2 (r.E s a) (r.E s b) else mBad
    | _ => mBad) else mIter (r.E s (.Call (.Name f p) es [] q))
  | e => mIter (r.E s e)
/-- the names of a comprehension's block -/
def ownN (N : List Str) : List (Str × NameKind) → List (Str × Nat)
  | [] => []
  | (y, k) :: t => match k, ixS y N 0 with
    | .local, some i => (y, i) :: ownN N t
    | .cell, some i => (y, i) :: ownN N t
    | _, _ => ownN N t
def relS (scope sc : Scope) : Scope :=
  { scope with names := scope.names.map fun (n, k) => if (k == .free && sc.kind == .function && sc.names.lookup n == some .cell) then (n, .cell) else (n, k) }
def tgIs (s : SC) : List Expr → Option (List Nat)
  | [] => some []
  | .Name x _ :: t => if s.stB x then (match s.ix x, tgIs s t with
    | some i, some is => some (i :: is)
    | _, _ => none) else none
  | _ => none
def tgC (s : SC) : Expr → Option CTg
  | .Name x _ => if s.stB x then (s.ix x).map .one else none
  | .Tuple es _ _ => (tgIs s es).map .tup
  | _ => none
def withinB (vs : List Nat) : CTg → Bool
  | .one i => decide (i ∈ vs)
  | .tup is => is.all fun i => decide (i ∈ vs)
def evLc (s : SC) (elt tg iter : Expr) (ifs : List Expr) (scope : Scope) : ME :=
  let own := ownN s.N scope.names
  let s' : SC := ⟨s.N, relS scope s.sc, false⟩
  match tgC s' tg with
  | some t => if blkC s.N s.sc scope own && withinB (own.map (·.2)) t && noSet iter then (match ifs with
    | [] => mLc (evI G r s iter) (own.map (·.2)) t mYes (r.E s' elt)
    | [c] => mLc (evI G r s iter) (own.map (·.2)) t (r.T s' c) (r.E s' elt)
    | _ => mBad) else mBad
  | none => mBad
def stepE (s : SC) (e : Expr) : ME := match e with
  | .Name x _ => nameM G s x
  | .Constant (.int i) _ _ => mC (.int i)
  | .Constant (.bool i) _ _ => mC (.bl i)
  | .Constant (.str i) _ _ => mC (.str i)
  | .Constant .none _ _ => mC .non
  | .BinOp a op b _ => (match binM op with
    | some g => mOp g (r.E s a) (r.E s b)
    | none => mBad)
  | .UnaryOp .USub a _ => mUn negI (r.E s a)
  | .UnaryOp .Not a _ => mNotV (r.E s a)
  | .BoolOp .And es _ => andV r s es
  | .BoolOp .Or es _ => orV r s es
  | .IfExp c a b _ => mIfE (r.T s c) (r.E s a) (r.E s b)
  | .Compare a [op] [b] _ => if behindInMarks op b then mBad else mOp (cmpG G.Γ op) (r.E s a) (r.E s b)
  | .Compare a [op, op'] [b, c] _ => if lastMarks [op, op'] [b, c] then mBad else mChain (cmpG G.Γ op) (cmpG G.Γ op') (r.E s a) (r.E s b) (r.E s c)
  | .List es _ => if noStar es then mLst (evA r s es) else mBad
  | .Tuple es _ _ => if noStar es then mTup (evA r s es) else mBad
  | .Subscript a (.Slice lo hi none _) _ => mSl (r.E s a) (evO r s lo) (evO r s hi)
  | .Subscript a b _ => if noSlice b then mOp ixG (r.E s a) (r.E s b) else mBad
  | .Attribute a f _ => if attrB a then mUn (attrG G.Γ f) (r.E s a) else mBad
  | .Call (.Name f _) es [] _ => if gloB s.sc f && okN f && noStar es then (match revArg f es with
    | some a => if noStar [a] && gloB s.sc "reversed" && G.Γ.fre "list" && G.Γ.fre "reversed" then mRevL (r.E s a) else mBad
    | none => (match es with
      | [] => mCall0 G.Γ f
      | _ :: _ => mCall G.Γ f (evA r s es))) else mBad
  | .Call (.Attribute o m apos) es [] pos => if attrB o && noStar es && (apos.endLine == pos.line) && decide (es.length < 29) then mMeth G.Γ m (r.E s o) (evA r s es) else mBad
  | .ListComp elt [⟨tg, iter, ifs, 0⟩] scope _ => evLc G r s elt tg iter ifs scope
  | .Dict [] [] _ => mDic0
  | _ => mBad
def stepT (s : SC) (e : Expr) : MT := match e with
  | .UnaryOp .Not a _ => mNotT (r.T s a)
  | .BoolOp .And es _ => andT r s es
  | .BoolOp .Or es _ => orT r s es
  | .Compare a [op] [b] _ => if behindInMarks op b then mBad else mTest (mOp (cmpG G.Γ op) (r.E s a) (r.E s b))
  | .Compare a [op, op'] [b, c] _ => if lastMarks [op, op'] [b, c] then mBad else mTest (mChain (cmpG G.Γ op) (cmpG G.Γ op') (r.E s a) (r.E s b) (r.E s c))
  | e => if plainB e then mTru truD (r.E s e) else mBad
def evSs (s : SC) : List Stmt → MS
  | [] => sNil
  | st :: t => sSeq (r.S s st) (evSs s t)
def gNs : List Nat → MGs
  | [] => gNil'
  | i :: is => gCons' (gNam i) (gNs is)
def evG (s : SC) (tg : Expr) : MG := match tg with
  | .Name x _ => if s.stB x then (match s.ix x with
    | some i => gNam i
    | none => gBad) else gBad
  | .Tuple es _ _ => (match tgIs s es with
    | some is => gTup' is.length (gNs is)
    | none => gBad)
  | .Subscript o i _ => if noSlice i then gSub' (r.E s o) (r.E s i) else gBad
  | _ => gBad
/-! except suites -/
def evX (s : SC) (i : Option Nat) (n : Str) (x : Exc) : Nat → Expr → ME
  | 0, _ => mBad
  | k + 1, e => match e with
    | .Name y _ => if y = n then mBad else nameM G s y
    | .Constant (.int i) _ _ => mC (.int i)
    | .Constant (.bool i) _ _ => mC (.bl i)
    | .Constant (.str i) _ _ => mC (.str i)
    | .Constant .none _ _ => mC .non
    | .BinOp a .Add b _ => mOp addD (evX s i n x k a) (evX s i n x k b)
    | .List es _ => if noStar es then mLst (es.foldr (fun e m => mCons (evX s i n x k e) m) mNil) else mBad
    | .Tuple es _ _ => if noStar es then mTup (es.foldr (fun e m => mCons (evX s i n x k e) m) mNil) else mBad
    | .Attribute (.Name y _) f _ => (match i with
      | some j => if decide (y = n) && (visB s.sc n && okN n && decide (s.ix n = some j)) then mErrF G.xf j x f else mBad
      | none => mBad)
    | .Call (.Name f _) [.Name y p, c] [] _ => (match i with
      | some j => if decide (f = "isinstance") && decide (y = n) && (visB s.sc n && okN n && decide (s.ix n = some j)) && (gloB s.sc "isinstance" && G.Γ.fre "isinstance" && noStar [.Name y p, c]) then mErrI G.Γ G.xi j x (evX s i n x k c) else mBad
      | none => mBad)
    | _ => mBad
def evXs (s : SC) (i : Option Nat) (n : Str) (x : Exc) : List Stmt → MS
  | [] => sNil
  | st :: t => sSeq (match st with
    | .Return (some e) _ => sRet (evX G s i n x 12 e)
    | .Assign [.Name y _] e _ => if s.stB y && noComp e then (match s.ix y with
      | some j => sAsg (evX G s i n x 12 e) (gNam j)
      | none => mBad) else mBad
    | .Pass _ => sNil
    | _ => mBad) (evXs s i n x t)
def raiseM (s : SC) (x : Str) (es : List Expr) : MS := if gloB s.sc x && okN x && noStar es then (match G.er x with
  | some (some ns) => (match es with
    | _ :: _ => sRaise x ns (evA r s es)
    | [] => mBad)
  | some none => (match es with
    | [.Constant (.str _) _ _] => sRaiseT x
    | _ => mBad)
  | none => mBad) else mBad
def stepS (s : SC) (st : Stmt) : MS := match st with
  | .Pass _ => sNil
  | .Break _ => sBrk
  | .Continue _ => sCnt
  | .Expr e _ => if noComp e then sExpr (r.E s e) else mBad
  | .Return none _ => sRetN
  | .Return (some e) _ => sRet (r.E s e)
  | .If c a b _ => sIf (r.T s c) (evSs r s a) (evSs r s b)
  | .Assign [.Name x px] value pos => if s.stB x then (match s.ix x with
    | some i => (match value with
      | .ListComp elt [⟨tg, iter, ifs, 0⟩] scope vpos => sAsg (evLc G r s elt tg iter ifs scope) (gNam i)
      | e => if noComp e then sAsg (r.E s e) (gNam i) else mBad)
    | none => mBad) else mBad
  | .Assign [.Attribute o f _] value _ => if noComp value then sFldD G.Γ f (r.E s value) (r.E s o) else mBad
  | .Assign [tg] value _ => if noComp value && noTup value && noStar [tg] then sAsg (r.E s value) (evG r s tg) else mBad
  | .For tg iter body [] _ => if noSet iter then sFor (evI G r s iter) (evG r s tg) (evSs r s body) else mBad
  | .While c body [] _ => whileF (r.T s c) (evSs r s body) turns
  | .Raise (some (.Call (.Name x _) es [] _)) none _ => raiseM G r s x es
  | .Try body [.ExceptHandler (some (.Name x _)) (some n) (b0 :: su) _] [] [] _ => if gloB s.sc x && okN x && (G.Γ.con x).isSome && locB s.sc n then (match s.ix n with
    | some i => sTryAs (G.mt x) i (evSs r s body) (fun ex => evXs G s (some i) n ex (b0 :: su))
    | none => mBad) else mBad
  | .Try body [.ExceptHandler (some (.Name x _)) none (b0 :: su) _] [] [] _ => if gloB s.sc x && okN x && (G.Γ.con x).isSome then sTry (G.mt x) (evSs r s body) (fun ex => evXs G s none "" ex (b0 :: su)) else mBad
  | _ => mBad
end
def ev (G : GA) : Nat → Ev
  | 0 => ⟨fun _ _ => mBad, fun _ _ => mBad, fun _ _ => mBad⟩
  | n + 1 => ⟨stepE G (ev G n), stepT G (ev G n), stepS G (ev G n)⟩
end Bt

set_option Elab.async false
set_option linter.all false
set_option maxRecDepth 100000
set_option maxHeartbeats 2000000
namespace Bt
open PySem PySem.Spec PyProof.Rows L2

/-! ### the evaluator is sound -/
structure Good (C : Ctx) (X : Cx) (W : WX) (G : GA) (n : Nat) (s : SC) : Prop where
  gs : GS C G.Γ
  gc : GC C X n G.Γ
  gx : GX C X G.er
  ge : GE C G.xf G.xi
  gm : ∀ x c b, G.mt x c = some b → ∃ v, C.mg x = some v ∧ ∀ k, C.mg c = some (.ref k) → PySem.W.exmOne C.K (.ref k) v = some b
  tk : Takes X W
  hK : X.K = C.K
  hm : X.mg = C.mg
  hN : X.N = s.N
  nd : X.N.Nodup
  sc : X.env.scope = s.sc
  calm : X.calm = true
  po : PassesOwn (model X.prog X.w) X.A X.env X.xe
  er : C.er = none
  fn : s.top = true → ∀ x, X.fn x = true
/-- a def's own body -/
structure Top (X : Cx) : Prop where
  st : X.stack = X.env :: X.outer
  fr : X.env.frame = some X.env.locals
theorem ixS_ok {x : Str} : ∀ {N : List Str} {i j : Nat}, ixS x N j = some i → j ≤ i ∧ N[i - j]? = some x
  | [], _, _, h => by cases h
  | y :: r, i, j, h => by
    unfold ixS at h
    split at h
    · rename_i e
      cases h
      exact ⟨Nat.le_refl _, by simp [e]⟩
    · obtain ⟨h1, h2⟩ := ixS_ok h
      refine ⟨by omega, ?_⟩
      have e : i - j = (i - (j + 1)) + 1 := by omega
      rw [e, List.getElem?_cons_succ]
      exact h2
theorem SC.ix_ok {s : SC} {x : Str} {i : Nat} (h : s.ix x = some i) : s.N[i]? = some x := by
  have := (ixS_ok h).2
  simpa using this
theorem okN_ok {x : Str} (h : okN x = true) : (x == ("__debug__" : Str)) = false ∧ (x == ("__classdict__" : Str)) = false := by
  unfold okN at h
  simpa using h
theorem visB_ok {sc : Scope} {x : Str} (h : visB sc x = true) : Vis sc x := by
  unfold visB at h
  unfold Vis
  split at h
  · exact .inl (by assumption)
  · exact .inr (.inl (by assumption))
  · exact .inr (.inr (by assumption))
  · cases h
theorem locB_ok {sc : Scope} {x : Str} (h : locB sc x = true) : sc.names.lookup x = some .local := by
  unfold locB at h
  split at h
  · assumption
  · cases h
theorem gloB_ok {sc : Scope} {x : Str} (h : gloB sc x = true) : sc.names.lookup x = some .globalImplicit := by
  unfold gloB at h
  split at h
  · assumption
  · cases h
section
variable {C : Ctx} {X : Cx} {W : WX} {G : GA} {n : Nat} {s : SC}
theorem Good.st (g : Good C X W G n s) {x : Str} (h : s.stB x = true) : Loc X.env.scope x ∧ (X.fn x = true ∨ X.env.scope.names.lookup x = some .local) := by
  unfold SC.stB at h
  rw [g.sc]
  split at h
  · rename_i e
    exact ⟨.inl e, .inr e⟩
  · rename_i e
    exact ⟨.inr e, .inl (g.fn h x)⟩
  · cases h
theorem bad_e {e : Expr} : SE C X W e mBad := pe_no fun σ H Q ⟨mp, env, S, hR, hE, h⟩ => h
theorem bad_t {e : Expr} : ST C X W e mBad := ⟨fun pins s σ H Q I ⟨mp, env, S, hR, hE, h⟩ => h.elim⟩
theorem bad_s {e : Stmt} : SS C X W e mBad := ⟨fun pins s σ H Q I ⟨mp, env, S, hR, hE, h⟩ => h.elim⟩
theorem bad_ss {e : List Stmt} : SSs C X W e mBad := ⟨fun pins s σ H Q I ⟨mp, env, S, hR, hE, h⟩ => h.elim⟩
theorem bad_g {e : Expr} : SG C X W e gBad := ⟨fun pins s σ H v u Q I r ⟨mp, env, S, d, hR, hE, rd, h⟩ => h.elim⟩
theorem bad_i {tg e : Expr} : SI C X W tg e mBad := ⟨fun pins s σ H Q I ⟨mp, env, S, hR, hE, h⟩ => h.elim⟩

theorem bty_ok {x : Str} {t : String} (h : btyOf x = some t) : bootBuiltins x = some (.type t) ∧ x ≠ "__name__" ∧ (x == ("__debug__" : Str)) = false := by
  unfold btyOf at h
  repeat (split at h; (rename_i e; subst e; cases h; exact ⟨by decide +kernel, by decide, by decide⟩))
  cases h
theorem glob_ok {x : Str} {p : Pos} (g : Good C X W G n s) (hg : gloB s.sc x = true) (ho : okN x = true) : SE C X W (.Name x p) (mGlob G.Γ x) := by
  have hg' : Gl X x := by unfold Gl PySem.Env.kindOf; rw [g.sc]; exact gloB_ok hg
  obtain ⟨o1, o2⟩ := okN_ok ho
  cases q : G.Γ.con x with
  | some d =>
    obtain ⟨u, v, e1, e2, e3⟩ := g.gs.con x d q
    refine (s_glob (C := C) (W := W) (pos := p) hg' (by rw [g.hm]; exact e1) e2 e3 o1).imp fun σ H Q ⟨mp, env, S, hR, hE, h⟩ => ⟨mp, env, S, hR, hE, ?_⟩
    unfold mGlob at h
    rw [q] at h
    exact h
  | none =>
    cases q1 : G.Γ.fre x with
    | false =>
      refine pe_no fun σ H Q ⟨mp, env, S, hR, hE, h⟩ => ?_
      unfold mGlob at h
      rw [q, q1] at h
      exact h
    | true =>
      cases q2 : btyOf x with
      | none =>
        refine pe_no fun σ H Q ⟨mp, env, S, hR, hE, h⟩ => ?_
        unfold mGlob at h
        rw [q, q1, q2] at h
        exact h
      | some t =>
        obtain ⟨b1, b2, b3⟩ := bty_ok q2
        refine (s_bltn (C := C) (W := W) (pos := p) hg' (by rw [g.hm]; exact g.gs.fre x q1) b1 b2 b3).imp fun σ H Q ⟨mp, env, S, hR, hE, h⟩ => ⟨mp, env, S, hR, hE, ?_⟩
        unfold mGlob at h
        rw [q, q1, q2] at h
        exact h
theorem name_ok {x : Str} {p : Pos} (g : Good C X W G n s) : SE C X W (.Name x p) (nameM G s x) := by
  unfold nameM
  split
  · rename_i h
    obtain ⟨h1, h2⟩ := Bool.and_eq_true_iff.mp h
    obtain ⟨o1, o2⟩ := okN_ok h2
    cases q : s.ix x with
    | none => exact bad_e
    | some i => exact s_var (by rw [g.hN]; exact SC.ix_ok q) (by rw [g.sc]; exact visB_ok h1) o1 o2
  · split
    · rename_i h
      obtain ⟨h1, h2⟩ := Bool.and_eq_true_iff.mp h
      exact glob_ok g h1 h2
    · exact bad_e
theorem attrB_ok {a : Expr} {m : Str} {env : PySem.Env} {w : Sem Value} (h : attrB a = true) : attributeBase a m env w = w := by
  unfold attributeBase
  split
  · rename_i id p pos
    have h' : (!(id == ("super" : Str))) = true := h
    have e : (id != ("super" : Str)) = true := by simpa [bne] using h'
    rw [e]
    simp
  · rfl
theorem plainB_ok {a : Expr} {env : PySem.Env} (h : plainB a = true) : ∀ whole, isTrue a env whole = (do let v ← whole; standAt a.pos; holding [v] (truthy v)) := by
  intro whole
  cases a with
  | UnaryOp op x p => cases op <;> first | rfl | cases h
  | _ => first | rfl | cases h
theorem noSlice_ok {b : Expr} (h : noSlice b = true) : PlainIx b := by
  intro o i
  cases b <;> first | rfl | cases h
theorem noSet_ok {b : Expr} {env : PySem.Env} (h : noSet b = true) : ∀ x, foldedSetIterable b env x = pure x := by
  intro x
  cases b <;> first | rfl | cases h
theorem noComp_ok {b : Expr} {env : PySem.Env} {t : Option Expr} {l : Nat} (h : noComp b = true) : swapsWith b t l env = pure false := by
  cases b <;> first | rfl | cases h
/-- the recursive calls are right -/
structure Rec (r : Ev) (C : Ctx) (G : GA) : Prop where
  E : ∀ (X : Cx) (W : WX) (n : Nat) (s : SC), Good C X W G n s → ∀ e, SE C X W e (r.E s e)
  T : ∀ (X : Cx) (W : WX) (n : Nat) (s : SC), Good C X W G n s → ∀ e, ST C X W e (r.T s e)
  S : ∀ (X : Cx) (W : WX) (n : Nat) (s : SC), Good C X W G n s → Top X → ∀ e, SS C X W e (r.S s e)
variable {r : Ev}
theorem args_ok (R : Rec r C G) (g : Good C X W G n s) : ∀ es : List Expr, noStar es = true → SA C X W es (evA r s es)
  | [], _ => s_nil
  | e :: es, h => s_cons (R.E X W n s g e) (args_ok R g es (noStar_tail h)) (starEach_cons h)
theorem andV_ok {pos : Pos} (R : Rec r C G) (g : Good C X W G n s) : ∀ es : List Expr, SE C X W (.BoolOp .And es pos) (andV r s es)
  | [] => bad_e
  | [a] => s_oneV (R.E X W n s g a)
  | a :: b :: es => s_andV g.hK (R.E X W n s g a) (andV_ok R g (b :: es))
theorem orV_ok {pos : Pos} (R : Rec r C G) (g : Good C X W G n s) : ∀ es : List Expr, SE C X W (.BoolOp .Or es pos) (orV r s es)
  | [] => bad_e
  | [a] => s_oneV (R.E X W n s g a)
  | a :: b :: es => s_orV g.hK (R.E X W n s g a) (orV_ok R g (b :: es))
theorem bad_w {e : Expr} : SW C X W e mBad := ⟨fun wh pins s σ H Q I ⟨mp, env, S, hR, hE, h⟩ => h.elim⟩
theorem andT_ok {pos : Pos} (R : Rec r C G) (g : Good C X W G n s) : ∀ es : List Expr, SW C X W (.BoolOp .And es pos) (andT r s es)
  | [] => bad_w
  | [a] => s_and1 (R.T X W n s g a)
  | a :: b :: es => s_and (R.T X W n s g a) (andT_ok R g (b :: es))
theorem orT_ok {pos : Pos} (R : Rec r C G) (g : Good C X W G n s) : ∀ es : List Expr, SW C X W (.BoolOp .Or es pos) (orT r s es)
  | [] => bad_w
  | [a] => s_or1 (R.T X W n s g a)
  | a :: b :: es => s_or (R.T X W n s g a) (orT_ok R g (b :: es))
theorem part_ok (R : Rec r C G) (g : Good C X W G n s) : ∀ e : Option Expr, SO C X W e (evO r s e)
  | none => s_noPart
  | some e => s_part (R.E X W n s g e)
theorem bin_ok {op : Operator} {f : D → D → Sto → Rs D} (hK : X.K = C.K) (h : binM op = some f) : Op2 C X W (binaryOp op) f := by
  cases op <;> first | (cases h; done) | skip
  all_goals cases h
  all_goals first
    | exact o_add hK
    | exact o_sub
    | exact o_mul
    | exact o_div
    | exact o_mod
    | exact o_pow
    | exact o_shl
    | exact o_shr
    | exact o_and
theorem range_free (g : Good C X W G n s) (h1 : gloB s.sc "range" = true) (h2 : G.Γ.fre "range" = true) : Gl X "range" ∧ X.mg "range" = none :=
  ⟨by unfold Gl PySem.Env.kindOf; rw [g.sc]; exact gloB_ok h1, by rw [g.hm]; exact g.gs.fre _ h2⟩
theorem iter_ok {tg : Expr} (R : Rec r C G) (g : Good C X W G n s) (e : Expr) : SI C X W tg e (evI G r s e) := by
  unfold evI
  split
  · rename_i f p es q
    split
    · rename_i hf
      subst hf
      split
      · rename_i a
        split
        · rename_i h
          simp only [Bool.and_eq_true] at h
          obtain ⟨⟨h1, h2⟩, h3⟩ := h
          obtain ⟨k1, k2⟩ := range_free g h2 h3
          exact i_range1 k1 k2 (R.E X W n s g a) h1
        · exact bad_i
      · rename_i a b
        split
        · rename_i h
          simp only [Bool.and_eq_true] at h
          obtain ⟨⟨h1, h2⟩, h3⟩ := h
          obtain ⟨k1, k2⟩ := range_free g h2 h3
          exact i_range2 k1 k2 (R.E X W n s g a) (R.E X W n s g b) h1
        · exact bad_i
      · exact bad_i
    · exact i_any g.hK (R.E X W n s g _)
  · exact i_any g.hK (R.E X W n s g _)
end
end Bt

set_option Elab.async false
set_option linter.all false
set_option maxRecDepth 100000
set_option maxHeartbeats 2000000
namespace Bt
open PySem PySem.Spec PyProof.Rows L2
section
variable {C : Ctx} {X : Cx} {W : WX} {G : GA} {n : Nat} {s : SC} {r : Ev} {pos : Pos}
theorem takes0' {X : Cx} : Takes X W0 := fun u s' ⟨a, B, sI, pins, σ, H, cls, d, e, I, nb, up, sky, na, os, ag, w⟩ => w.elim
theorem good_blk (g : Good C X W G n s) (s0 : Shared) (H : Hp) (scope : Scope) (D : Addr) (cl : List (Str × Addr)) (fp : List Addr) : Good C (X.blk s0 H scope (compEnvC scope cl D X.env) fp) W0 G n ⟨s.N, relS scope s.sc, false⟩ where
  gs := g.gs
  gc := ⟨g.gc.room, g.gc.cal, g.gc.met⟩
  gx := ⟨g.gx.fl, g.gx.tx⟩
  ge := g.ge
  gm := g.gm
  tk := takes0'
  hK := g.hK
  hm := g.hm
  hN := g.hN
  nd := g.nd
  sc := by
    show relabel scope X.env = relS scope s.sc
    unfold relabel relS PySem.Env.kindOf
    rw [g.sc]
  calm := g.calm
  po := PassesOwn.never
  er := g.er
  fn := fun h => by cases h
theorem tgIs_ok (g : Good C X W G n s) : ∀ {es : List Expr} {is : List Nat}, tgIs s es = some is → PGs X es (gNames is) ∧ PGs X es (TGs' C W (gNs is)) ∧ (assignEach es X.env).length = is.length ∧ (assignEach es X.env).findIdx? (·.1) = none
  | [], _, h => by
    cases h
    exact ⟨pgs_nil, gs_nil, rfl, rfl⟩
  | .Name x p :: t, is, h => by
    unfold tgIs at h
    split at h
    · rename_i hl
      obtain ⟨l1, l2⟩ := g.st hl
      cases q1 : s.ix x with
      | none => rw [q1] at h; cases h
      | some i =>
        cases q2 : tgIs s t with
        | none => rw [q1, q2] at h; cases h
        | some js =>
          rw [q1, q2] at h
          cases h
          obtain ⟨h1, h2, h3, h4⟩ := tgIs_ok g q2
          have hi : X.N[i]? = some x := by rw [g.hN]; exact SC.ix_ok q1
          refine ⟨pgs_cons (pg_name g.nd hi l1 l2) h1, gs_cons (g_name g.nd hi l1 l2) h2 rfl, ?_, ?_⟩
          · show (assignEach t X.env).length + 1 = js.length + 1
            rw [h3]
          · show List.findIdx? (·.1) ((false, assign (.Name x p) X.env) :: assignEach t X.env) = none
            rw [List.findIdx?_cons, h4]
            rfl
    · cases h
theorem tgC_ok (g : Good C X W G n s) {tg : Expr} {t : CTg} (h : tgC s tg = some t) : PG X tg (gC X.K t) := by
  unfold tgC at h
  split at h
  · rename_i x p
    split at h
    · rename_i hl
      cases q : s.ix x with
      | none => rw [q] at h; cases h
      | some i =>
        rw [q] at h
        cases h
        exact gC_one g.nd (by rw [g.hN]; exact SC.ix_ok q) (g.st hl).1 (g.st hl).2
    · cases h
  · rename_i es k p
    cases q : tgIs s es with
    | none => rw [q] at h; cases h
    | some is =>
      rw [q] at h
      cases h
      obtain ⟨h1, h2, h3, h4⟩ := tgIs_ok g q
      exact gC_tup g.calm h1 h3 h4
  · cases h
theorem withinB_ok {vs : List Nat} {t : CTg} (h : withinB vs t = true) : t.within vs := by
  cases t with
  | one i => exact (show i ∈ vs from of_decide_eq_true h)
  | tup is => exact fun i hi => of_decide_eq_true (List.all_eq_true.mp h i hi)
/-- the parts of a comprehension -/
theorem lc_parts (R : Rec r C G) (g : Good C X W G n s) {elt tg iter : Expr} {ifs : List Expr} {scope : Scope} :
    evLc G r s elt tg iter ifs scope = mBad ∨ ∃ (own : List (Str × Nat)) (it : MI) (t : CTg) (ts : MT) (e : ME), evLc G r s elt tg iter ifs scope = mLc it (own.map (·.2)) t ts e ∧ SI C X W tg iter it ∧ BlkOk X.N X.env.scope scope own ∧ t.within (own.map (·.2)) ∧
      (∀ (s : Shared) (H : Hp) (D : Addr) (cl : List (Str × Addr)) (fp : List Addr), PG (X.blk s H scope (compEnvC scope cl D X.env) fp) tg (gC X.K t)) ∧ (∀ (s : Shared) (H : Hp) (D : Addr) (cl : List (Str × Addr)) (fp : List Addr), SCl C (X.blk s H scope (compEnvC scope cl D X.env) fp) ifs ts) ∧
      (∀ (s : Shared) (H : Hp) (D : Addr) (cl : List (Str × Addr)) (fp : List Addr), SE C (X.blk s H scope (compEnvC scope cl D X.env) fp) W0 elt e) ∧ (∀ x, foldedSetIterable iter X.env x = pure x) := by
  unfold evLc
  dsimp only
  cases q : tgC ⟨s.N, relS scope s.sc, false⟩ tg with
  | none => exact .inl rfl
  | some t =>
    dsimp only
    split
    · rename_i h
      simp only [Bool.and_eq_true] at h
      obtain ⟨⟨h1, h2⟩, h3⟩ := h
      have ok : BlkOk X.N X.env.scope scope (ownN s.N scope.names) := by
        rw [g.hN, g.sc]
        exact blkOk_by h1
      split
      · exact .inr ⟨_, _, t, _, _, rfl, iter_ok R g iter, ok, withinB_ok h2, fun s0 H D cl fp => tgC_ok (good_blk g s0 H scope D cl fp) q, fun s0 H D cl fp => cl_nil, fun s0 H D cl fp => R.E _ _ _ _ (good_blk g s0 H scope D cl fp) elt, noSet_ok h3⟩
      · rename_i c
        exact .inr ⟨_, _, t, _, _, rfl, iter_ok R g iter, ok, withinB_ok h2, fun s0 H D cl fp => tgC_ok (good_blk g s0 H scope D cl fp) q, fun s0 H D cl fp => cl_one (R.T _ _ _ _ (good_blk g s0 H scope D cl fp) c), fun s0 H D cl fp => R.E _ _ _ _ (good_blk g s0 H scope D cl fp) elt, noSet_ok h3⟩
      · exact .inl rfl
    · exact .inl rfl
theorem lc_ok (R : Rec r C G) (g : Good C X W G n s) {elt tg iter : Expr} {ifs : List Expr} {scope : Scope} : SE C X W (.ListComp elt [⟨tg, iter, ifs, 0⟩] scope pos) (evLc G r s elt tg iter ifs scope) := by
  rcases lc_parts R g (elt := elt) (tg := tg) (iter := iter) (ifs := ifs) (scope := scope) with e | ⟨own, it, t, ts, e, h0, h1, h2, h3, h4, h5, h6, h7⟩
  · rw [e]; exact bad_e
  · rw [h0]
    exact s_lc g.calm g.nd g.hK h1 h2 h3 h4 h5 h6 h7
theorem stepE_ok (R : Rec r C G) (g : Good C X W G n s) (e : Expr) : SE C X W e (stepE G r s e) := by
  have E := R.E X W n s g
  have cm := o_cmp (C := C) (X := X) (W := W) g.gs g.gc g.tk g.hK g.hm
  unfold stepE
  split
  · exact name_ok g
  · exact s_int
  · exact s_bl
  · exact s_str
  · exact s_non
  · rename_i a op b p
    cases q : binM op with
    | none => exact bad_e
    | some f => exact s_op (bin_ok g.hK q) (E a) (E b)
  · exact s_un u_neg (E _)
  · exact s_notV g.hK (E _)
  · exact andV_ok R g _
  · exact orV_ok R g _
  · exact s_ifE (R.T X W n s g _) (E _) (E _)
  · split
    · exact bad_e
    · rename_i h
      exact s_cmp (cm _) (E _) (E _) (by simpa using h)
  · split
    · exact bad_e
    · rename_i h
      exact s_chain (cm _) (cm _) (E _) (E _) (E _) (by simpa using h)
  · split
    · rename_i h
      exact s_lst (args_ok R g _ h)
    · exact bad_e
  · split
    · rename_i h
      exact s_tup (args_ok R g _ h)
    · exact bad_e
  · exact s_slice g.hK (E _) (part_ok R g _) (part_ok R g _)
  · split
    · rename_i h
      exact s_ix (by have := g.gc.room.un; omega) g.hK (E _) (E _) (noSlice_ok h)
    · exact bad_e
  · split
    · rename_i h
      exact s_attr g.gs g.hK (E _) (attrB_ok h)
    · exact bad_e
  · split
    · rename_i f p es p2 h
      simp only [Bool.and_eq_true] at h
      obtain ⟨⟨h1, h2⟩, h3⟩ := h
      have hg' : Gl X f := by unfold Gl PySem.Env.kindOf; rw [g.sc]; exact gloB_ok h1
      cases q : revArg f es with
      | some a =>
        dsimp only
        unfold revArg at q
        split at q
        · rename_i g' p3 a' p4
          split at q
          · rename_i hfg
            obtain ⟨rfl, rfl⟩ := hfg
            cases q
            split
            · rename_i hh
              simp only [Bool.and_eq_true] at hh
              obtain ⟨⟨⟨k1, k2⟩, k3⟩, k4⟩ := hh
              exact s_revL g.hK g.calm hg' (by rw [g.hm]; exact g.gs.fre _ k3) (by unfold Gl PySem.Env.kindOf; rw [g.sc]; exact gloB_ok k2) (by rw [g.hm]; exact g.gs.fre _ k4) (E _) k1
            · exact bad_e
          · cases q
        · cases q
      | none =>
      dsimp only
      split
      · exact s_call0 g.gc g.tk g.hK g.hm hg' (okN_ok h2).1
      · exact s_call g.gs g.gc g.tk g.hK g.hm hg' (okN_ok h2).1 h3 (args_ok R g _ h3)
    · exact bad_e
  · split
    · rename_i o m apos es p h
      simp only [Bool.and_eq_true] at h
      obtain ⟨⟨⟨h1, h2⟩, h3⟩, h4⟩ := h
      exact s_meth g.gc g.tk g.hK g.hm (E _) h2 (args_ok R g _ h2) (fun e => by subst e; rfl) (attrB_ok h1) h3 (of_decide_eq_true h4)
    · exact bad_e
  · exact lc_ok R g
  · exact s_dic0
  · exact bad_e
theorem stepT_ok (R : Rec r C G) (g : Good C X W G n s) (e : Expr) : ST C X W e (stepT G r s e) := by
  have E := R.E X W n s g
  have cm := o_cmp (C := C) (X := X) (W := W) g.gs g.gc g.tk g.hK g.hm
  unfold stepT
  split
  · exact s_not (R.T X W n s g _)
  · exact (andT_ok R g _).pt
  · exact (orT_ok R g _).pt
  · split
    · exact bad_t
    · rename_i h
      exact s_tcmp (cm _) (E _) (E _) (by simpa using h)
  · split
    · exact bad_t
    · rename_i h
      exact s_tchain (cm _) (cm _) (E _) (E _) (E _) (by simpa using h)
  · split
    · rename_i h
      exact s_truth g.hK (E _) (plainB_ok h)
    · exact bad_t
end
end Bt

set_option Elab.async false
set_option linter.all false
set_option maxRecDepth 100000
set_option maxHeartbeats 2000000
namespace Bt
open PySem PySem.Spec PyProof.Rows L2
section
variable {C : Ctx} {X : Cx} {W : WX} {G : GA} {n : Nat} {s : SC} {r : Ev} {pos : Pos}
/-! ### targets -/
theorem gBad_goes : ∀ d env S, Goes (gBad d env S) := fun _ _ _ => trivial
theorem gNs_goes : ∀ (is : List Nat) ds env S, Goes (gNs is ds env S)
  | [], ds, env, S => by
    unfold gNs gNil'
    cases ds <;> trivial
  | i :: is, ds, env, S => by
    unfold gNs gCons'
    cases ds with
    | nil => trivial
    | cons d ds => exact gNs_goes is ds _ S
theorem seqE_goes {α : Type} {q : Rs α} {env : Env} {f : α → Sto → Rs Fl} (h : ∀ a S, Goes (f a S)) : Goes (seqE q env f) := by
  cases q with
  | ok a S => exact h a S
  | exc x S => trivial
  | fail => trivial
theorem evG_goes (tg : Expr) : ∀ d env S, Goes (evG r s tg d env S) := by
  intro d env S
  unfold evG
  split
  · rename_i x p
    split
    · cases q : s.ix x <;> trivial
    · trivial
  · rename_i es k p
    cases q : tgIs s es with
    | none => trivial
    | some is =>
      unfold gTup'
      dsimp only
      split
      · split
        · exact gNs_goes _ _ _ _
        · trivial
      · trivial
  · split
    · unfold gSub'
      refine seqE_goes fun o S => seqE_goes fun i S => ?_
      split <;> trivial
    · trivial
  · trivial
theorem evG_ok (R : Rec r C G) (g : Good C X W G n s) (tg : Expr) : SG C X W tg (evG r s tg) := by
  unfold evG
  split
  · rename_i x p
    split
    · rename_i hl
      cases q : s.ix x with
      | none => exact bad_g
      | some i =>
        exact g_name g.nd (by rw [g.hN]; exact SC.ix_ok q) (g.st hl).1 (g.st hl).2
    · exact bad_g
  · rename_i es k p
    cases q : tgIs s es with
    | none => exact bad_g
    | some is =>
      obtain ⟨h1, h2, h3, h4⟩ := tgIs_ok g q
      exact g_tup g.hK g.calm h2 h3 h4
  · split
    · rename_i o i p h
      refine g_sub (R.E X W n s g _) (R.E X W n s g _) (fun v => ?_)
      cases i <;> first | rfl | cases h
    · exact bad_g
  · exact bad_g
/-! ### except suites -/
theorem glob_okX {q : ErI} {a : Addr} {pn : List (Addr × Obj)} {x : Str} {p : Pos} (g : Good C X W G n s) (hg : gloB s.sc x = true) (ho : okN x = true) : SE (C.in_ q) (X.suite a pn) WF (.Name x p) (mGlob G.Γ x) := by
  have hg' : Gl (X.suite a pn) x := by unfold Gl PySem.Env.kindOf; show X.env.scope.names.lookup x = _; rw [g.sc]; exact gloB_ok hg
  obtain ⟨o1, o2⟩ := okN_ok ho
  cases q : G.Γ.con x with
  | some d =>
    obtain ⟨u, v, e1, e2, e3⟩ := g.gs.con x d q
    refine (s_glob (C := C.in_ _) (X := X.suite a pn) (W := WF) (pos := p) (d := d) hg' (by show X.mg x = _; rw [g.hm]; exact e1) e2 (fun mp H => (e3 mp H).er (C := C) (C' := C.in_ _) rfl rfl) o1).imp fun σ H Q ⟨mp, env, S, hR, hE, h⟩ => ⟨mp, env, S, hR, hE, ?_⟩
    unfold mGlob at h
    rw [q] at h
    exact h
  | none =>
    cases q1 : G.Γ.fre x with
    | false =>
      refine pe_no fun σ H Q ⟨mp, env, S, hR, hE, h⟩ => ?_
      unfold mGlob at h
      rw [q, q1] at h
      exact h
    | true =>
      cases q2 : btyOf x with
      | none =>
        refine pe_no fun σ H Q ⟨mp, env, S, hR, hE, h⟩ => ?_
        unfold mGlob at h
        rw [q, q1, q2] at h
        exact h
      | some t =>
        obtain ⟨b1, b2, b3⟩ := bty_ok q2
        refine (s_bltn (C := C.in_ _) (X := X.suite a pn) (W := WF) (pos := p) hg' (by show X.mg x = _; rw [g.hm]; exact g.gs.fre x q1) b1 b2 b3).imp fun σ H Q ⟨mp, env, S, hR, hE, h⟩ => ⟨mp, env, S, hR, hE, ?_⟩
        unfold mGlob at h
        rw [q, q1, q2] at h
        exact h
theorem name_okX {q : ErI} {a : Addr} {pn : List (Addr × Obj)} {x : Str} {p : Pos} (g : Good C X W G n s) : SE (C.in_ q) (X.suite a pn) WF (.Name x p) (nameM G s x) := by
  unfold nameM
  split
  · rename_i h
    obtain ⟨h1, h2⟩ := Bool.and_eq_true_iff.mp h
    obtain ⟨o1, o2⟩ := okN_ok h2
    cases q : s.ix x with
    | none => exact bad_e
    | some i => exact s_var (X := X.suite a pn) (by show X.N[i]? = _; rw [g.hN]; exact SC.ix_ok q) (by show Vis X.env.scope x; rw [g.sc]; exact visB_ok h1) o1 o2
  · split
    · rename_i h
      obtain ⟨h1, h2⟩ := Bool.and_eq_true_iff.mp h
      exact glob_okX g h1 h2
    · exact bad_e
theorem evX_ok {a : Addr} {oe : Obj} {cls : Value} {d : Option Addr} {pn : List (Addr × Obj)} {x : Exc} {i : Option Nat} {nm : Str} (g : Good C X W G n s) (hz : Zc cls d oe) (hf : ∃ vs, oe.data = .fields vs) :
    ∀ (k : Nat) (e : Expr), SE (C.in_ ⟨i, a, x, cls, d⟩) (X.suite a ((a, oe) :: pn)) WF e (evX G s i nm x k e)
  | 0, _ => bad_e
  | k + 1, e => by
    have ih := evX_ok (i := i) (nm := nm) (x := x) (pn := pn) (a := a) g hz hf k
    have args : ∀ es : List Expr, noStar es = true → SA (C.in_ ⟨i, a, x, cls, d⟩) (X.suite a ((a, oe) :: pn)) WF es (es.foldr (fun e m => mCons (evX G s i nm x k e) m) mNil) := by
      intro es
      induction es with
      | nil => exact fun _ => s_nil
      | cons e es ih2 => exact fun h => s_cons (ih e) (ih2 (noStar_tail h)) (starEach_cons h)
    unfold evX
    split
    · split
      · exact bad_e
      · exact name_okX g
    · exact s_int
    · exact s_bl
    · exact s_str
    · exact s_non
    · exact s_op (o_add (C := C.in_ _) (X := X.suite a ((a, oe) :: pn)) g.hK) (ih _) (ih _)
    · split
      · rename_i h
        exact s_lst (args _ h)
      · exact bad_e
    · split
      · rename_i h
        exact s_tup (args _ h)
      · exact bad_e
    · split
      · rename_i j
        split
        · rename_i h
          simp only [Bool.and_eq_true, decide_eq_true_eq] at h
          obtain ⟨rfl, ⟨h1, h2⟩, h3⟩ := h
          obtain ⟨o1, o2⟩ := okN_ok h2
          exact s_errF g.ge g.hK (by rw [g.hN]; exact SC.ix_ok h3) (by rw [g.sc]; exact visB_ok h1) o1 o2 hz hf (attrB_ok rfl)
        · exact bad_e
      · exact bad_e
    · split
      · rename_i j
        split
        · rename_i h
          simp only [Bool.and_eq_true, decide_eq_true_eq] at h
          obtain ⟨⟨⟨rfl, rfl⟩, ⟨h1, h2⟩, h3⟩, ⟨h4, h5⟩, h6⟩ := h
          obtain ⟨o1, o2⟩ := okN_ok h2
          exact s_errI g.gs g.ge g.hK g.hm h5 (by rw [g.hN]; exact SC.ix_ok h3) (by rw [g.sc]; exact visB_ok h1) o1 o2 hz hf (by unfold Gl PySem.Env.kindOf; rw [g.sc]; exact gloB_ok h4) (ih _) h6
        · exact bad_e
      · exact bad_e
    · exact bad_e
theorem evXs_ok {a : Addr} {oe : Obj} {cls : Value} {d : Option Addr} {pn : List (Addr × Obj)} {x : Exc} {i : Option Nat} {nm : Str} (g : Good C X W G n s) (hz : Zc cls d oe) (hf : ∃ vs, oe.data = .fields vs) :
    ∀ (st : List Stmt), SSs (C.in_ ⟨i, a, x, cls, d⟩) (X.suite a ((a, oe) :: pn)) WF st (evXs G s i nm x st)
  | [] => z_nil
  | st :: t => by
    unfold evXs
    refine z_cons ?_ (evXs_ok g hz hf t)
    split
    · exact z_ret (evX_ok g hz hf 12 _)
    · rename_i y p e p2
      split
      · rename_i h
        simp only [Bool.and_eq_true] at h
        obtain ⟨h1, h2⟩ := h
        cases q : s.ix y with
        | none => exact bad_s
        | some j =>
          exact z_set (X := X.suite a ((a, oe) :: pn)) g.nd (by show X.N[j]? = _; rw [g.hN]; exact SC.ix_ok q) (g.st h1).1 (g.st h1).2 (evX_ok g hz hf 12 _) (noComp_ok h2)
      · exact bad_s
    · exact z_pass
    · exact bad_s

/-! ### statements -/
theorem good_tr (g : Good C X W G n s) {W' : WX} {pn : List (Addr × Obj)} {xe : Value → Shared → Prop} (tk : Takes (X.tr pn xe) W') (po : PassesOwn (model X.prog X.w) X.A X.env xe) : Good C (X.tr pn xe) W' G n s where
  gs := g.gs
  gc := ⟨g.gc.room, g.gc.cal, g.gc.met⟩
  gx := ⟨g.gx.fl, g.gx.tx⟩
  ge := g.ge
  gm := g.gm
  tk := tk
  hK := g.hK
  hm := g.hm
  hN := g.hN
  nd := g.nd
  sc := g.sc
  calm := g.calm
  po := po
  er := g.er
  fn := g.fn
theorem stmts_ok (R : Rec r C G) (g : Good C X W G n s) (t : Top X) : ∀ st : List Stmt, SSs C X W st (evSs r s st)
  | [] => z_nil
  | st :: rest => z_cons (R.S X W n s g t st) (stmts_ok R g t rest)
theorem raise_ok {x : Str} {es : List Expr} {p1 p2 p3 : Pos} (R : Rec r C G) (g : Good C X W G n s) : SS C X W (.Raise (some (.Call (.Name x p1) es [] p2)) none p3) (raiseM G r s x es) := by
  unfold raiseM
  split
  · rename_i h
    simp only [Bool.and_eq_true] at h
    obtain ⟨⟨h1, h2⟩, h3⟩ := h
    have hg' : Gl X x := by unfold Gl PySem.Env.kindOf; rw [g.sc]; exact gloB_ok h1
    cases q : G.er x with
    | none => exact bad_s
    | some o =>
      cases o with
      | none =>
        dsimp only
        split
        · exact z_raiseT g.gx q g.hK g.hm g.calm g.tk hg' (okN_ok h2).1
        · exact bad_s
      | some ns =>
        dsimp only
        split
        · exact z_raise g.gx q g.hK g.hm g.calm g.tk g.gc.room (args_ok R g _ h3) hg' (okN_ok h2).1 (starEach_cons h3) (noStar_any (noStar_tail h3))
        · exact bad_s
  · exact bad_s
theorem mt_ok {x : Str} (g : Good C X W G n s) (hg : gloB s.sc x = true) (ho : okN x = true) (hc : (G.Γ.con x).isSome = true) : ∃ v, Names X x v ∧ Mt C v (G.mt x) := by
  obtain ⟨d, hd⟩ := Option.isSome_iff_exists.mp hc
  obtain ⟨u, v, h1, _⟩ := g.gs.con x d hd
  refine ⟨u, ⟨by unfold Gl PySem.Env.kindOf; rw [g.sc]; exact gloB_ok hg, (okN_ok ho).1, .inl (by rw [g.hm]; exact h1)⟩, ⟨fun c' b' k' h' hk => ?_⟩⟩
  obtain ⟨v', h1', h2'⟩ := g.gm x c' b' h'
  rw [h1] at h1'
  cases h1'
  exact h2' k' hk
theorem swB {elt tg iter : Expr} {ifs : List Expr} {scope : Scope} {vpos px : Pos} {x : Str} {l : Nat} {env : PySem.Env} : ∃ b, swapsWith (.ListComp elt [⟨tg, iter, ifs, 0⟩] scope vpos) (some (.Name x px)) l env = pure b := ⟨_, rfl⟩
theorem swC {elt tg iter : Expr} {ifs : List Expr} {scope : Scope} {vpos px : Pos} {x : Str} {l : Nat} {env : PySem.Env} (h : env.scope.names.lookup x = some .cell) : swapsWith (.ListComp elt [⟨tg, iter, ifs, 0⟩] scope vpos) (some (.Name x px)) l env = pure false := by
  have e : (env.kindOf x == some .local) = false := by
    unfold PySem.Env.kindOf
    rw [h]
    rfl
  show (pure (env.blockKind == .function && env.kindOf x == some .local && _ && _) : Sem Bool) = pure false
  rw [e]
  simp
theorem stepS_ok (R : Rec r C G) (g : Good C X W G n s) (t : Top X) (st : Stmt) : SS C X W st (stepS G r s st) := by
  have E := R.E X W n s g
  unfold stepS
  split
  · exact z_pass
  · exact z_break
  · exact z_continue
  · split
    · rename_i h
      exact z_expr (E _) (noComp_ok h)
    · exact bad_s
  · exact z_retN
  · exact z_ret (E _)
  · exact z_if (R.T X W n s g _) (stmts_ok R g t _) (stmts_ok R g t _)
  · rename_i x px value p
    split
    · rename_i hl
      obtain ⟨l1, l2⟩ := g.st hl
      cases q : s.ix x with
      | none => exact bad_s
      | some i =>
        have hi : X.N[i]? = some x := by rw [g.hN]; exact SC.ix_ok q
        dsimp only
        split
        · rename_i elt tg iter ifs scope vpos
          rcases lc_parts R g (elt := elt) (tg := tg) (iter := iter) (ifs := ifs) (scope := scope) with e | ⟨own, it, t', ts, e, h0, h1, h2, h3, h4, h5, h6, h7⟩
          · rw [e]; exact bad_s
          · rw [h0]
            obtain ⟨b, hb⟩ := swB (elt := elt) (tg := tg) (iter := iter) (ifs := ifs) (scope := scope) (vpos := vpos) (px := px) (x := x) (l := p.line) (env := X.env)
            rcases l1 with hx | hx
            · cases b with
              | true => exact z_setLc g.calm g.nd g.hK hi hx hb h1 h2 h3 h4 h5 h6 h7
              | false => exact z_set g.nd hi (.inl hx) l2 (s_lc g.calm g.nd g.hK h1 h2 h3 h4 h5 h6 h7) hb
            · exact z_set g.nd hi (.inr hx) l2 (s_lc g.calm g.nd g.hK h1 h2 h3 h4 h5 h6 h7) (swC hx)
        · split
          · rename_i h
            exact z_set g.nd hi l1 l2 (E _) (noComp_ok h)
          · exact bad_s
    · exact bad_s
  · split
    · rename_i h
      exact z_fld g.gs g.hK (E _) (E _) (noComp_ok h)
    · exact bad_s
  · rename_i tg value p hn1 hn2
    split
    · rename_i h
      simp only [Bool.and_eq_true] at h
      obtain ⟨⟨h1, h2⟩, h3⟩ := h
      have key : ∀ (h1 : (assignEach [tg] X.env).map (·.2) = [assign tg X.env]) (hw : swappedStores [tg] value X.env = pure none), SS C X W (.Assign [tg] value p) (sAsg (r.E s value) (evG r s tg)) := fun k1 k2 => z_asg (E _) (evG_ok R g tg) (evG_goes tg) (noComp_ok (t := some tg) h1) k2 k1
      cases tg with
      | Starred e p0 => cases h3
      | _ => exact key rfl (by cases value <;> first | rfl | cases h2)
    · exact bad_s
  · split
    · rename_i h
      exact z_for g.po g.calm (iter_ok R g _) (evG_ok R g _) (evG_goes _) (stmts_ok R g t _) (noSet_ok h)
    · exact bad_s
  · exact z_while g.po (R.T X W n s g _) (stmts_ok R g t _)
  · exact raise_ok R g
  · rename_i body x np nm b0 su p1 p2
    split
    · rename_i h
      simp only [Bool.and_eq_true] at h
      obtain ⟨⟨⟨h1, h2⟩, h3⟩, h4⟩ := h
      cases q : s.ix nm with
      | none => exact bad_s
      | some i =>
        dsimp only
        obtain ⟨v, hv, M⟩ := mt_ok g h1 h2 h3
        exact z_tryAs g.er g.hK t.st t.fr g.nd (by rw [g.hN]; exact SC.ix_ok q) (by unfold PySem.Env.kindOf; rw [g.sc]; exact locB_ok h4) hv M g.tk (fun W' pn xe tk po => stmts_ok R (good_tr g tk po) ⟨t.st, t.fr⟩ body) (fun a oe cls d pn x hz hf => evXs_ok g hz hf _)
    · exact bad_s
  · rename_i body x np b0 su p1 p2
    split
    · rename_i h
      simp only [Bool.and_eq_true] at h
      obtain ⟨⟨h1, h2⟩, h3⟩ := h
      obtain ⟨v, hv, M⟩ := mt_ok g h1 h2 h3
      exact z_try g.er g.hK t.st t.fr hv M g.tk (fun W' pn xe tk po => stmts_ok R (good_tr g tk po) ⟨t.st, t.fr⟩ body) (fun a oe cls d pn x hz hf => evXs_ok g hz hf _)
    · exact bad_s
  · exact bad_s
theorem ev_ok {C : Ctx} {G : GA} : ∀ k : Nat, Rec (ev G k) C G
  | 0 => ⟨fun _ _ _ _ _ _ => bad_e, fun _ _ _ _ _ _ => bad_t, fun _ _ _ _ _ _ _ => bad_s⟩
  | k + 1 => ⟨fun _ _ _ _ g e => stepE_ok (ev_ok k) g e, fun _ _ _ _ g e => stepT_ok (ev_ok k) g e, fun _ _ _ _ g t e => stepS_ok (ev_ok k) g t e⟩
end
end Bt

set_option Elab.async false
set_option linter.all false
set_option maxRecDepth 100000
set_option maxHeartbeats 2000000
namespace Bt
open PySem PySem.Spec PyProof.Rows L2

/-! ### defs -/
structure DefT where
  at_ : Str × Option Str
  name : Str
  qual : Str
  params : Arguments
  body : List Stmt
  scope : Scope
  N : List Str
  ps : List Str
  star : Option Str := none
def startE (N : List Str) (ds : List D) : Env := ds.map some ++ List.replicate (N.length - ds.length) none
def outM (r : Rs Fl) : Rs D := match r with
  | .ok (.nx _) S' => .ok .non S'
  | .ok (.rt d) S' => .ok d S'
  | .ok (.xc x _) S' => .exc x S'
  | _ => .fail
def fnM (N : List Str) (np : Nat) (b : MS) : List D → Sto → Rs D := fun ds S => if ds.length = np then outM (b (startE N ds) S) else .fail
def fnS (N : List Str) (np : Nat) (b : MS) : List D → Sto → Rs D := fun ds S => if np ≤ ds.length ∧ ds.length - np ≤ sizeLine then outM (b (startE N (ds.take np ++ [.tup (ds.drop np)])) S) else .fail
def DefT.mean (d : DefT) (G : GA) : MS := evSs (ev G 60) ⟨d.N, d.scope, true⟩ d.body
def DefT.run (d : DefT) (G : GA) : List D → Sto → Rs D := match d.star with
  | none => fnM d.N d.ps.length (d.mean G)
  | some _ => fnS d.N d.ps.length (d.mean G)
/-- the calls that a level knows -/
structure Lev (P : Program) (w : World) (base : Heap) (C : Ctx) (n : Nat) (Γ : GEnv) : Prop where
  cal : ∀ x g, Γ.cal x = some g → ∃ a, C.mg x = some (.ref a) ∧ PySem.W.keepIn C.K (.ref a) = true ∧
    (FnR P w C.K C.mg base (L2.CX P w) n a (spOf C g) ∨ ∃ gi fI, g = makeD x gi ∧ Mk C.K a fI ∧ FnR P w C.K C.mg base (L2.CX P w) n fI (spOf C gi))
  met : ∀ c m g, Γ.met c m = some g → ∃ k f, C.mg c = some (.ref k) ∧ Cls C.K k ∧ Meth C.K k m f ∧ FnR P w C.K C.mg base (L2.CX P w) n f (spOf C g)
/-- what never changes -/
structure Sta (P : Program) (w : World) (C : Ctx) (G : GA) : Prop where
  gs : GS C G.Γ
  fl : ∀ c ns, G.er c = some (some ns) → ∃ k, C.mg c = some (.ref k) ∧ OexC C.K k ∧ EMk P w C.K C.mg k ns
  tx : ∀ c, G.er c = some none → ∃ k, C.mg c = some (.ref k) ∧ PySem.W.excIn C.K k PySem.HandSPX.veTail "ValueError.__new__" = true ∧ PySem.W.keepIn C.K (.ref k) = true ∧ PySem.W.subIn C.K (.ref k) (.type "BaseException") = some true ∧ PySem.W.typeIn C.K (.ref k) = some (.type "type")
  ge : GE C G.xf G.xi
  gm : ∀ x c b, G.mt x c = some b → ∃ v, C.mg x = some v ∧ ∀ k, C.mg c = some (.ref k) → PySem.W.exmOne C.K (.ref k) v = some b
  er : C.er = none
section
variable {P : Program} {w : World} {base : Heap} {C : Ctx} {G : GA} {n : Nat} {mp : List Addr} {S : Sto} {H : Hp}
theorem map_get {α β : Type} {f : α → β} {l : List α} {i : Nat} {y : β} (h : (l.map f)[i]? = some y) : ∃ x, l[i]? = some x ∧ y = f x := by
  rw [List.getElem?_map] at h
  cases q : l[i]? with
  | none => rw [q] at h; cases h
  | some x => rw [q] at h; cases h; exact ⟨x, rfl, rfl⟩
theorem start_r (h0 : C.er = none) {N : List Str} {ds : List D} {vs : List V} (r : Reps C mp H ds vs) : EnvR C mp H (startE N ds) (L2.start N vs) := by
  have hl := r.length
  refine ⟨by simp [startE, L2.start, hl], fun i d e ne => ?_, fun q h => (by rw [h0] at h; cases h), fun i e => ?_⟩
  · unfold startE at e
    unfold L2.start
    by_cases hi : i < (ds.map some).length
    · rw [List.getElem?_append_left hi] at e
      obtain ⟨d', e1, e2⟩ := map_get e
      cases e2
      obtain ⟨v, h1, h2⟩ := r.get e1
      refine ⟨v, ?_, h2⟩
      rw [List.getElem?_append_left (by simpa [← hl] using hi), List.getElem?_map, h1]
      rfl
    · rw [List.getElem?_append_right (Nat.le_of_not_lt hi)] at e
      have := List.mem_of_getElem? e
      simp at this
  · unfold startE at e
    by_cases hi : i < (ds.map some).length
    · rw [List.getElem?_append_left hi] at e
      obtain ⟨d', e1, e2⟩ := map_get e
      cases e2
      obtain ⟨v, h1, h2⟩ := r.get e1
      exact h2.noexc.elim
    · rw [List.getElem?_append_right (Nat.le_of_not_lt hi)] at e
      have := List.mem_of_getElem? e
      simp at this
theorem out_post {r : Rs Fl} {Q : VK} {E : XK} (h : Post C (RD C) mp H [] (outM r) Q (fun c d _ H => E c d H)) : PostS C mp H r { nx := fun _ H' => Q .non H', rt := Q } (fun c d _ H => E c d H) := by
  cases r with
  | fail => exact h
  | exc x S => exact h
  | ok fl S =>
    cases fl with
    | nx e => exact fun mp1 H1 σ1 p1 l1 R1 _ => h mp1 H1 .non p1 l1 R1 .non
    | rt d => exact fun mp1 H1 v p1 l1 R1 r1 => h mp1 H1 v p1 l1 R1 r1
    | bk e => exact h.elim
    | ct e => exact h.elim
    | xc x e => exact fun mp1 H1 σ1 cls dd p1 l1 R1 _ r1 => h mp1 H1 cls dd p1 l1 R1 r1
/-- the context of a def's body is good -/
theorem good_def (St : Sta P w C G) (L : Lev P w base C n G.Γ) {N ps : List Str} {qual : Str} {scope : Scope} (FS : FnScope N ps scope) {f : Addr} {cdv : Value} {A : Around} {outer : List PySem.Env} {s : Shared} {E : XK} (hr : Room (n + 2) (A.deeper (envOfC qual scope s.heap.objs.size f cdv))) :
    Good C (cxOf (L2.CX P w) P w C.K C.mg base N qual scope f cdv A outer s H E) (fun c d _ H => E c d H) G n ⟨N, scope, true⟩ ∧ Top (cxOf (L2.CX P w) P w C.K C.mg base N qual scope f cdv A outer s H E) :=
  ⟨{ gs := St.gs
     gc := ⟨hr, L.cal, L.met⟩
     gx := ⟨St.fl, St.tx⟩
     ge := St.ge
     gm := St.gm
     tk := takes_of rfl rfl rfl rfl
     hK := rfl
     hm := rfl
     hN := rfl
     nd := FS.nd
     sc := rfl
     calm := rfl
     po := passes_of rfl
     er := St.er
     fn := fun _ _ => rfl }, ⟨rfl, rfl⟩⟩
/-- what the head tells of a def -/
structure DefOk (K : PySem.W.Frag) (d : DefT) (f : Addr) : Prop where
  lk : ∃ (oc : Value) (od : Option Addr) (kV doc pm : Value) (an : Option Addr) (cdv ct : Value) (osl : Array (Option Value)), K.lookup f = some ⟨oc, od, .func (PySem.W.fnOf d.name d.qual d.params d.body d.scope .none kV doc pm an cdv ct), osl⟩ ∧ PySem.W.codeIn K cdv d.qual = true
/-- what the text says of it -/
structure DefTx (d : DefT) : Prop where
  sc : FnScope d.N (d.ps ++ d.star.toList) d.scope
  bn : d.star = none → ∀ (kV doc pm : Value) (an : Option Addr) (cdv ct : Value) (us : List Value), us.length = d.ps.length → bindArgs (PySem.W.fnOf d.name d.qual d.params d.body d.scope .none kV doc pm an cdv ct) ⟨us, []⟩ = pure (d.ps.zip us)
  bs : ∀ pv, d.star = some pv → ∀ (kV doc pm : Value) (an : Option Addr) (cdv ct : Value) (us rest : List Value), us.length = d.ps.length → bindArgs (PySem.W.fnOf d.name d.qual d.params d.body d.scope .none kV doc pm an cdv ct) ⟨us ++ rest, []⟩ = (newTuple rest >>= fun t => pure (d.ps.zip us ++ [(pv, t)]))
theorem sp_len {d : DefT} (hs : d.star = none) : ∀ vs H Q E, spOf C (d.run G) vs H Q E → vs.length = d.ps.length := by
  intro vs H Q E ⟨mp, S, ds, hR, rd, hp⟩
  unfold DefT.run at hp
  rw [hs] at hp
  unfold fnM at hp
  dsimp only at hp
  by_cases z : ds.length = d.ps.length
  · rw [← rd.length]; exact z
  · rw [if_neg z] at hp; exact hp.elim
theorem fn_ok0 (St : Sta P w C G) (L : Lev P w base C n G.Γ) {d : DefT} {f : Addr} (D : DefTx d) (hs : d.star = none) {oc : Value} {od : Option Addr} {kV doc pm : Value} {an : Option Addr} {cdv ct : Value} {osl : Array (Option Value)}
    (lk : C.K.lookup f = some ⟨oc, od, .func (PySem.W.fnOf d.name d.qual d.params d.body d.scope .none kV doc pm an cdv ct), osl⟩) (hcd : PySem.W.codeIn C.K cdv d.qual = true) :
    FnOk P w C.K C.mg base (L2.CX P w) (n + 3) f (PySem.W.fnOf d.name d.qual d.params d.body d.scope .none kV doc pm an cdv ct) d.ps (spOf C (d.run G)) := by
  have FS := D.sc
  rw [hs] at FS
  simp only [Option.toList_none, List.append_nil] at FS
  refine fn_of (k := n + 2) lk hcd FS (sp_len hs) fun A outer s H vs Q E hr ⟨mp, S, ds, hR, rd, hp⟩ => ?_
  obtain ⟨g, t⟩ := good_def (E := E) (H := H) (outer := outer) St L FS hr
  refine ⟨_, stmts_ok (ev_ok 60) g t d.body, mp, startE d.N ds, S, hR, start_r St.er rd, out_post ?_⟩
  unfold DefT.run at hp
  rw [hs] at hp
  unfold fnM at hp
  dsimp only at hp
  by_cases z : ds.length = d.ps.length
  · rw [if_pos z] at hp; exact hp
  · rw [if_neg z] at hp; exact hp.elim
theorem fn_ok (St : Sta P w C G) (L : Lev P w base C n G.Γ) {d : DefT} {f : Addr} (D : DefTx d) (Dk : DefOk C.K d f) : FnR P w C.K C.mg base (L2.CX P w) (n + 3) f (spOf C (d.run G)) := by
  obtain ⟨oc, od, kV, doc, pm, an, cdv, ct, osl, lk, hcd⟩ := Dk.lk
  cases hs : d.star with
  | none =>
    have F := fn_ok0 St L D hs lk hcd
    have B : Binds C.K (PySem.W.fnOf d.name d.qual d.params d.body d.scope .none kV doc pm an cdv ct) d.ps [] := .all (D.bn hs kV doc pm an cdv ct)
    refine (F.raw B .nil).imp fun vs H Q E h => ?_
    rw [List.append_nil]
    exact h
  | some pv =>
    have FS := D.sc
    rw [hs] at FS
    refine (StX.fn_star (k := n + 2) (sp := fun vs H Q E => ∃ mp S ds, Rel C mp S H ∧ Reps C mp H ds vs ∧ Post C (RD C) mp H [] (outM (d.mean G (startE d.N ds) S)) Q (fun c d _ H => E c d H)) lk hcd FS ?_ (D.bs pv hs kV doc pm an cdv ct) fun A outer s H vs Q E hr ⟨mp, S, ds, hR, rd, hp⟩ => ?_).imp fun vs H Q E ⟨mp, S, ds, hR, rd, hp⟩ => ?_
    · exact StX.cxUp
    · obtain ⟨g, t⟩ := good_def (E := E) (H := H) (outer := outer) St L FS hr
      exact ⟨_, stmts_ok (ev_ok 60) g t d.body, mp, startE d.N ds, S, hR, start_r St.er rd, out_post hp⟩
    · unfold DefT.run at hp
      rw [hs] at hp
      unfold fnS at hp
      dsimp only at hp
      by_cases z : d.ps.length ≤ ds.length ∧ ds.length - d.ps.length ≤ sizeLine
      · rw [if_pos z] at hp
        have hl := rd.length
        refine ⟨vs.take d.ps.length, vs.drop d.ps.length, (List.take_append_drop _ _).symm, by rw [List.length_take]; omega, by rw [List.length_drop, ← hl]; exact z.2, fun p hp0 => ?_⟩
        have le : HLe H (upd H p (.tup (vs.drop d.ps.length))) := HLe.new hp0
        refine ⟨mp, S, _, hR.new hp0, ((rd.take d.ps.length).mono (List.prefix_refl _) le).append (.cons (.tup (.inl upd_same) ((rd.drop d.ps.length).mono (List.prefix_refl _) le)) .nil), hp.mono (List.prefix_refl _) le⟩
      · rw [if_neg z] at hp; exact hp.elim
end
end Bt

set_option Elab.async false
set_option linter.all false
set_option maxRecDepth 100000
set_option maxHeartbeats 2000000
namespace Bt
open PySem PySem.Spec PyProof.Rows L2 PySem.W

/-! ### what a program's top says: a table -/
structure TabD where
  con : List (Str × D)
  fre : List Str
  cls : List Str
  isi : List ((Ty × Ty) × Bool)
  noa : List (Str × Str)
  ers : List (Str × List Str)
  ert : List Str
  xi : List Str
  xf : List (Str × Str)
  mt : List ((Str × Str) × Bool)
  fns : List (Str × DefT)
  mks : List (Str × DefT)
  mts : List ((Str × Str) × DefT)
def TabD.env (T : TabD) (cal : Str → Option (List D → Sto → Rs D)) (met : Str → Str → Option (List D → Sto → Rs D)) : GEnv where
  con := fun x => T.con.lookup x
  fre := fun x => T.fre.contains x
  cls := fun x => T.cls.contains x
  isi := fun t u => T.isi.lookup (t, u)
  noa := fun c f => T.noa.contains (c, f)
  cal := cal
  met := met
def TabD.gaOf (T : TabD) (Γ : GEnv) : GA := ⟨Γ, fun c => match T.ers.lookup c with
  | some ns => some (some ns)
  | none => if T.ert.contains c then some none else none, fun c f => T.xf.contains (c, f), fun c => T.xi.contains c, fun x c => T.mt.lookup (x, c)⟩
def TabD.ga (T : TabD) : Nat → GA
  | 0 => T.gaOf (T.env (fun _ => none) (fun _ _ => none))
  | k + 1 => T.gaOf (T.env (fun x => match T.fns.lookup x with
    | some d => some (d.run (T.ga k))
    | none => (match T.mks.lookup x with
      | some d => some (makeD x (d.run (T.ga k)))
      | none => none)) (fun c m => (T.mts.lookup (c, m)).map fun d => d.run (T.ga k)))
structure TabOk (P : Program) (w : World) (C : Ctx) (T : TabD) : Prop where
  sta : Sta P w C (T.ga 0)
  fns : ∀ x d, T.fns.lookup x = some d → DefTx d ∧ ∃ a, C.mg x = some (.ref a) ∧ keepIn C.K (.ref a) = true ∧ DefOk C.K d a
  mks : ∀ x d, T.mks.lookup x = some d → DefTx d ∧ ∃ a fI, C.mg x = some (.ref a) ∧ keepIn C.K (.ref a) = true ∧ Mk C.K a fI ∧ DefOk C.K d fI
  mts : ∀ c m d, T.mts.lookup (c, m) = some d → DefTx d ∧ ∃ k f, C.mg c = some (.ref k) ∧ Cls C.K k ∧ Meth C.K k m f ∧ DefOk C.K d f
section
variable {P : Program} {w : World} {base : Heap} {C : Ctx} {T : TabD}
theorem TabOk.staAt (O : TabOk P w C T) : ∀ k, Sta P w C (T.ga k)
  | 0 => O.sta
  | k + 1 => ⟨⟨O.sta.gs.con, O.sta.gs.fre, O.sta.gs.cls, O.sta.gs.isi, O.sta.gs.noa, O.sta.gs.nf⟩, O.sta.fl, O.sta.tx, O.sta.ge, O.sta.gm, O.sta.er⟩
theorem TabOk.lev {base : Heap} (O : TabOk P w C T) : ∀ k, Lev P w base C (3 * k) (T.ga k).Γ
  | 0 => ⟨fun x g h => (by cases h), fun c m g h => (by cases h)⟩
  | k + 1 => by
    have ih : Lev P w base C (3 * k) (T.ga k).Γ := TabOk.lev O k
    refine ⟨fun x g h => ?_, fun c m g h => ?_⟩
    · have h' : (match T.fns.lookup x with
        | some d => some (d.run (T.ga k))
        | none => (match T.mks.lookup x with
          | some d => some (makeD x (d.run (T.ga k)))
          | none => none)) = some g := h
      cases q : T.fns.lookup x with
      | some d =>
        rw [q] at h'
        cases h'
        obtain ⟨tx, a, h1, h2, h3⟩ := O.fns x d q
        exact ⟨a, h1, h2, .inl (fn_ok (O.staAt k) ih tx h3)⟩
      | none =>
        rw [q] at h'
        dsimp only at h'
        cases q1 : T.mks.lookup x with
        | none => rw [q1] at h'; cases h'
        | some d =>
          rw [q1] at h'
          cases h'
          obtain ⟨tx, a, fI, h1, h2, h3, h4⟩ := O.mks x d q1
          exact ⟨a, h1, h2, .inr ⟨_, fI, rfl, h3, fn_ok (O.staAt k) ih tx h4⟩⟩
    · have h' : ((T.mts.lookup (c, m)).map fun d => d.run (T.ga k)) = some g := h
      cases q : T.mts.lookup (c, m) with
      | none => rw [q] at h'; cases h'
      | some d =>
        rw [q] at h'
        cases h'
        obtain ⟨tx, kk, f, h1, h2, h3, h4⟩ := O.mts c m d q
        exact ⟨kk, f, h1, h2, h3, fn_ok (O.staAt k) ih tx h4⟩
end

/-! ### checks over the written part -/
def gA (K : Frag) (x : Str) : Option Addr := match nsIn K mainGlobals x with
  | some (some (.ref a)) => some a
  | _ => none
mutual
def repB (K : Frag) : D → Value → Bool
  | .non, .none => true
  | .bl b, .bool c => b == c
  | .int i, .int j _ => decide (i = j)
  | .str x, .str y _ => decide (x = y)
  | .tup ds, .ref a => (match K.lookup a with
    | some ⟨.type t, _, .seq its _, _⟩ => decide (t = "tuple") && decide (its.size ≤ 1000) && repsB K ds its.toList
    | _ => false)
  | .glo y, .ref a => decide (nsIn K mainGlobals y = some (some (.ref a)))
  | .ty n, .type m => decide (n = m)
  | _, _ => false
def repsB (K : Frag) : List D → List Value → Bool
  | [], [] => true
  | d :: ds, u :: us => repB K d u && repsB K ds us
  | _, _ => false
end
def conB (K : Frag) (q : Str × D) : Bool := match nsIn K mainGlobals q.1 with
  | some (some u) => repB K q.2 u
  | _ => false
def freB (K : Frag) (x : Str) : Bool := decide (nsIn K mainGlobals x = some none)
def clsB (K : Frag) (c : Str) : Bool := match gA K c with
  | some k => (plainGet K k Str.empty && hasDictIn K k && plainOver K k && decide (findIn K (.ref k) "__setattr__" = some (some (.builtin "object.__setattr__")))) && (decide (findIn K (.ref k) "__class__" = some (some (.builtin "object.__class__"))) && decide (specialIn K (.builtin "object.__class__") "__get__" = some (some (.builtin "getset_descriptor.__get__"))) && decide (takesIn K (.builtin "object.__class__") = some true) && decide (mroIn K k (.type "object") = some true))
  | none => false
def tvB (K : Frag) : Ty → Option Value
  | .b n => some (.type n)
  | .o c => (gA K c).map .ref
def isiB (cls : List Str) (K : Frag) (q : (Ty × Ty) × Bool) : Bool := match tvB K q.1.1, tvB K q.1.2 with
  | some tv, some uv => decide (kitOne K tv uv = some q.2) && (match q.1.2, uv with
    | .o c, .ref k => !(cls.contains c) || notFirst K k tv
    | .o _, _ => false
    | .b _, _ => true)
  | _, _ => false
def noaB (K : Frag) (q : Str × Str) : Bool := match gA K q.1 with
  | some k => decide (findIn K (.ref k) q.2 = some none)
  | none => false
section
variable {K : Frag} {h : Heap} {mg : Str → Option Value}
theorem gA_ok (X : K.In h) (Gl : h.Ns mainGlobals mg) {x : Str} {a : Addr} (e : gA K x = some a) : mg x = some (.ref a) := by
  unfold gA at e
  split at e
  · rename_i a' q
    cases e
    exact mg_of X Gl q
  · cases e
mutual
theorem repB_ok (X : K.In h) (Gl : h.Ns mainGlobals mg) : ∀ (d : D) (u : Value), repB K d u = true → ∃ v, RelV v u ∧ ∀ mp H, Rep ⟨K, mg, none⟩ mp H d v
  | .non, u, e => by
    cases u <;> first | (cases e; done) | exact ⟨.non, rfl, fun _ _ => .non⟩
  | .bl b, u, e => by
    cases u <;> first | (cases e; done) | skip
    rename_i c
    have e' : b = c := by simpa [repB] using e
    exact ⟨.bl b, by rw [e']; rfl, fun _ _ => .bl b⟩
  | .int i, u, e => by
    cases u <;> first | (cases e; done) | skip
    rename_i j t
    have e' : i = j := by simpa [repB] using e
    exact ⟨.int i, by rw [e']; exact ⟨_, rfl⟩, fun _ _ => .int i⟩
  | .str x, u, e => by
    cases u <;> first | (cases e; done) | skip
    rename_i y t
    have e' : x = y := by simpa [repB] using e
    exact ⟨.str x, by rw [e']; exact ⟨_, rfl⟩, fun _ _ => .str x⟩
  | .tup ds, u, e => by
    cases u <;> first | (cases e; done) | skip
    rename_i a
    unfold repB at e
    split at e
    · rename_i t od its n osl q
      simp only [Bool.and_eq_true, decide_eq_true_eq] at e
      obtain ⟨⟨rfl, e2⟩, e3⟩ := e
      obtain ⟨vs, r1, r2⟩ := repsB_ok X Gl ds its.toList e3
      exact ⟨.ref a, rfl, fun mp H => .tup (.inr ⟨_, its, n, q, rfl, rfl, by rw [sizeLine_eq]; omega, r1⟩) (r2 mp H)⟩
    · cases e
  | .ref n, u, e => by cases u <;> cases e
  | .glo y, u, e => by
    cases u <;> first | (cases e; done) | skip
    rename_i a
    have e' : nsIn K mainGlobals y = some (some (.ref a)) := by simpa [repB] using e
    exact ⟨.ref a, rfl, fun _ _ => .glo (mg_of X Gl e')⟩
  | .ty n, u, e => by
    cases u <;> first | (cases e; done) | skip
    rename_i m
    have e' : n = m := by simpa [repB] using e
    exact ⟨.ty n, by rw [e']; rfl, fun _ _ => .ty n⟩
  | .exc, u, e => by cases u <;> cases e
  | .fz ds, u, e => by cases u <;> cases e
theorem repsB_ok (X : K.In h) (Gl : h.Ns mainGlobals mg) : ∀ (ds : List D) (us : List Value), repsB K ds us = true → ∃ vs, Vals vs us ∧ ∀ mp H, Reps ⟨K, mg, none⟩ mp H ds vs
  | [], [], _ => ⟨[], .nil, fun _ _ => .nil⟩
  | [], _ :: _, e => by cases e
  | _ :: _, [], e => by cases e
  | d :: ds, u :: us, e => by
    unfold repsB at e
    obtain ⟨e1, e2⟩ := Bool.and_eq_true_iff.mp e
    obtain ⟨v, r1, r2⟩ := repB_ok X Gl d u e1
    obtain ⟨vs, r3, r4⟩ := repsB_ok X Gl ds us e2
    exact ⟨v :: vs, .cons r1 r3, fun mp H => .cons (r2 mp H) (r4 mp H)⟩
end
end
end Bt

set_option Elab.async false
set_option linter.all false
set_option maxRecDepth 100000
set_option maxHeartbeats 2000000
namespace Bt
open PySem PySem.Spec PyProof.Rows L2 PySem.W PySem.HandSPX

/-! ### own errors, checked -/
def oexB (K : Frag) (C : Addr) : Bool := (match K.lookup C with
  | some ⟨.type t, _, .cls cd, sl⟩ => decide (t = "type") && (match cd.mro, sl.toList with
    | .ref C' :: bm, [_, _, _, _, some (.builtin n), _] => decide (C' = C) && decide (n = "ValueError.__new__") && !cd.hasDel && cd.hasDict && refsVE bm
    | _, _ => false)
  | _ => false) && (decide (findIn K (.ref C) "__setattr__" = some (some (.builtin "object.__setattr__"))) && decide (subIn K (.ref C) (.type "BaseException") = some true) && decide (typeIn K (.ref C) = some (.type "type")) && keepIn K (.ref C))
theorem oexB_ok {K : Frag} {C : Addr} (h : oexB K C = true) : OexC K C := by
  unfold oexB at h
  obtain ⟨h1, h2⟩ := Bool.and_eq_true_iff.mp h
  simp only [Bool.and_eq_true, decide_eq_true_eq] at h2
  obtain ⟨⟨⟨k1, k2⟩, k3⟩, k4⟩ := h2
  refine ⟨?_, k1, k2, k3, k4⟩
  split at h1
  · rename_i t dd cd sl ho
    obtain ⟨ht, h3⟩ := Bool.and_eq_true_iff.mp h1
    clear h1
    have ht' := of_decide_eq_true ht
    subst ht'
    split at h3
    · rename_i C' bm s0 s1 s2 s3 n s5 hm hs
      simp only [Bool.and_eq_true, decide_eq_true_eq, Bool.not_eq_true'] at h3
      obtain ⟨⟨⟨⟨e1, e2⟩, hdel⟩, hdct⟩, hr⟩ := h3
      subst e1 e2
      obtain ⟨nm, bs, mro, ns, qn, hd, sn, sub, ab, col, del⟩ := cd
      dsimp only at hm hdel hdct
      subst hm
      subst hdel
      subst hdct
      have hsl : sl = #[s0, s1, s2, s3, some (.builtin "ValueError.__new__"), s5] := by
        obtain ⟨l⟩ := sl
        simp only at hs
        rw [hs]
      subst hsl
      exact ⟨nm, qn, ns, bs, bm, sn, sub, ab, col, dd, s0, s1, s2, s3, s5, ho, hr⟩
    · cases h3
  · cases h1
def isSelf (x : Str) : Bool := decide (x = "self")
def supB : Stmt → Bool
  | .Expr (.Call (.Attribute (.Call (.Name a _) [] [] _) b p2) [.Constant (.str _) _ _] [] p4) _ => decide (a = "super") && decide (b = "__init__") && (p2.endLine == p4.line)
  | _ => false
theorem supB_ok {st : Stmt} (h : supB st = true) : ∃ msg j p0 p1 p2 p3 p4 p5, st = supSt msg j p0 p1 p2 p3 p4 p5 ∧ (p2.endLine == p4.line) = true := by
  unfold supB at h
  split at h
  · rename_i a p0 p1 b p2 msg j p3 p4 p5
    simp only [Bool.and_eq_true, decide_eq_true_eq] at h
    obtain ⟨⟨rfl, rfl⟩, h⟩ := h
    exact ⟨msg, j, p0, p1, p2, p3, p4, p5, rfl, h⟩
  · cases h
def stoB (f : Str) : Stmt → Bool
  | .Assign [.Attribute (.Name a _) b _] (.Name c _) _ => decide (a = "self") && decide (b = f) && decide (c = f)
  | _ => false
theorem stoB_ok {f : Str} {st : Stmt} (h : stoB f st = true) : ∃ q1 q2 q3 q4, st = stoSt f q1 q2 q3 q4 := by
  unfold stoB at h
  split at h
  · rename_i a q1 b q2 c q3 q4
    simp only [Bool.and_eq_true, decide_eq_true_eq] at h
    obtain ⟨⟨rfl, rfl⟩, rfl⟩ := h
    exact ⟨q1, q2, q3, q4, rfl⟩
  · cases h
def argB (f : Str) : Arg → Bool
  | ⟨a, none, _⟩ => decide (a = f)
  | _ => false
theorem argB_ok {f : Str} {a : Arg} (h : argB f a = true) : ∃ p, a = arg1 f p := by
  unfold argB at h
  split at h
  · rename_i x p
    have := of_decide_eq_true h
    subst this
    exact ⟨p, rfl⟩
  · cases h
def argsB1 (f : Str) : Arguments → Bool
  | ⟨[], [a, b], none, [], [], none, []⟩ => argB "self" a && argB f b
  | _ => false
theorem argsB1_ok {f : Str} {a : Arguments} (h : argsB1 f a = true) : ∃ ps pf, a = iArgs [("self", ps), (f, pf)] := by
  unfold argsB1 at h
  split at h
  · obtain ⟨k1, k2⟩ := Bool.and_eq_true_iff.mp h
    obtain ⟨ps, e1⟩ := argB_ok k1
    obtain ⟨pf, e2⟩ := argB_ok k2
    rw [e1, e2]
    exact ⟨ps, pf, rfl⟩
  · cases h
def argsB2 (f g : Str) : Arguments → Bool
  | ⟨[], [a, b, c], none, [], [], none, []⟩ => argB "self" a && argB f b && argB g c
  | _ => false
theorem argsB2_ok {f g : Str} {a : Arguments} (h : argsB2 f g a = true) : ∃ ps pf pg, a = iArgs [("self", ps), (f, pf), (g, pg)] := by
  unfold argsB2 at h
  split at h
  · simp only [Bool.and_eq_true] at h
    obtain ⟨⟨k1, k2⟩, k3⟩ := h
    obtain ⟨ps, e1⟩ := argB_ok k1
    obtain ⟨pf, e2⟩ := argB_ok k2
    obtain ⟨pg, e3⟩ := argB_ok k3
    rw [e1, e2, e3]
    exact ⟨ps, pf, pg, rfl⟩
  · cases h
def scB (fs : List Str) (sc : Scope) : Bool := decide (sc.names.lookup ("super" : Str) = some .globalImplicit) && decide (sc.names.lookup ("__class__" : Str) = some .free) && decide (sc.names.lookup ("self" : Str) = some .local) && (match sc.kind with | .function => true | _ => false) && (sc.names.all fun x => match x.2 with | .cell => false | _ => true) && !sc.isCoroutine && !sc.isGenerator && (fs.all fun f => decide (sc.names.lookup f = some .local))
theorem scB_ok {fs : List Str} {sc : Scope} (h : scB fs sc = true) : ErrSc sc ∧ ∀ f ∈ fs, sc.names.lookup f = some .local := by
  unfold scB at h
  simp only [Bool.and_eq_true, decide_eq_true_eq, Bool.not_eq_true'] at h
  obtain ⟨⟨⟨⟨⟨⟨⟨h1, h2⟩, h3⟩, h4⟩, h5⟩, h6⟩, h7⟩, h8⟩ := h
  refine ⟨⟨h1, h2, h3, ?_, fun x hx e => ?_, h6, h7⟩, fun f hf => of_decide_eq_true (List.all_eq_true.mp h8 f hf)⟩
  · split at h4
    · assumption
    · cases h4
  · have := List.all_eq_true.mp h5 x hx
    rw [e] at this
    cases this
def codeB (P : Program) (K : Frag) (cda : Addr) : Bool := match K.lookup cda with
  | some ⟨_, _, .fields vs, _⟩ => (match (vs[2]? : Option Value) with
    | some (.str file _) => ((P.main.file : Str) == file)
    | _ => false)
  | _ => false
def cellB (K : Frag) (cc C : Addr) : Bool := match K.lookup cc with
  | some ⟨_, _, .cell (some (.ref D)), _⟩ => decide (D = C)
  | _ => false
/-- the fields that are known -/
def fldsB (fs : List Str) : Bool := decide (fs = [("index" : Str)]) || decide (fs = [("name" : Str)]) || decide (fs = [("limit" : Str)]) || decide (fs = [("place" : Str), "why"]) || decide (fs = [("index" : Str), "code"])
def bodyB1 (f : Str) : List Stmt → Bool
  | [s0, s1] => supB s0 && stoB f s1
  | _ => false
def bodyB2 (f g : Str) : List Stmt → Bool
  | [s0, s1, s2] => supB s0 && stoB f s1 && stoB g s2
  | _ => false
theorem bodyB1_ok {f : Str} {b : List Stmt} (h : bodyB1 f b = true) : ∃ msg j p0 p1 p2 p3 p4 p5 q1 q2 q3 q4, b = [supSt msg j p0 p1 p2 p3 p4 p5, stoSt f q1 q2 q3 q4] ∧ (p2.endLine == p4.line) = true := by
  unfold bodyB1 at h
  split at h
  · obtain ⟨k1, k2⟩ := Bool.and_eq_true_iff.mp h
    obtain ⟨msg, j, p0, p1, p2, p3, p4, p5, e1, hl⟩ := supB_ok k1
    obtain ⟨q1, q2, q3, q4, e2⟩ := stoB_ok k2
    rw [e1, e2]
    exact ⟨msg, j, p0, p1, p2, p3, p4, p5, q1, q2, q3, q4, rfl, hl⟩
  · cases h
theorem bodyB2_ok {f g : Str} {b : List Stmt} (h : bodyB2 f g b = true) : ∃ msg j p0 p1 p2 p3 p4 p5 q1 q2 q3 q4 r1 r2 r3 r4, b = [supSt msg j p0 p1 p2 p3 p4 p5, stoSt f q1 q2 q3 q4, stoSt g r1 r2 r3 r4] ∧ (p2.endLine == p4.line) = true := by
  unfold bodyB2 at h
  split at h
  · simp only [Bool.and_eq_true] at h
    obtain ⟨⟨k1, k2⟩, k3⟩ := h
    obtain ⟨msg, j, p0, p1, p2, p3, p4, p5, e1, hl⟩ := supB_ok k1
    obtain ⟨q1, q2, q3, q4, e2⟩ := stoB_ok k2
    obtain ⟨r1, r2, r3, r4, e3⟩ := stoB_ok k3
    rw [e1, e2, e3]
    exact ⟨msg, j, p0, p1, p2, p3, p4, p5, q1, q2, q3, q4, r1, r2, r3, r4, rfl, hl⟩
  · cases h
def txtB (fs : List Str) (a : Arguments) (b : List Stmt) : Bool := match fs with
  | [f] => argsB1 f a && bodyB1 f b
  | [f, g] => argsB2 f g a && bodyB2 f g b
  | _ => false
def errFB (P : Program) (K : Frag) (C fI : Addr) (fs : List Str) : Bool := match K.lookup fI with
  | some ⟨_, _, .func fd, _⟩ => (match fd.body, fd.closure, fd.code with
    | .stmts b, [(cl, cc)], .ref cda => decide (cl = "__class__") && decide (fd.name = "__init__") && decide (fd.globals = mainGlobals) && decide (fd.builtins = builtinsNs) && (match fd.defaults with | .none => true | _ => false) && (match fd.kwdefaults with | .none => true | _ => false) && (codeIn K (.ref cda) fd.qualname && cellB K cc C && codeB P K cda && txtB fs fd.params b && scB fs fd.scope)
    | _, _, _ => false)
  | _ => false
def errB (P : Program) (K : Frag) (q : Str × List Str) : Bool := match gA K q.1 with
  | some C => (match findIn K (.ref C) "__init__" with
    | some (some (.ref fI)) => errFB P K C fI q.2 && decide (typeIn K (.ref fI) = some (.type "function")) && oexB K C && fldsB q.2 && (q.2.all fun f => decide (findIn K (.ref C) f = some none)) &&
      (decide (nsIn K cStatics "thirdparty.any" = some none) && decide (nsIn K mainGlobals "super" = some none) && decide (ks_superIn K C C "__init__" = some (some (.builtin "ValueError.__init__"))) && decide (mroIn K C (.ref C) = some true) && decide (subIn K (.ref C) (.type "ValueError") = some true) && !(P.main.scope.names.lookup ("super" : Str)).isSome)
    | _ => false)
  | none => false
theorem errB_ok {P : Program} {w : World} {K : Frag} {h : Heap} {mg : Str → Option Value} (X : K.In h) (Gm : h.Ns mainGlobals mg) {q : Str × List Str} (e : errB P K q = true) : ∃ k, mg q.1 = some (.ref k) ∧ OexC K k ∧ EMk P w K mg k q.2 := by
  unfold errB at e
  cases q1 : gA K q.1 with
  | none => rw [q1] at e; cases e
  | some C =>
    rw [q1] at e
    dsimp only at e
    split at e
    · rename_i fI hi
      simp only [Bool.and_eq_true, decide_eq_true_eq, Bool.not_eq_true'] at e
      obtain ⟨⟨⟨⟨⟨e1, e2⟩, e3⟩, e4⟩, e5⟩, ⟨⟨⟨⟨⟨a1, a2⟩, a3⟩, a4⟩, a5⟩, a6⟩⟩ := e
      have ox := oexB_ok e3
      have T : ErrC P K mg C := ⟨ox, a1, mg_none_of X Gm a2, a3, a4, a5, a6⟩
      refine ⟨C, gA_ok X Gm q1, ox, ?_⟩
      unfold errFB at e1
      split at e1
      · rename_i oc od fd osl lk
        split at e1
        · rename_i b cl cc cda hb hcl hcd
          simp only [Bool.and_eq_true, decide_eq_true_eq] at e1
          obtain ⟨⟨⟨⟨⟨⟨b1, b2⟩, b3⟩, b4⟩, b5⟩, b6⟩, ⟨⟨⟨⟨c1, c2⟩, c3⟩, c4⟩, c6⟩⟩ := e1
          obtain ⟨n1, n2, n3, n4, n5, n6, n7, n8, n9, n10, n11, n12, n13, n14, n15⟩ := fd
          dsimp only at hb hcl hcd b2 b3 b4 b5 b6 c1 c4 c6
          subst hb hcl hcd b1 b2 b3 b4
          have d8 : n8 = .none := by
            cases n8 <;> first | rfl | cases b5
          have d9 : n9 = .none := by
            cases n9 <;> first | rfl | cases b6
          subst d8 d9
          obtain ⟨S, hS⟩ := scB_ok c6
          have F1 : ErrFn P K C fI n3 b n5 n2 cda cc := by
            refine ⟨⟨oc, od, n10, n11, n12, n14, osl, lk⟩, c1, ?_, ?_, hi, e2⟩
            · unfold codeB at c3
              split at c3
              · rename_i ccl cdd vs ccs l1
                split at c3
                · rename_i file tf l2
                  exact ⟨ccl, cdd, vs, ccs, file, tf, l1, l2, c3⟩
                · cases c3
              · cases c3
            · unfold cellB at c2
              split at c2
              · rename_i ccl cdd D ccs l1
                have := of_decide_eq_true c2
                subst this
                exact ⟨_, _, _, l1⟩
              · cases c2
          have noF : ∀ f ∈ q.2, findIn K (.ref C) f = some none := fun f hf => of_decide_eq_true (List.all_eq_true.mp e5 f hf)
          obtain ⟨c, fs⟩ := q
          dsimp only at *
          have one : ∀ f, fs = [f] → Bnd1 f → EMk P w K mg C [f] := by
            intro f ef B
            rw [ef] at c4 hS noF
            obtain ⟨k1, k2⟩ := Bool.and_eq_true_iff.mp (show (argsB1 f n3 && bodyB1 f b) = true from c4)
            obtain ⟨ps, pf, e1⟩ := argsB1_ok k1
            obtain ⟨msg, j, p0, p1, p2, p3, p4, p5, q1, q2, q3, q4, e2, hl⟩ := bodyB1_ok k2
            rw [e1, e2] at F1
            exact emk1 T F1 S hl (hS _ (by simp)) B (noF _ (by simp))
          have two : ∀ f g, fs = [f, g] → Bnd2 f g → EMk P w K mg C [f, g] := by
            intro f g ef B
            rw [ef] at c4 hS noF
            obtain ⟨k1, k2⟩ := Bool.and_eq_true_iff.mp (show (argsB2 f g n3 && bodyB2 f g b) = true from c4)
            obtain ⟨ps, pf, pg, e1⟩ := argsB2_ok k1
            obtain ⟨msg, j, p0, p1, p2, p3, p4, p5, q1, q2, q3, q4, r1, r2, r3, r4, e2, hl⟩ := bodyB2_ok k2
            rw [e1, e2] at F1
            exact emk2 T F1 S hl (hS _ (by simp)) (hS _ (by simp)) B (noF _ (by simp)) (noF _ (by simp))
          unfold fldsB at e4
          simp only [Bool.or_eq_true, decide_eq_true_eq] at e4
          rcases e4 with (((e4 | e4) | e4) | e4) | e4
          · rw [e4]; exact one _ e4 bnd_index
          · rw [e4]; exact one _ e4 bnd_name
          · rw [e4]; exact one _ e4 bnd_limit
          · rw [e4]; exact two _ _ e4 bnd_place_why
          · rw [e4]; exact two _ _ e4 bnd_index_code
        · cases e1
      · cases e1
    · cases e
end Bt

set_option Elab.async false
set_option linter.all false
set_option maxRecDepth 100000
set_option maxHeartbeats 2000000
namespace Bt
open PySem PySem.Spec PyProof.Rows L2 PySem.W PySem.HandSPX

/-! ### the table, checked -/
def ertB (K : Frag) (c : Str) : Bool := match gA K c with
  | some k => excIn K k veTail "ValueError.__new__" && keepIn K (.ref k) && decide (subIn K (.ref k) (.type "BaseException") = some true) && decide (typeIn K (.ref k) = some (.type "type"))
  | none => false
def xiB (K : Frag) (c : Str) : Bool := match gA K c with
  | some D => decide (findIn K (.ref D) "__getattribute__" = some (some (.builtin "BaseException.__getattribute__"))) && decide (findIn K (.ref D) "__getattr__" = some none) && decide (subIn K (.ref D) (.type "BaseException") = some true) && hasDictIn K D && decide (findIn K (.ref D) "__class__" = some (some (.builtin "object.__class__"))) && decide (specialIn K (.builtin "object.__class__") "__get__" = some (some (.builtin "getset_descriptor.__get__"))) && decide (takesIn K (.builtin "object.__class__") = some true) && decide (mroIn K D (.type "object") = some true)
  | none => false
def xfB' (K : Frag) (q : Str × Str) : Bool := match gA K q.1 with
  | some k => xfB K k && decide (findIn K (.ref k) q.2 = some none)
  | none => false
def mtB (K : Frag) (q : (Str × Str) × Bool) : Bool := match nsIn K mainGlobals q.1.1, gA K q.1.2 with
  | some (some v), some k => decide (exmOne K (.ref k) v = some q.2)
  | _, _ => false
def fnB (K : Frag) (q : Str × DefT) : Bool := decide (q.2.at_ = (q.1, none)) && (gA K q.1).isSome
def mkB (K : Frag) (q : Str × DefT) : Bool := decide (q.2.at_ = (q.1, some ("__init__" : Str))) && (match gA K q.1 with
  | some a => makesIn K a && keepIn K (.ref a) && (match findIn K (.ref a) "__init__" with
    | some (some (.ref f)) => isFn K (.ref f)
    | _ => false)
  | none => false)
def mtsB (K : Frag) (q : (Str × Str) × DefT) : Bool := decide (q.2.at_ = (q.1.1, some q.1.2)) && clsB K q.1.1 && (match gA K q.1.1 with
  | some a => (match findIn K (.ref a) q.1.2 with
    | some (some (.ref f)) => isFn K (.ref f) && keepIn K (.ref f)
    | _ => false)
  | none => false)
def tabB (P : Program) (T : TabD) (K : Frag) : Bool :=
  T.con.all (conB K) && T.fre.all (freB K) && T.cls.all (clsB K) && T.isi.all (isiB T.cls K) && T.noa.all (noaB K) && T.ers.all (errB P K) && T.ert.all (ertB K) && T.xi.all (xiB K) && T.xf.all (xfB' K) && T.mt.all (mtB K) && T.fns.all (fnB K) && T.mks.all (mkB K) && T.mts.all (mtsB K)
def DefT.dd (d : DefT) : He.DefD := ⟨d.at_, d.name, d.qual, d.params, d.body, d.scope, [], []⟩
def TabD.defs (T : TabD) : List DefT := T.fns.map (·.2) ++ T.mks.map (·.2) ++ T.mts.map (·.2)
/-! ### the hook -/
def asB (g : Addr → Option Obj) : Nat → List Addr
  | 0 => [mainGlobals, cStatics]
  | n + 1 => He.growD g (asB g n)
abbrev AlB : Type := Bool × List He.FnW
def obsK (P : Program) (T : TabD) (law : DefT) (K : Frag) : AlB := ((tabB P T K && fnB K (law.at_.1, law)) && (law :: T.defs).all fun d => d.dd.ok K, (law :: T.defs).map fun d => He.fnW K d.at_)
def valB (T : TabD) (law : DefT) : AlB := (true, (law :: T.defs).map fun d => d.dd.val)
def obsB (n : Nat) (P : Program) (T : TabD) (law : DefT) (g : Addr → Option Obj) : AlB := obsK P T law (He.frG g (asB g n))
def hookB (n : Nat) (P : Program) (T : TabD) (law : DefT) : Hook where
  α := AlB
  obs := fun s => obsB n P T law s.heap.get?
  val := fun _ => valB T law
  says := fun _ h => ∃ K : Frag, K.In h ∧ obsK P T law K = valB T law
  of := fun _ _ e => ⟨_, He.frG_in, e⟩
  keeps := fun _ _ _ ⟨K, hK, c⟩ k => ⟨K, Frag.In.keeps hK k, c⟩
theorem obsB_eq {n : Nat} {P : Program} {T : TabD} {law : DefT} {g : Addr → Option Obj} {s : Shared} (h : ∀ a, g a = s.heap.get? a) : obsB n P T law g = (hookB n P T law).obs s := by
  have e : g = s.heap.get? := funext h
  rw [e] <;> rfl
section
variable {P : Program} {w : World} {K : Frag} {h : Heap} {mg : Str → Option Value} {T : TabD} {law : DefT}
theorem look_mem {α β : Type} [BEq α] [LawfulBEq α] {x : α} {d : β} : ∀ {l : List (α × β)}, l.lookup x = some d → (x, d) ∈ l
  | [], e => by cases e
  | (y, u) :: r, e => by
    rw [List.lookup_cons] at e
    cases q : x == y with
    | true =>
      rw [q] at e
      cases e
      rw [beq_iff_eq.mp q]
      exact List.mem_cons_self
    | false =>
      rw [q] at e
      exact List.mem_cons_of_mem _ (look_mem e)
theorem def_of (e : obsK P T law K = valB T law) {d : DefT} (hd : d ∈ law :: T.defs) : DefOk K d (He.fAd K d.at_) ∧ keepIn K (.ref (He.fAd K d.at_)) = true := by
  have e1 : ((tabB P T K && fnB K (law.at_.1, law)) && (law :: T.defs).all fun d => d.dd.ok K) = true := congrArg (fun z : AlB => z.1) e
  have e2 : ((law :: T.defs).map fun d => He.fnW K d.at_) = (law :: T.defs).map fun d => d.dd.val := congrArg (fun z : AlB => z.2) e
  obtain ⟨_, e3⟩ := Bool.and_eq_true_iff.mp e1
  have c := List.all_eq_true.mp e3 d hd
  have f : He.fnW K d.at_ = d.dd.val := by
    have key : ∀ (l : List DefT), (l.map fun d => He.fnW K d.at_) = (l.map fun d => d.dd.val) → ∀ d ∈ l, He.fnW K d.at_ = d.dd.val := by
      intro l
      induction l with
      | nil => intro _ d hd; cases hd
      | cons a l ih =>
        intro e d hd
        simp only [List.map_cons, List.cons.injEq] at e
        rcases List.mem_cons.mp hd with rfl | hd
        · exact e.1
        · exact ih e.2 d hd
    exact key _ e2 d hd
  obtain ⟨fd, F⟩ := He.DefD.funD (d := d.dd) f c
  obtain ⟨oc, od, dV, kV, doc, pm, an, cdv, ct, osl, efd, lk, hcd, hD, hK⟩ := F.ex
  rcases hD with ⟨_, hD⟩ | ⟨hD, _⟩
  · subst hD
    subst efd
    exact ⟨⟨oc, od, kV, doc, pm, an, cdv, ct, osl, lk, hcd⟩, F.kp⟩
  · exact absurd rfl hD
theorem law_at (e : obsK P T law K = valB T law) : (gA K law.at_.1).isSome = true := by
  have e1 : ((tabB P T K && fnB K (law.at_.1, law)) && (law :: T.defs).all fun d => d.dd.ok K) = true := congrArg (fun z : AlB => z.1) e
  obtain ⟨e0, _⟩ := Bool.and_eq_true_iff.mp e1
  obtain ⟨_, e2⟩ := Bool.and_eq_true_iff.mp e0
  exact (Bool.and_eq_true_iff.mp e2).2
theorem gA_ga {x : Str} {a : Addr} (e : gA K x = some a) : He.ga K x = a := by
  unfold gA at e
  unfold He.ga
  split at e
  · rename_i a' q
    cases e
    rw [q]
  · cases e
theorem tvB_ok (X : K.In h) (Gm : h.Ns mainGlobals mg) {t : Ty} {v : Value} (e : tvB K t = some v) : tyVal mg t v := by
  cases t with
  | b n => cases e; rfl
  | o c =>
    have e' : (gA K c).map Value.ref = some v := e
    cases q : gA K c with
    | none => rw [q] at e'; cases e'
    | some a =>
      rw [q] at e'
      cases e'
      exact ⟨gA_ok X Gm q, a, rfl⟩
theorem clsB_ok (X : K.In h) (Gm : h.Ns mainGlobals mg) {c : Str} (e : clsB K c = true) : ∃ k, gA K c = some k ∧ mg c = some (.ref k) ∧ ClsOk K k := by
  unfold clsB at e
  cases q : gA K c with
  | none => rw [q] at e; cases e
  | some k =>
    rw [q] at e
    simp only [Bool.and_eq_true, decide_eq_true_eq] at e
    obtain ⟨⟨⟨⟨h1, h2⟩, h3⟩, h4⟩, ⟨⟨⟨h5, h6⟩, h7⟩, h8⟩⟩ := e
    exact ⟨k, rfl, gA_ok X Gm q, ⟨⟨h1, h2, h3, h4⟩, h5, h6, h7, h8⟩⟩
theorem tab_ok (X : K.In h) (Gm : h.Ns mainGlobals mg) (tx : ∀ d ∈ T.defs, DefTx d) (e : obsK P T law K = valB T law) : TabOk P w ⟨K, mg, none⟩ T := by
  have e1 : ((tabB P T K && fnB K (law.at_.1, law)) && (law :: T.defs).all fun d => d.dd.ok K) = true := congrArg (fun z : AlB => z.1) e
  obtain ⟨e0, _⟩ := Bool.and_eq_true_iff.mp e1
  obtain ⟨e2, _⟩ := Bool.and_eq_true_iff.mp e0
  unfold tabB at e2
  simp only [Bool.and_eq_true, List.all_eq_true] at e2
  obtain ⟨⟨⟨⟨⟨⟨⟨⟨⟨⟨⟨⟨t1, t2⟩, t3⟩, t4⟩, t5⟩, t6⟩, t7⟩, t8⟩, t9⟩, t10⟩, t11⟩, t12⟩, t13⟩ := e2
  have m1 : ∀ x d, T.fns.lookup x = some d → d ∈ T.defs := fun x d hl => by
    unfold TabD.defs
    exact List.mem_append_left _ (List.mem_append_left _ (List.mem_map.mpr ⟨_, look_mem hl, rfl⟩))
  have m2 : ∀ x d, T.mks.lookup x = some d → d ∈ T.defs := fun x d hl => by
    unfold TabD.defs
    exact List.mem_append_left _ (List.mem_append_right _ (List.mem_map.mpr ⟨_, look_mem hl, rfl⟩))
  have m3 : ∀ x d, T.mts.lookup x = some d → d ∈ T.defs := fun x d hl => by
    unfold TabD.defs
    exact List.mem_append_right _ (List.mem_map.mpr ⟨_, look_mem hl, rfl⟩)
  refine ⟨⟨⟨?_, ?_, ?_, ?_, ?_, ?_⟩, ?_, ?_, ⟨?_, ?_⟩, ?_, rfl⟩, ?_, ?_, ?_⟩
  · intro x d hl
    have := t1 _ (look_mem hl)
    unfold conB at this
    split at this
    · rename_i u q
      obtain ⟨v, r1, r2⟩ := repB_ok X Gm d u this
      exact ⟨u, v, mg_of X Gm q, r1, r2⟩
    · cases this
  · intro x hx
    have hx' : x ∈ T.fre := by
      have : T.fre.contains x = true := hx
      simpa using this
    exact mg_none_of X Gm (of_decide_eq_true (t2 x hx'))
  · intro c hc
    have hc' : c ∈ T.cls := by
      have : T.cls.contains c = true := hc
      simpa using this
    obtain ⟨k, _, h2, h3⟩ := clsB_ok X Gm (t3 c hc')
    exact ⟨k, h2, h3⟩
  · intro t u b hl
    have := t4 _ (look_mem (show T.isi.lookup (t, u) = some b from hl))
    unfold isiB at this
    dsimp only at this
    cases q1 : tvB K t with
    | none => rw [q1] at this; cases this
    | some tv =>
      cases q2 : tvB K u with
      | none => rw [q1, q2] at this; cases this
      | some uv =>
        rw [q1, q2] at this
        obtain ⟨h1, _⟩ := Bool.and_eq_true_iff.mp this
        exact ⟨tv, uv, tvB_ok X Gm q1, tvB_ok X Gm q2, of_decide_eq_true h1⟩
  · intro c f hc
    have hc' : (c, f) ∈ T.noa := by
      have : T.noa.contains (c, f) = true := hc
      simpa using this
    have := t5 _ hc'
    unfold noaB at this
    dsimp only at this
    cases q : gA K c with
    | none => rw [q] at this; cases this
    | some k =>
      rw [q] at this
      exact ⟨k, gA_ok X Gm q, (show findIn K (.ref k) f = some none from of_decide_eq_true this)⟩
  · intro t c b hcl hl tv k ht hk
    have := t4 _ (look_mem (show T.isi.lookup (t, .o c) = some b from hl))
    unfold isiB at this
    dsimp only at this
    cases q1 : tvB K t with
    | none => rw [q1] at this; cases this
    | some tv' =>
      cases q2 : tvB K (.o c) with
      | none => rw [q1, q2] at this; cases this
      | some uv =>
        rw [q1, q2] at this
        obtain ⟨_, h2⟩ := Bool.and_eq_true_iff.mp this
        obtain ⟨u1, k', u2⟩ := tvB_ok X Gm q2
        subst u2
        have ek : k = k' := by
          have := u1.symm.trans hk
          cases this
          rfl
        subst ek
        have et : tv = tv' := tyVal_inj ht (tvB_ok X Gm q1)
        subst et
        have hcl' : T.cls.contains c = true := hcl
        have h2' : (!(T.cls.contains c) || notFirst K k tv) = true := h2
        rw [hcl'] at h2'
        exact h2'
  · intro c ns hl
    have hl' : (match T.ers.lookup c with
      | some ns => some (some ns)
      | none => if T.ert.contains c then some none else none) = some (some ns) := hl
    cases q : T.ers.lookup c with
    | some ns' =>
      rw [q] at hl'
      cases hl'
      exact errB_ok X Gm (t6 _ (look_mem q))
    | none =>
      rw [q] at hl'
      dsimp only at hl'
      split at hl' <;> cases hl'
  · intro c hl
    have hl' : (match T.ers.lookup c with
      | some ns => some (some ns)
      | none => if T.ert.contains c then some none else none) = some none := hl
    cases q : T.ers.lookup c with
    | some ns' =>
      rw [q] at hl'
      cases hl'
    | none =>
      rw [q] at hl'
      dsimp only at hl'
      split at hl'
      · rename_i hc
        have hc' : c ∈ T.ert := by simpa using hc
        have := t7 _ hc'
        unfold ertB at this
        cases q : gA K c with
        | none => rw [q] at this; cases this
        | some k =>
          rw [q] at this
          simp only [Bool.and_eq_true, decide_eq_true_eq] at this
          obtain ⟨⟨⟨h1, h2⟩, h3⟩, h4⟩ := this
          exact ⟨k, gA_ok X Gm q, h1, h2, h3, h4⟩
      · cases hl'
  · intro c f hc
    have hc' : (c, f) ∈ T.xf := by
      have : T.xf.contains (c, f) = true := hc
      simpa using this
    have := t9 _ hc'
    unfold xfB' at this
    dsimp only at this
    cases q : gA K c with
    | none => rw [q] at this; cases this
    | some k =>
      rw [q] at this
      obtain ⟨h1, h2⟩ := Bool.and_eq_true_iff.mp this
      exact ⟨k, gA_ok X Gm q, xfB_ok h1, of_decide_eq_true h2⟩
  · intro c hc
    have hc' : c ∈ T.xi := by
      have : T.xi.contains c = true := hc
      simpa using this
    have := t8 _ hc'
    unfold xiB at this
    cases q : gA K c with
    | none => rw [q] at this; cases this
    | some k =>
      rw [q] at this
      simp only [Bool.and_eq_true, decide_eq_true_eq] at this
      obtain ⟨⟨⟨⟨⟨⟨⟨h1, h2⟩, h3⟩, h4⟩, h5⟩, h6⟩, h7⟩, h8⟩ := this
      exact ⟨k, gA_ok X Gm q, ⟨h1, h2, h3, h4, h5, h6, h7, h8⟩⟩
  · intro x c b hl
    have := t10 _ (look_mem (show T.mt.lookup (x, c) = some b from hl))
    unfold mtB at this
    dsimp only at this
    split at this
    · rename_i v k q1 q2
      refine ⟨v, mg_of X Gm q1, fun k' hk => ?_⟩
      have := gA_ok X Gm q2
      have e := this.symm.trans hk
      cases e
      exact of_decide_eq_true (by assumption)
    · cases this
  · intro x d hl
    refine ⟨tx d (m1 x d hl), ?_⟩
    obtain ⟨h1, h2⟩ := Bool.and_eq_true_iff.mp (t11 _ (look_mem hl))
    have ha : d.at_ = (x, none) := of_decide_eq_true h1
    obtain ⟨a, q⟩ := Option.isSome_iff_exists.mp h2
    obtain ⟨k1, k2⟩ := def_of e (List.mem_cons_of_mem _ (m1 x d hl))
    have eq : He.fAd K d.at_ = a := by
      rw [ha]
      exact gA_ga q
    rw [eq] at k1 k2
    exact ⟨a, gA_ok X Gm q, k2, k1⟩
  · intro x d hl
    refine ⟨tx d (m2 x d hl), ?_⟩
    obtain ⟨h1, h2⟩ := Bool.and_eq_true_iff.mp (t12 _ (look_mem hl))
    have ha : d.at_ = (x, some ("__init__" : Str)) := of_decide_eq_true h1
    obtain ⟨k1, k2⟩ := def_of e (List.mem_cons_of_mem _ (m2 x d hl))
    dsimp only at h2
    cases q : gA K x with
    | none => rw [q] at h2; cases h2
    | some a =>
      rw [q] at h2
      obtain ⟨h3, h4⟩ := Bool.and_eq_true_iff.mp h2
      obtain ⟨h5, h6⟩ := Bool.and_eq_true_iff.mp h3
      split at h4
      · rename_i f qf
        have eq : He.fAd K d.at_ = f := by
          rw [ha]
          show He.ma K (He.ga K x) "__init__" = f
          rw [gA_ga q]
          unfold He.ma
          rw [qf]
        rw [eq] at k1
        exact ⟨a, f, gA_ok X Gm q, h6, ⟨h5, qf, h4, h6⟩, k1⟩
      · cases h4
  · intro c m d hl
    refine ⟨tx d (m3 _ d hl), ?_⟩
    obtain ⟨h0, h2⟩ := Bool.and_eq_true_iff.mp (t13 _ (look_mem hl))
    obtain ⟨h1, hc⟩ := Bool.and_eq_true_iff.mp h0
    have ha : d.at_ = (c, some m) := of_decide_eq_true h1
    obtain ⟨k1, k2⟩ := def_of e (List.mem_cons_of_mem _ (m3 _ d hl))
    obtain ⟨k, q, c1, c2⟩ := clsB_ok X Gm hc
    dsimp only at h2
    rw [q] at h2
    dsimp only at h2
    split at h2
    · rename_i f qf
      obtain ⟨h3, h4⟩ := Bool.and_eq_true_iff.mp h2
      have eq : He.fAd K d.at_ = f := by
        rw [ha]
        show He.ma K (He.ga K c) m = f
        rw [gA_ga q]
        unfold He.ma
        rw [qf]
      rw [eq] at k1
      exact ⟨k, f, c1, c2.cl, ⟨qf, h3, h4⟩, k1⟩
    · cases h2
end
end Bt

set_option Elab.async false
set_option linter.all false
set_option maxRecDepth 100000
set_option maxHeartbeats 2000000
namespace Bt
open PySem PySem.Spec PyProof.Rows L2 PySem.W PySem.HandSPX
theorem reps_ints {C : Ctx} {mp : List Addr} {H : Hp} : ∀ ns : List Int, Reps C mp H (ns.map D.int) (ns.map V.int)
  | [] => .nil
  | n :: ns => .cons (.int n) (reps_ints ns)
theorem law_F {P : Program} {w : World} {K : Frag} {h : Heap} {mg : Str → Option Value} {fa : Addr} {T : TabD} {law : DefT} {x : Str} {most : Nat} (X : K.In h) (Gm : h.Ns mainGlobals mg) (hfa : mg "law" = some (.ref fa)) (e : obsK P T law K = valB T law)
    (tx : ∀ d ∈ law :: T.defs, DefTx d) (hat : law.at_ = (("law" : Str), none)) (hps : law.ps = [x]) (hst : law.star = none) (k : Nat)
    (pure : ∀ ns : List Int, ns.length ≤ most → ∃ S', law.run (T.ga k) [.fz (ns.map D.int)] [] = .ok (.bl true) S') :
    ∃ (K : Frag) (fd : FuncData) (sp : Sp), K.In h ∧ (∀ (s : Shared) (u : Value), BindsTo s fd ⟨[u], []⟩ [(x, u)]) ∧
      (∀ (H : Hp) (a : Addr) (ns : List Int), ns.length ≤ most → Only H → SqL K H a (ns.map V.int) → sp [.ref a] H (fun v _ => v = .bl true) fun _ _ _ => False) ∧
      ∀ base : Heap, K.In base → base.Ns mainGlobals mg → FnOk P w K mg base (L2.CX P w) (3 * k + 3) fa fd [x] sp := by
  obtain ⟨Dk, _⟩ := def_of e List.mem_cons_self
  have O : TabOk P w ⟨K, mg, none⟩ T := tab_ok X Gm (fun d hd => tx d (List.mem_cons_of_mem _ hd)) e
  have tl := tx law List.mem_cons_self
  obtain ⟨oc, od, kV, doc, pm, an, cdv, ct, osl, lk, hcd⟩ := Dk.lk
  have hfd : He.fAd K law.at_ = fa := by
    rw [hat]
    show He.ga K "law" = fa
    obtain ⟨a, q⟩ := Option.isSome_iff_exists.mp (law_at e)
    rw [hat] at q
    have := (gA_ok X Gm q).symm.trans hfa
    cases this
    exact gA_ga q
  rw [hfd] at lk
  refine ⟨K, fnOf law.name law.qual law.params law.body law.scope .none kV doc pm an cdv ct, spOf ⟨K, mg, none⟩ (law.run (T.ga k)), X, fun s u => ?_, fun H a ns hl hO hS => ?_, fun base kb gb => ?_⟩
  · have := tl.bn hst kV doc pm an cdv ct [u] (by rw [hps]; rfl)
    rw [hps] at this
    exact .of_eq this
  · obtain ⟨S', hp⟩ := pure ns hl
    refine ⟨[], [], [.fz (ns.map D.int)], ⟨rfl, List.nodup_nil, fun n o a h1 => by cases h1⟩, .cons (.fz (vs := ns.map V.int) ?_ (reps_ints ns)) .nil, ?_⟩
    · rcases hS with (hS | hS) | hS
      · rcases hO a with q | ⟨o, xs, q⟩
        · rw [q] at hS; cases hS
        · rw [q] at hS; cases hS
      · exact .inl hS
      · exact .inr hS
    · rw [hp]
      intro mp' H' v _ _ _ r
      cases r
      rfl
  · have F := fn_ok0 (base := base) (O.staAt k) (O.lev k) tl hst lk hcd
    rw [hps] at F
    exact F
end Bt

set_option Elab.async false
set_option linter.all false
set_option maxRecDepth 100000
set_option maxHeartbeats 2000000
namespace Bt
open PySem PySem.Spec PyProof.Rows L2
section
variable {α β : Type} {Γ : GEnv} {env : Env} {S : Sto}
@[simp] theorem bind_ok (a : α) (S : Sto) (f : α → Sto → Rs β) : (Rs.ok a S).bind f = f a S := rfl
@[simp] theorem bind_exc (x : Exc) (S : Sto) (f : α → Sto → Rs β) : (Rs.exc x S : Rs α).bind f = .exc x S := rfl
@[simp] theorem bind_fail (f : α → Sto → Rs β) : (Rs.fail : Rs α).bind f = .fail := rfl
@[simp] theorem seqE_ok (a : α) (S : Sto) (env : Env) (f : α → Sto → Rs Fl) : seqE (Rs.ok a S) env f = f a S := rfl
@[simp] theorem seqE_exc (x : Exc) (S : Sto) (env : Env) (f : α → Sto → Rs Fl) : seqE (Rs.exc x S : Rs α) env f = .ok (.xc x env) S := rfl
@[simp] theorem seqE_fail (env : Env) (f : α → Sto → Rs Fl) : seqE (Rs.fail : Rs α) env f = .fail := rfl
@[simp] theorem seqA_ok (a : List D) (S : Sto) (env : Env) (f : List D → Sto → Rs Fl) : seqA (Rs.ok a S) env f = f a S := rfl
@[simp] theorem sizeLine_val : sizeLine = 16777216 := sizeLine_eq
@[simp] theorem e_sNil : sNil env S = .ok (.nx env) S := rfl
/-- what follows a statement -/
def thenS (r : Rs Fl) (b : MS) : Rs Fl := match r with
  | .ok (.nx e) S' => b e S'
  | q => q
@[simp] theorem e_sSeq (a b : MS) : sSeq a b env S = thenS (a env S) b := rfl
@[simp] theorem thenS_nx (e : Env) (S : Sto) (b : MS) : thenS (.ok (.nx e) S) b = b e S := rfl
@[simp] theorem thenS_rt (d : D) (S : Sto) (b : MS) : thenS (.ok (.rt d) S) b = .ok (.rt d) S := rfl
@[simp] theorem thenS_bk (e : Env) (S : Sto) (b : MS) : thenS (.ok (.bk e) S) b = .ok (.bk e) S := rfl
@[simp] theorem thenS_ct (e : Env) (S : Sto) (b : MS) : thenS (.ok (.ct e) S) b = .ok (.ct e) S := rfl
@[simp] theorem thenS_xc (x : Exc) (e : Env) (S : Sto) (b : MS) : thenS (.ok (.xc x e) S) b = .ok (.xc x e) S := rfl
@[simp] theorem e_sExpr (m : ME) : sExpr m env S = seqE (m env S) env fun _ S => .ok (.nx env) S := rfl
@[simp] theorem e_sRet (m : ME) : sRet m env S = seqE (m env S) env fun d S => .ok (.rt d) S := rfl
@[simp] theorem e_sRetN : sRetN env S = .ok (.rt .non) S := rfl
@[simp] theorem e_sIf (t : MT) (a b : MS) : sIf t a b env S = seqE (t env S) env fun k S => if k then a env S else b env S := rfl
@[simp] theorem e_sBrk : sBrk env S = .ok (.bk env) S := rfl
@[simp] theorem e_sCnt : sCnt env S = .ok (.ct env) S := rfl
@[simp] theorem e_gNam (i : Nat) (d : D) : gNam i d env S = .ok (.nx (env.set i (some d))) S := rfl
@[simp] theorem e_sAsg (m : ME) (g : MG) : sAsg m g env S = seqE (m env S) env fun d S => g d env S := rfl
@[simp] theorem e_mC (d : D) : mC d env S = .ok d S := rfl
@[simp] theorem e_mUn (g : D → Sto → Rs D) (a : ME) : mUn g a env S = (a env S).bind fun d S => g d S := rfl
@[simp] theorem e_mOp (g : D → D → Sto → Rs D) (a b : ME) : mOp g a b env S = (a env S).bind fun d S => (b env S).bind fun e S => g d e S := rfl
@[simp] theorem e_mNil : mNil env S = .ok [] S := rfl
@[simp] theorem e_mCons (a : ME) (r : MA) : mCons a r env S = (a env S).bind fun d S => (r env S).bind fun ds S => .ok (d :: ds) S := rfl
@[simp] theorem e_mTup (a : MA) : mTup a env S = (a env S).bind fun ds S => if ds.length ≤ sizeLine then .ok (.tup ds) S else .fail := rfl
@[simp] theorem e_mLst (a : MA) : mLst a env S = (a env S).bind fun ds S => if ds.length ≤ sizeLine then .ok (.ref S.length) (S ++ [.lst ds]) else .fail := rfl
/-- a test's outcome -/
def optR (o : Option Bool) (S : Sto) : Rs Bool := match o with
  | some k => .ok k S
  | none => .fail
@[simp] theorem optR_some (k : Bool) : optR (some k) S = .ok k S := rfl
@[simp] theorem e_mTru (g : D → Sto → Option Bool) (a : ME) : mTru g a env S = (a env S).bind fun d S => optR (g d S) S := rfl
@[simp] theorem e_mNotT (a : MT) : mNotT a env S = (a env S).bind fun k S => .ok (!k) S := rfl
@[simp] theorem e_mAndT (a b : MT) : mAndT a b env S = (a env S).bind fun k S => if k then b env S else .ok false S := rfl
@[simp] theorem e_mOrT (a b : MT) : mOrT a b env S = (a env S).bind fun k S => if k then .ok true S else b env S := rfl
@[simp] theorem e_mTest (a : ME) : mTest a env S = blR (a env S) := rfl
@[simp] theorem blR_ok (b : Bool) : blR (.ok (.bl b) S) = .ok b S := rfl
@[simp] theorem blR_exc (x : Exc) : blR (.exc x S) = .exc x S := rfl
@[simp] theorem blR_fail : blR .fail = .fail := rfl
def vBool (o : Option Bool) (S : Sto) (f : Bool → Rs D) : Rs D := match o with
  | some k => f k
  | none => .fail
@[simp] theorem vBool_some (k : Bool) (f : Bool → Rs D) : vBool (some k) S f = f k := rfl
@[simp] theorem e_mAndV (a b : ME) : mAndV a b env S = (a env S).bind fun d S => vBool (truD d S) S fun k => if k then b env S else .ok d S := by
  unfold mAndV
  cases a env S with
  | ok d S => simp only [bind_ok]; cases truD d S with
    | none => rfl
    | some k => cases k <;> rfl
  | exc x S => rfl
  | fail => rfl
@[simp] theorem e_mOrV (a b : ME) : mOrV a b env S = (a env S).bind fun d S => vBool (truD d S) S fun k => if k then .ok d S else b env S := by
  unfold mOrV
  cases a env S with
  | ok d S => simp only [bind_ok]; cases truD d S with
    | none => rfl
    | some k => cases k <;> rfl
  | exc x S => rfl
  | fail => rfl
@[simp] theorem e_mNotV (a : ME) : mNotV a env S = (a env S).bind fun d S => vBool (truD d S) S fun k => .ok (.bl (!k)) S := by
  unfold mNotV
  cases a env S with
  | ok d S => simp only [bind_ok]; cases truD d S <;> rfl
  | exc x S => rfl
  | fail => rfl
@[simp] theorem e_mIfE (t : MT) (a b : ME) : mIfE t a b env S = (t env S).bind fun k S => if k then a env S else b env S := rfl
def chR (z : D) (S : Sto) (f : Rs D) : Rs D := match z with
  | .bl true => f
  | .bl false => .ok (.bl false) S
  | _ => .fail
@[simp] theorem chR_t (f : Rs D) : chR (.bl true) S f = f := rfl
@[simp] theorem chR_f (f : Rs D) : chR (.bl false) S f = .ok (.bl false) S := rfl
@[simp] theorem e_mChain (g g' : D → D → Sto → Rs D) (a b c : ME) : mChain g g' a b c env S = (a env S).bind fun d S => (b env S).bind fun e S => (g d e S).bind fun z S => chR z S ((c env S).bind fun f S => g' e f S) := by
  unfold mChain chR
  rfl
@[simp] theorem e_mSl (a : ME) (lo hi : MO) : mSl a lo hi env S = (a env S).bind fun d S => (lo env S).bind fun l S => (hi env S).bind fun h S => slD d l h S := rfl
@[simp] theorem e_mNoPart : mNoPart env S = .ok none S := rfl
def intR (d : D) (S : Sto) : Rs (Option Int) := match d with
  | .int i => .ok (some i) S
  | _ => .fail
@[simp] theorem intR_i (i : Int) : intR (.int i) S = .ok (some i) S := rfl
@[simp] theorem e_mPart (a : ME) : mPart a env S = (a env S).bind fun d S => intR d S := rfl
@[simp] theorem e_mIter (m : ME) : mIter m env S = (m env S).bind fun d S => iterD d S := rfl
def rngR (d : D) (S : Sto) : Rs Sq := match d with
  | .int i => .ok (.items (rangeD 0 i.toNat)) S
  | _ => .fail
@[simp] theorem outM_nx (e : Env) : outM (.ok (.nx e) S) = .ok .non S := rfl
@[simp] theorem outM_rt (d : D) : outM (.ok (.rt d) S) = .ok d S := rfl
@[simp] theorem outM_xc (x : Exc) (e : Env) : outM (.ok (.xc x e) S) = .exc x S := rfl
end
end Bt
namespace Bt
open PySem PySem.Spec PyProof.Rows L2
section
variable {α β : Type} {Γ : GEnv} {env : Env} {S : Sto}
def varR (o : Option (Option D)) (S : Sto) : Rs D := match o with
  | some (some .exc) => .fail
  | some (some d) => .ok d S
  | _ => .fail
@[simp] theorem e_mVar (i : Nat) : mVar i env S = varR env[i]? S := rfl
@[simp] theorem varR_non : varR (some (some .non)) S = .ok .non S := rfl
@[simp] theorem varR_bl (b : Bool) : varR (some (some (.bl b))) S = .ok (.bl b) S := rfl
@[simp] theorem varR_int (b : Int) : varR (some (some (.int b))) S = .ok (.int b) S := rfl
@[simp] theorem varR_str (b : Str) : varR (some (some (.str b))) S = .ok (.str b) S := rfl
@[simp] theorem varR_tup (b : List D) : varR (some (some (.tup b))) S = .ok (.tup b) S := rfl
@[simp] theorem varR_ref (b : Nat) : varR (some (some (.ref b))) S = .ok (.ref b) S := rfl
@[simp] theorem varR_glo (b : Str) : varR (some (some (.glo b))) S = .ok (.glo b) S := rfl
@[simp] theorem varR_ty (b : String) : varR (some (some (.ty b))) S = .ok (.ty b) S := rfl
@[simp] theorem varR_fz (b : List D) : varR (some (some (.fz b))) S = .ok (.fz b) S := rfl
theorem varR_of {d : D} (h : d ≠ .exc) : varR (some (some d)) S = .ok d S := by
  cases d <;> first | rfl | exact absurd rfl h
def calR (o : Option (List D → Sto → Rs D)) (ds : List D) (S : Sto) : Rs D := match o with
  | some g => g ds S
  | none => .fail
@[simp] theorem calR_some (g : List D → Sto → Rs D) (ds : List D) : calR (some g) ds S = g ds S := rfl
theorem e_mCall {f : Str} {m : MA} {g : List D → Sto → Rs D} (h : calX Γ f = some g) : mCall Γ f m env S = (m env S).bind fun ds S => g ds S := by
  unfold mCall
  rw [h]
@[simp] theorem i_sub (i j : Int) : subI (.int i) (.int j) S = .ok (.int (i - j)) S := rfl
@[simp] theorem i_add (i j : Int) : addD (.int i) (.int j) S = .ok (.int (i + j)) S := rfl
theorem i_mul {i j : Int} (h : CMul i j) : mulI (.int i) (.int j) S = .ok (.int (i * j)) S := by
  show (if decide (CMul i j) = true then _ else _) = _
  rw [if_pos (decide_eq_true h)]
theorem i_div {i j : Int} (h : CDiv i j) : divI (.int i) (.int j) S = .ok (.int (i / j)) S := by
  show (if decide (CDiv i j) = true then _ else _) = _
  rw [if_pos (decide_eq_true h)]
theorem i_mod {i j : Int} (h : 0 < j) : modI (.int i) (.int j) S = .ok (.int (i % j)) S := by
  show (if decide (0 < j) = true then _ else _) = _
  rw [if_pos (decide_eq_true h)]
theorem i_pow {i j : Int} (h : CPow i j) : powI (.int i) (.int j) S = .ok (.int (i ^ j.toNat)) S := by
  show (if decide (CPow i j) = true then _ else _) = _
  rw [if_pos (decide_eq_true h)]
@[simp] theorem i_int (i : Int) : intB [.int i] S = .ok (.int i) S := rfl
@[simp] theorem c_lt (i j : Int) : cmpG Γ .Lt (.int i) (.int j) S = .ok (.bl (decide (i < j))) S := rfl
@[simp] theorem c_le (i j : Int) : cmpG Γ .LtE (.int i) (.int j) S = .ok (.bl (decide (i ≤ j))) S := rfl
@[simp] theorem c_gt (i j : Int) : cmpG Γ .Gt (.int i) (.int j) S = .ok (.bl (decide (j < i))) S := rfl
@[simp] theorem c_ge (i j : Int) : cmpG Γ .GtE (.int i) (.int j) S = .ok (.bl (decide (j ≤ i))) S := rfl
theorem cmulR {i j : Int} (h1 : -(2 ^ 64) < j) (h2 : j < 2 ^ 64) : CMul i j := .inr ⟨h1, h2⟩
theorem cmulL {i j : Int} (h1 : -(2 ^ 64) < i) (h2 : i < 2 ^ 64) : CMul i j := .inl ⟨h1, h2⟩
end
end Bt
namespace Bt
open PySem PySem.Spec PyProof.Rows L2
section
variable {Γ : GEnv} {env : Env} {S : Sto}
@[simp] theorem c_eqI (i j : Int) : cmpG Γ .Eq (.int i) (.int j) S = .ok (.bl (i == j)) S := by
  show eqG Γ (.int i) (.int j) S = _
  rfl
@[simp] theorem c_neI (i j : Int) : cmpG Γ .NotEq (.int i) (.int j) S = .ok (.bl (!(i == j))) S := by
  show neG Γ (.int i) (.int j) S = _
  rfl
theorem ix_lst {n : Nat} {xs : List D} {i : Int} {d : D} (h : S[n]? = some (.lst xs)) (e : atI xs i = some d) : ixG (.ref n) (.int i) S = .ok d S := by
  simp only [ixG, ixD, seqD, h, e]
theorem ix_tup {xs : List D} {i : Int} {d : D} (e : atI xs i = some d) : ixG (.tup xs) (.int i) S = .ok d S := by
  simp only [ixG, ixD, seqD, e]
theorem set_lst {n : Nat} {xs : List D} {i : Int} {j : Nat} {v : D} (h : S[n]? = some (.lst xs)) (e : ixN xs.length i = some j) : setD (.ref n) (.int i) v S = some (S.set n (.lst (xs.set j v))) := by
  simp only [setD, h, e]
def stoR (o : Option Sto) (env : Env) : Rs Fl := match o with
  | some S' => .ok (.nx env) S'
  | none => .fail
@[simp] theorem stoR_some (S' : Sto) : stoR (some S') env = .ok (.nx env) S' := rfl
@[simp] theorem e_gSub (mo mi : ME) (d : D) : gSub' mo mi d env S = seqE (mo env S) env fun o S => seqE (mi env S) env fun i S => stoR (setD o i d S) env := rfl
theorem len_lst {n : Nat} {xs : List D} (h : S[n]? = some (.lst xs)) : lenG Γ [.ref n] S = .ok (.int xs.length) S := by
  simp only [lenG, lenP, seqD, h]
theorem len_tup {xs : List D} : lenG Γ [.tup xs] S = .ok (.int xs.length) S := by
  simp only [lenG, lenP, seqD]
theorem len_str {x : Str} (h : x.length ≤ sizeLine) : lenG Γ [.str x] S = .ok (.int x.length) S := by
  simp only [lenG, lenP, if_pos h]
theorem at_nat {α : Type} {xs : List α} {i : Nat} {d : α} (h : xs[i]? = some d) : atI xs (i : Int) = some d := by
  have hl := (List.getElem?_eq_some_iff.mp h).1
  unfold atI ixN
  rw [if_pos (by omega), if_pos (by omega)]
  simpa using h
/-- the store but at one place -/
def Same (n : Nat) (S S' : Sto) : Prop := S'.length = S.length ∧ ∀ m, m ≠ n → S'[m]? = S[m]?
theorem set_self {n : Nat} {o u : Ob} (h : S[n]? = some u) : (S.set n o)[n]? = some o := by
  rw [List.getElem?_set_self (List.getElem?_eq_some_iff.mp h).1]
theorem set_other {n m : Nat} {o : Ob} (h : m ≠ n) : (S.set n o)[m]? = S[m]? := by
  rw [List.getElem?_set_ne (Ne.symm h)]
theorem same_set (n : Nat) (o : Ob) : Same n S (S.set n o) := ⟨by simp, fun m h => set_other h⟩
end
end Bt
namespace Bt
open PySem PySem.Spec PyProof.Rows L2
section
variable {Γ : GEnv} {env : Env} {S : Sto} {g : MG} {body : MS}
/-- how a turn ends: it goes on, or the loop is left by a return or an error -/
inductive TurnTo (g : MG) (body : MS) (d : D) (env : Env) (S : Sto) (P : Env → Sto → Prop) (R : Rs Fl → Prop) : Prop
  | nx {e1 : Env} {S1 : Sto} {e2 : Env} {S2 : Sto} : g d env S = .ok (.nx e1) S1 → body e1 S1 = .ok (.nx e2) S2 → P e2 S2 → TurnTo g body d env S P R
  | ct {e1 : Env} {S1 : Sto} {e2 : Env} {S2 : Sto} : g d env S = .ok (.nx e1) S1 → body e1 S1 = .ok (.ct e2) S2 → P e2 S2 → TurnTo g body d env S P R
  | rt {e1 : Env} {S1 : Sto} {v : D} {S2 : Sto} : g d env S = .ok (.nx e1) S1 → body e1 S1 = .ok (.rt v) S2 → R (.ok (.rt v) S2) → TurnTo g body d env S P R
  | xc {e1 : Env} {S1 : Sto} {x : Exc} {e2 : Env} {S2 : Sto} : g d env S = .ok (.nx e1) S1 → body e1 S1 = .ok (.xc x e2) S2 → R (.ok (.xc x e2) S2) → TurnTo g body d env S P R
theorem turn_to {d : D} {k : MS} {P : Env → Sto → Prop} {R : Rs Fl → Prop} (t : TurnTo g body d env S P R) : (∃ e2 S2, turn g body d k env S = k e2 S2 ∧ P e2 S2) ∨ R (turn g body d k env S) := by
  cases t with
  | nx h1 h2 h3 => exact .inl ⟨_, _, by unfold turn; rw [h1]; dsimp only; rw [h2], h3⟩
  | ct h1 h2 h3 => exact .inl ⟨_, _, by unfold turn; rw [h1]; dsimp only; rw [h2], h3⟩
  | rt h1 h2 h3 => exact .inr (by unfold turn; rw [h1]; dsimp only; rw [h2]; exact h3)
  | xc h1 h2 h3 => exact .inr (by unfold turn; rw [h1]; dsimp only; rw [h2]; exact h3)
theorem forR_to {n : Nat} {xs : List D} (P : Nat → Env → Sto → Prop) (R : Nat → Rs Fl → Prop) (hl : ∀ i env S, P i env S → listAt n S = some xs)
    (st : ∀ i d env S, xs[i]? = some d → P i env S → TurnTo g body d env S (P (i + 1)) (R i)) : ∀ m i env S, i + m = xs.length → P i env S → (∃ env' S', forR g body n m i env S = .ok (.nx env') S' ∧ P xs.length env' S') ∨ ∃ j, i ≤ j ∧ j < xs.length ∧ R j (forR g body n m i env S)
  | 0, i, env, S, hi, h => by
    left
    refine ⟨env, S, ?_, by rw [← hi]; exact h⟩
    unfold forR
    rw [hl i env S h]
    dsimp only
    rw [if_pos (by omega)]
  | m + 1, i, env, S, hi, h => by
    have hlt : i < xs.length := by omega
    have hx : xs[i]? = some xs[i] := by simp [hlt]
    have e : forR g body n (m + 1) i env S = turn g body xs[i] (forR g body n m (i + 1)) env S := by
      conv => lhs; unfold forR
      rw [hl i env S h]
      dsimp only
      rw [hx]
    rw [e]
    rcases turn_to (k := forR g body n m (i + 1)) (st i _ env S hx h) with ⟨e2, S2, h1, h2⟩ | h1
    · rw [h1]
      rcases forR_to P R hl st m (i + 1) e2 S2 (by omega) h2 with h3 | ⟨j, j1, j2, h3⟩
      · exact .inl h3
      · exact .inr ⟨j, by omega, j2, h3⟩
    · exact .inr ⟨i, Nat.le_refl _, hlt, h1⟩
theorem forL_to (xs : List D) (P : Nat → Env → Sto → Prop) (R : Nat → Rs Fl → Prop)
    (st : ∀ i d env S, xs[i]? = some d → P i env S → TurnTo g body d env S (P (i + 1)) (R i)) : ∀ m i env S, i + m = xs.length → P i env S → (∃ env' S', forL g body (xs.drop i) env S = .ok (.nx env') S' ∧ P xs.length env' S') ∨ ∃ j, i ≤ j ∧ j < xs.length ∧ R j (forL g body (xs.drop i) env S)
  | 0, i, env, S, hi, h => by
    left
    refine ⟨env, S, ?_, by rw [← hi]; exact h⟩
    rw [List.drop_eq_nil_of_le (by omega)]
    rfl
  | m + 1, i, env, S, hi, h => by
    have hlt : i < xs.length := by omega
    have hx : xs[i]? = some xs[i] := by simp [hlt]
    rw [List.drop_eq_getElem_cons hlt]
    show (∃ env' S', turn g body xs[i] (forL g body (xs.drop (i + 1))) env S = .ok (.nx env') S' ∧ P xs.length env' S') ∨ ∃ j, i ≤ j ∧ j < xs.length ∧ R j (turn g body xs[i] (forL g body (xs.drop (i + 1))) env S)
    rcases turn_to (k := forL g body (xs.drop (i + 1))) (st i _ env S hx h) with ⟨e2, S2, h1, h2⟩ | h1
    · rw [h1]
      rcases forL_to xs P R st m (i + 1) e2 S2 (by omega) h2 with h3 | ⟨j, j1, j2, h3⟩
      · exact .inl h3
      · exact .inr ⟨j, by omega, j2, h3⟩
    · exact .inr ⟨i, Nat.le_refl _, hlt, h1⟩
/-- a loop over a list, over items -/
theorem for_live {m : MI} {n : Nat} {S1 : Sto} {xs : List D} (h : m env S = .ok (.live n) S1) (hx : listAt n S1 = some xs) : sFor m g body env S = forR g body n xs.length 0 env S1 := by
  unfold sFor
  rw [h]
  simp only [seqE_ok]
  rw [hx]
theorem for_items {m : MI} {S1 : Sto} {xs : List D} (h : m env S = .ok (.items xs) S1) : sFor m g body env S = forL g body xs env S1 := by
  unfold sFor
  rw [h]
  rfl
@[simp] theorem iter_tup (xs : List D) : iterD (.tup xs) S = .ok (.items xs) S := rfl
@[simp] theorem iter_str (z : Str) : iterD (.str z) S = .ok (.items (signsD z)) S := rfl
theorem iter_lst {n : Nat} {xs : List D} (h : S[n]? = some (.lst xs)) : iterD (.ref n) S = .ok (.live n) S := by
  simp only [iterD, listAt, h]
theorem listAt_lst {n : Nat} {xs : List D} (h : S[n]? = some (.lst xs)) : listAt n S = some xs := by
  simp only [listAt, h]
theorem neg62 (j : Nat) : -(2 ^ 62 : Int) ≤ (j : Int) := Int.le_trans (Int.neg_nonpos_of_nonneg (Int.pow_nonneg (by decide))) (Int.natCast_nonneg j)
def rngF (d : D) (S : Sto) : Rs Sq := match d with
  | .int j => if -(2 ^ 62) ≤ j ∧ j < 2 ^ 62 then .ok (.items (rangeD 0 j.toNat)) S else .fail
  | _ => .fail
@[simp] theorem e_range1 (m : ME) : mRange1 m env S = (m env S).bind rngF := rfl
theorem rngF_nat {j : Nat} (hj : (j : Int) < 2 ^ 62) : rngF (.int j) S = .ok (.items (rangeD 0 j)) S := by
  have h0 := neg62 j
  unfold rngF
  split
  · rename_i i he
    cases he
    rw [if_pos ⟨h0, hj⟩, Int.toNat_natCast]
  · rename_i hn
    exact absurd rfl (hn _)
theorem range_at {j i : Nat} {d : D} (h : (rangeD 0 j)[i]? = some d) : d = .int i ∧ i < j := by
  unfold rangeD at h
  rw [List.getElem?_map] at h
  by_cases hi : i < j
  · rw [List.getElem?_range hi] at h
    simp at h
    exact ⟨h.symm, hi⟩
  · rw [List.getElem?_eq_none (by simpa using hi)] at h
    cases h
@[simp] theorem range_len (lo : Int) (j : Nat) : (rangeD lo j).length = j := by simp [rangeD]
theorem cut_map (ns : List Int) (lo hi : Option Int) : ∃ cs : List Int, cutD (ns.map D.int) lo hi = cs.map D.int ∧ cs.length ≤ ns.length := by
  unfold cutD
  rw [← List.map_drop, ← List.map_take]
  exact ⟨_, rfl, by simp; omega⟩
@[simp] theorem sl_fz (xs : List D) (lo hi : Option Int) : slD (.fz xs) lo hi S = .ok (.ref S.length) (S ++ [.lst (cutD xs lo hi)]) := rfl
theorem list_lst {n : Nat} {xs : List D} (h : S[n]? = some (.lst xs)) : listB [.ref n] S = .ok (.ref S.length) (S ++ [.lst xs]) := by
  simp only [listB, seqD, h]
end
end Bt
namespace Bt
open PySem PySem.Spec PyProof.Rows L2
section
variable {Γ : GEnv} {env : Env} {S : Sto} {k : Nat} {t : CTg} {ts : MT} {e : ME}
/-- comprehensions -/
theorem lcL_to (xs : List D) (P : Nat → Sto → Prop) (st : ∀ i d S, xs[i]? = some d → P i S → ∃ S', (∀ next : Sto → Rs Unit, lcTurn k t ts e d env S next = next S') ∧ P (i + 1) S') : ∀ m i S, i + m = xs.length → P i S → ∃ S', lcL k t ts e env (xs.drop i) S = .ok () S' ∧ P xs.length S'
  | 0, i, S, hi, h => by
    refine ⟨S, ?_, by rw [← hi]; exact h⟩
    rw [List.drop_eq_nil_of_le (by omega)]
    rfl
  | m + 1, i, S, hi, h => by
    have hlt : i < xs.length := by omega
    have hx : xs[i]? = some xs[i] := by simp [hlt]
    rw [List.drop_eq_getElem_cons hlt]
    obtain ⟨S', h1, h2⟩ := st i _ S hx h
    show ∃ S'', lcTurn k t ts e xs[i] env S (lcL k t ts e env (xs.drop (i + 1))) = .ok () S'' ∧ P xs.length S''
    rw [h1]
    exact lcL_to xs P st m (i + 1) S' (by omega) h2
theorem lcR_to {n : Nat} {xs : List D} (P : Nat → Sto → Prop) (hl : ∀ i S, P i S → listAt n S = some xs) (st : ∀ i d S, xs[i]? = some d → P i S → ∃ S', (∀ next : Sto → Rs Unit, lcTurn k t ts e d env S next = next S') ∧ P (i + 1) S') : ∀ m i S, i + m = xs.length → P i S → ∃ S', lcR k t ts e env n m i S = .ok () S' ∧ P xs.length S'
  | 0, i, S, hi, h => by
    refine ⟨S, ?_, by rw [← hi]; exact h⟩
    unfold lcR
    rw [hl i S h]
    dsimp only
    rw [if_pos (by omega)]
  | m + 1, i, S, hi, h => by
    have hlt : i < xs.length := by omega
    have hx : xs[i]? = some xs[i] := by simp [hlt]
    obtain ⟨S', h1, h2⟩ := st i _ S hx h
    have ee : lcR k t ts e env n (m + 1) i S = lcTurn k t ts e xs[i] env S (lcR k t ts e env n m (i + 1)) := by
      conv => lhs; unfold lcR
      rw [hl i S h]
      dsimp only
      rw [hx]
    rw [ee, h1]
    exact lcR_to P hl st m (i + 1) S' (by omega) h2
theorem lc_items {it : MI} {own : List Nat} {S1 S2 : Sto} {xs : List D} (h : it env S = .ok (.items xs) S1) (h2 : lcL S1.length t ts e (wipeE env own) xs (S1 ++ [.lst []]) = .ok () S2) : mLc it own t ts e env S = .ok (.ref S1.length) S2 := by
  unfold mLc
  rw [h]
  simp only [bind_ok]
  rw [h2]
theorem lc_live {it : MI} {own : List Nat} {S1 S2 : Sto} {n : Nat} {xs : List D} (h : it env S = .ok (.live n) S1) (hx : listAt n S1 = some xs) (h2 : lcR S1.length t ts e (wipeE env own) n xs.length 0 (S1 ++ [.lst []]) = .ok () S2) : mLc it own t ts e env S = .ok (.ref S1.length) S2 := by
  unfold mLc
  rw [h]
  simp only [bind_ok]
  rw [hx]
  dsimp only
  rw [h2]
/-- what a def leaves of the store: it grows; what stood stays, but at h -/
def Keep (h : Nat) (S S' : Sto) : Prop := S.length ≤ S'.length ∧ ∀ m, m < S.length → m ≠ h → S'[m]? = S[m]?
theorem Keep.refl (h : Nat) (S : Sto) : Keep h S S := ⟨Nat.le_refl _, fun _ _ _ => rfl⟩
theorem Keep.trans {h : Nat} {S1 S2 S3 : Sto} (a : Keep h S1 S2) (b : Keep h S2 S3) : Keep h S1 S3 := ⟨Nat.le_trans a.1 b.1, fun m hm hn => (b.2 m (Nat.lt_of_lt_of_le hm a.1) hn).trans (a.2 m hm hn)⟩
theorem Keep.app (h : Nat) (S l : Sto) : Keep h S (S ++ l) := ⟨by simp, fun m hm _ => List.getElem?_append_left hm⟩
theorem Same.keep {h : Nat} {S S' : Sto} (a : Same h S S') : Keep h S S' := ⟨by rw [a.1]; exact Nat.le_refl _, fun m _ hn => a.2 m hn⟩
theorem Keep.at {h m : Nat} {S S' : Sto} {o : Ob} (a : Keep h S S') (e : S[m]? = some o) (hn : m ≠ h) : S'[m]? = some o := (a.2 m (List.getElem?_eq_some_iff.mp e).1 hn).trans e
theorem app_at {S l : Sto} {m : Nat} {o : Ob} (e : S[m]? = some o) : (S ++ l)[m]? = some o := by
  rw [List.getElem?_append_left (List.getElem?_eq_some_iff.mp e).1]
  exact e
theorem app_new {S : Sto} {o : Ob} : (S ++ [o])[S.length]? = some o := by simp
end
end Bt
namespace Bt
open PySem PySem.Spec PyProof.Rows L2
section
variable {Γ : GEnv} {env : Env} {S : Sto}
/-- in, over texts -/
theorem pyL_strs (n : Nat) : ∀ ws : List Str, pyL (pyS S (n + 1)) (ws.map D.str) = some (ws.map PyData.str)
  | [] => rfl
  | w :: ws => by
    show (match pyS S (n + 1) (.str w), pyL (pyS S (n + 1)) (ws.map D.str) with
      | some x, some xs => some (x :: xs)
      | _, _ => none) = _
    rw [pyL_strs n ws]
    rfl
theorem any_strs (w : Str) : ∀ ws : List Str, ((ws.map PyData.str).any fun z => PyData.eqv z (.str w)) = ws.contains w
  | [] => rfl
  | x :: ws => by
    simp only [List.map_cons, List.any_cons, any_strs w ws, List.contains_cons]
    congr 1
    show (x == w) = (w == x)
    by_cases h : x = w
    · subst h; rfl
    · have h1 : (x == w) = false := by simpa using h
      have h2 : (w == x) = false := by simpa using Ne.symm h
      rw [h1, h2]
theorem depth_strs : ∀ ws : List Str, PyData.depthAll (ws.map PyData.str) = 0
  | [] => rfl
  | x :: ws => by
    show max (PyData.depth (.str x)) (PyData.depthAll (ws.map PyData.str)) = 0
    rw [depth_strs ws]
    rfl
theorem lay_strs : ∀ ws : List Str, (∀ x ∈ ws, PyData.strOk x = true) → PyData.canLayAll0 (ws.map PyData.str) = true
  | [], _ => rfl
  | x :: ws, h => by
    show (PyData.canLay0 (.str x) && PyData.canLayAll0 (ws.map PyData.str)) = true
    rw [lay_strs ws fun y hy => h y (List.mem_cons_of_mem _ hy)]
    have := h x (by simp)
    show (PyData.strOk x && true) = true
    rw [this]
    rfl
theorem shaped_str {w : Str} (h : PyData.strOk w = true) : SeqAt.shaped (.str w) = true := by
  unfold SeqAt.shaped
  show (PyData.strOk w && decide (0 ≤ 64)) = true
  rw [h]
  rfl
theorem shaped_strs {ws : List Str} (h : ∀ x ∈ ws, PyData.strOk x = true) : SeqAt.shaped (.list (ws.map PyData.str)) = true := by
  unfold SeqAt.shaped
  show (PyData.canLayAll0 (ws.map PyData.str) && decide (PyData.depthAll (ws.map PyData.str) + 1 ≤ 64)) = true
  rw [lay_strs ws h, depth_strs]
  rfl
theorem in_strs {w : Str} {ws : List Str} {n : Nat} (hw : PyData.strOk w = true) (h : ∀ x ∈ ws, PyData.strOk x = true) (hs : S[n]? = some (.lst (ws.map D.str))) : inD (.str w) (.ref n) S = some (ws.contains w) := by
  have e : seqD (.ref n) S = some (ws.map D.str) := by simp only [seqD, hs]
  have e2 : pyS S 60 (.str w) = some (.str w) := rfl
  simp only [inD, e, pyL_strs 59 ws, e2, shaped_str hw, shaped_strs h, any_strs]
  rfl
theorem in_strsT {w : Str} {ws : List Str} (hw : PyData.strOk w = true) (h : ∀ x ∈ ws, PyData.strOk x = true) : inD (.str w) (.tup (ws.map D.str)) S = some (ws.contains w) := by
  have e2 : pyS S 60 (.str w) = some (.str w) := rfl
  simp only [inD, seqD, pyL_strs 59 ws, e2, shaped_str hw, shaped_strs h, any_strs]
  rfl
theorem inG_ref {n : Nat} {xs : List D} {d : D} {b neg : Bool} (hs : S[n]? = some (.lst xs)) (h : inD d (.ref n) S = some b) : inG Γ neg d (.ref n) S = .ok (.bl (if neg then !b else b)) S := by
  simp only [inG, ownIn, hs, h]
theorem inG_tup {xs : List D} {d : D} {b neg : Bool} (h : inD d (.tup xs) S = some b) : inG Γ neg d (.tup xs) S = .ok (.bl (if neg then !b else b)) S := by
  simp only [inG, ownIn, h]
end
end Bt

set_option Elab.async false
set_option linter.all false
set_option maxRecDepth 100000
set_option maxHeartbeats 2000000
namespace Bt
open PySem PySem.Spec PyProof.Rows L2

/-! ### values without a store -/
inductive P where
  | non | bl (b : Bool) | int (i : Int) | str (x : Str) | tup (xs : List P) | lst (xs : List P) | dic (kvs : List (Key × P)) | ins (c : Str) (fs : List (Str × P)) | glo (x : Str) | ty (n : String) | fz (xs : List P)
abbrev Frs := Nat → Prop
mutual
inductive SV (S : Sto) (F : Frs) : D → P → Prop
  | non : SV S F .non .non
  | bl (b) : SV S F (.bl b) (.bl b)
  | int (i) : SV S F (.int i) (.int i)
  | str (x) : SV S F (.str x) (.str x)
  | glo (x) : SV S F (.glo x) (.glo x)
  | ty (n) : SV S F (.ty n) (.ty n)
  | tup {ds : List D} {ps : List P} : SVs S F ds ps → SV S F (.tup ds) (.tup ps)
  | fz {ds : List D} {ps : List P} : SVs S F ds ps → SV S F (.fz ds) (.fz ps)
  | ref {n : Nat} {o : Ob} {p : P} : F n → S[n]? = some o → CR S F o p → SV S F (.ref n) p
inductive SVs (S : Sto) (F : Frs) : List D → List P → Prop
  | nil : SVs S F [] []
  | cons {d : D} {p : P} {ds : List D} {ps : List P} : SV S F d p → SVs S F ds ps → SVs S F (d :: ds) (p :: ps)
inductive CR (S : Sto) (F : Frs) : Ob → P → Prop
  | lst {ds : List D} {ps : List P} : SVs S F ds ps → CR S F (.lst ds) (.lst ps)
  | dic {kvs : List (Key × D)} {kps : List (Key × P)} : kvs.map (·.1) = kps.map (·.1) → SVs S F (kvs.map (·.2)) (kps.map (·.2)) → CR S F (.dic kvs) (.dic kps)
  | ins {c : Str} {fs : List (Str × D)} {gs : List (Str × P)} : fs.map (·.1) = gs.map (·.1) → SVs S F (fs.map (·.2)) (gs.map (·.2)) → CR S F (.ins c fs) (.ins c gs)
end
/-- what is frozen stays -/
def FrM (S : Sto) (F : Frs) (S' : Sto) (F' : Frs) : Prop := ∀ n, F n → F' n ∧ S'[n]? = S[n]?
theorem FrM.refl (S : Sto) (F : Frs) : FrM S F S F := fun _ h => ⟨h, rfl⟩
theorem FrM.trans {S1 S2 S3 : Sto} {F1 F2 F3 : Frs} (a : FrM S1 F1 S2 F2) (b : FrM S2 F2 S3 F3) : FrM S1 F1 S3 F3 := fun n h => ⟨(b n (a n h).1).1, (b n (a n h).1).2.trans (a n h).2⟩
section
variable {S S' : Sto} {F F' : Frs}
mutual
theorem SV.mono (h : FrM S F S' F') : ∀ {d : D} {p : P}, SV S F d p → SV S' F' d p
  | _, _, .non => .non
  | _, _, .bl b => .bl b
  | _, _, .int i => .int i
  | _, _, .str x => .str x
  | _, _, .glo x => .glo x
  | _, _, .ty n => .ty n
  | _, _, .tup r => .tup (SVs.mono h r)
  | _, _, .fz r => .fz (SVs.mono h r)
  | _, _, .ref f e c => .ref (h _ f).1 ((h _ f).2.trans e) (CR.mono h c)
theorem SVs.mono (h : FrM S F S' F') : ∀ {ds : List D} {ps : List P}, SVs S F ds ps → SVs S' F' ds ps
  | _, _, .nil => .nil
  | _, _, .cons a b => .cons (SV.mono h a) (SVs.mono h b)
theorem CR.mono (h : FrM S F S' F') : ∀ {o : Ob} {p : P}, CR S F o p → CR S' F' o p
  | _, _, .lst r => .lst (SVs.mono h r)
  | _, _, .dic e r => .dic e (SVs.mono h r)
  | _, _, .ins e r => .ins e (SVs.mono h r)
end
theorem SVs.length : ∀ {ds : List D} {ps : List P}, SVs S F ds ps → ds.length = ps.length
  | _, _, .nil => rfl
  | _, _, .cons _ t => by simp [SVs.length t]
theorem SVs.append : ∀ {ds es : List D} {ps qs : List P}, SVs S F ds ps → SVs S F es qs → SVs S F (ds ++ es) (ps ++ qs)
  | _, _, _, _, .nil, s => s
  | _, _, _, _, .cons r t, s => .cons r (SVs.append t s)
theorem SVs.get : ∀ {ds : List D} {ps : List P} {i : Nat} {p : P}, SVs S F ds ps → ps[i]? = some p → ∃ d, ds[i]? = some d ∧ SV S F d p
  | _, _, _, _, .nil, e => by simp at e
  | _, _, 0, _, .cons r _, e => by simp at e; subst e; exact ⟨_, rfl, r⟩
  | _, _, i + 1, p, .cons _ t, e => by
    obtain ⟨v, h1, h2⟩ := SVs.get (i := i) (p := p) t (by simpa using e)
    exact ⟨v, by simpa using h1, h2⟩
theorem SVs.set {d : D} {p : P} (r : SV S F d p) : ∀ {ds : List D} {ps : List P} (i : Nat), SVs S F ds ps → SVs S F (ds.set i d) (ps.set i p)
  | _, _, _, .nil => .nil
  | _, _, 0, .cons _ t => .cons r t
  | _, _, i + 1, .cons q t => .cons q (SVs.set r i t)
theorem SVs.take : ∀ {ds : List D} {ps : List P} (n : Nat), SVs S F ds ps → SVs S F (ds.take n) (ps.take n)
  | _, _, 0, _ => .nil
  | _, _, _ + 1, .nil => .nil
  | _, _, n + 1, .cons r t => .cons r (SVs.take n t)
theorem SVs.drop : ∀ {ds : List D} {ps : List P} (n : Nat), SVs S F ds ps → SVs S F (ds.drop n) (ps.drop n)
  | _, _, 0, r => r
  | _, _, _ + 1, .nil => .nil
  | _, _, n + 1, .cons _ t => SVs.drop n t
theorem SVs.reverse : ∀ {ds : List D} {ps : List P}, SVs S F ds ps → SVs S F ds.reverse ps.reverse
  | _, _, .nil => .nil
  | _, _, .cons r t => by
    rw [List.reverse_cons, List.reverse_cons]
    exact (SVs.reverse t).append (.cons r .nil)
theorem SVs.one {d : D} {p : P} (h : SV S F d p) : SVs S F [d] [p] := .cons h .nil
theorem SV.noexc {p : P} (h : SV S F .exc p) : False := by cases h
end

/-! ### slots, temporaries, results -/
/-- a slot: a shared value; an object of its own (borrowed? locked?); the error that is handled -/
inductive Sl where
  | sh (p : P) | li (b k : Bool) (p : P) | ex
abbrev PEnv := List (Option Sl)
/-- what an expression gives: a shared value, a new object, the object of a slot -/
inductive Tm where
  | v (p : P) | o (p : P) | l (i : Nat)
structure PX where
  c : Str
  fs : List (Str × P)
inductive PR (α : Type) where
  | ok (a : α) (e : PEnv) | exc (x : PX) (e : PEnv) | fail
def PR.bind {α β : Type} : PR α → (α → PEnv → PR β) → PR β
  | .ok a e, f => f a e
  | .exc x e, _ => .exc x e
  | .fail, _ => .fail
def slV : Option (Option Sl) → Option P
  | some (some (.sh p)) => some p
  | some (some (.li _ _ p)) => some p
  | _ => none
structure R (base : Nat) (S : Sto) (F : Frs) (env : Env) (pe : PEnv) : Prop where
  len : env.length = pe.length
  fl : ∀ n, F n → n < S.length
  bl : base ≤ S.length
  sh : ∀ (i : Nat) (p : P), pe[i]? = some (some (.sh p)) → ∃ d, env[i]? = some (some d) ∧ SV S F d p
  li : ∀ (i : Nat) (b k : Bool) (p : P), pe[i]? = some (some (.li b k p)) → ∃ n o, env[i]? = some (some (.ref n)) ∧ ¬ F n ∧ S[n]? = some o ∧ CR S F o p ∧ (b = false → base ≤ n)
  ex : ∀ i : Nat, pe[i]? = some (some .ex) → env[i]? = some (some .exc)
  nd : ∀ (i j : Nat) (b k : Bool) (p : P) (b' k' : Bool) (p' : P) (n : Nat), pe[i]? = some (some (.li b k p)) → pe[j]? = some (some (.li b' k' p')) → env[i]? = some (some (.ref n)) → env[j]? = some (some (.ref n)) → i = j
/-- all objects of slots stand below -/
def Lo (lo : Nat) (env : Env) (pe : PEnv) : Prop := ∀ (i : Nat) (b k : Bool) (p : P) (n : Nat), pe[i]? = some (some (.li b k p)) → env[i]? = some (some (.ref n)) → n < lo
theorem get_lt {α : Type} {l : List α} {n : Nat} {x : α} (h : l[n]? = some x) : n < l.length := (List.getElem?_eq_some_iff.mp h).1
theorem R.lo {base : Nat} {S : Sto} {F : Frs} {env : Env} {pe : PEnv} (r : R base S F env pe) : Lo S.length env pe := fun i b k p n h1 h2 => by
  obtain ⟨m, o, e1, _, e2, _⟩ := r.li i b k p h1
  rw [e1] at h2
  cases h2
  exact get_lt e2
/-- an expression's step; the slots' names for objects stay -/
structure StE (lo : Nat) (S : Sto) (F : Frs) (env : Env) (pe : PEnv) (S' : Sto) (F' : Frs) (pe' : PEnv) : Prop where
  len : S.length ≤ S'.length
  fr : ∀ n, F n → F' n
  fm : ∀ n, n < lo → (∀ (i : Nat) (b : Bool) (p : P), pe[i]? = some (some (.li b false p)) → env[i]? ≠ some (some (.ref n))) → S'[n]? = S[n]?
  fm2 : ∀ n, F n → S'[n]? = S[n]?
  fz : ∀ n, n < lo → F' n → F n ∨ ∃ (i : Nat) (k : Bool) (p : P), pe[i]? = some (some (.li false k p)) ∧ env[i]? = some (some (.ref n))
  pl : pe'.length = pe.length
  al : ∀ (i : Nat) (b k : Bool) (p : P), pe'[i]? = some (some (.li b k p)) → ∃ q, pe[i]? = some (some (.li b k q))
  bo : ∀ (i : Nat) (k : Bool) (p : P), pe[i]? = some (some (.li true k p)) → ∃ q, pe'[i]? = some (some (.li true k q))
  vs : ∀ (i : Nat) (p : P), slV pe[i]? = some p → ∃ q, slV pe'[i]? = some q
section
variable {lo lo' base : Nat} {S S1 S2 S3 : Sto} {F F1 F2 F3 : Frs} {env : Env} {pe pe1 pe2 pe3 : PEnv}
theorem StE.frm (s : StE lo S1 F1 env pe1 S2 F2 pe2) : FrM S1 F1 S2 F2 := fun n h => ⟨s.fr n h, s.fm2 n h⟩
theorem StE.refl (lo : Nat) (S : Sto) (F : Frs) (env : Env) (pe : PEnv) : StE lo S F env pe S F pe :=
  ⟨Nat.le_refl _, fun _ h => h, fun _ _ _ => rfl, fun _ _ => rfl, fun _ _ h => .inl h, rfl, fun _ _ _ _ h => ⟨_, h⟩, fun _ _ _ h => ⟨_, h⟩, fun _ _ h => ⟨_, h⟩⟩
theorem StE.trans (a : StE lo S1 F1 env pe1 S2 F2 pe2) (b : StE lo S2 F2 env pe2 S3 F3 pe3) : StE lo S1 F1 env pe1 S3 F3 pe3 where
  len := Nat.le_trans a.len b.len
  fr := fun n h => b.fr n (a.fr n h)
  fm := fun n h1 h2 => (b.fm n h1 fun i c p e => by
    obtain ⟨q, e'⟩ := a.al i c false p e
    exact h2 i c q e').trans (a.fm n h1 h2)
  fm2 := fun n h => (b.fm2 n (a.fr n h)).trans (a.fm2 n h)
  fz := fun n h1 h2 => by
    rcases b.fz n h1 h2 with h | ⟨i, k, p, e1, e2⟩
    · exact a.fz n h1 h
    · obtain ⟨q, e'⟩ := a.al i false k p e1
      exact .inr ⟨i, k, q, e', e2⟩
  pl := b.pl.trans a.pl
  al := fun i c k p h => by
    obtain ⟨q, h'⟩ := b.al i c k p h
    exact a.al i c k q h'
  bo := fun i k p h => by
    obtain ⟨q, h'⟩ := a.bo i k p h
    exact b.bo i k q h'
  vs := fun i p h => by
    obtain ⟨q, h'⟩ := a.vs i p h
    exact b.vs i q h'
theorem StE.low (a : StE lo' S1 F1 env pe1 S2 F2 pe2) (h : lo ≤ lo') : StE lo S1 F1 env pe1 S2 F2 pe2 :=
  { a with fm := fun n h1 h2 => a.fm n (Nat.lt_of_lt_of_le h1 h) h2, fz := fun n h1 h2 => a.fz n (Nat.lt_of_lt_of_le h1 h) h2 }
theorem StE.lows (a : StE lo' S1 F1 env pe1 S2 F2 pe2) (h : Lo lo env pe1) : Lo lo env pe2 := fun i b k p n h1 h2 => by
  obtain ⟨q, h'⟩ := a.al i b k p h1
  exact h i b k q n h' h2
end
/-- what a temporary stands for -/
def TmR (S : Sto) (F : Frs) (env : Env) (pe : PEnv) (lo : Nat) (d : D) : Tm → Prop
  | .v p => SV S F d p
  | .o p => ∃ n o, d = .ref n ∧ lo ≤ n ∧ ¬ F n ∧ S[n]? = some o ∧ CR S F o p
  | .l i => env[i]? = some (some d) ∧ ∃ p, slV pe[i]? = some p
theorem TmR.low {S : Sto} {F : Frs} {env : Env} {pe : PEnv} {lo lo' : Nat} {d : D} {t : Tm} (h : TmR S F env pe lo' d t) (hl : lo ≤ lo') : TmR S F env pe lo d t := by
  cases t with
  | v p => exact h
  | o p => obtain ⟨n, o, h1, h2, h3⟩ := h; exact ⟨n, o, h1, Nat.le_trans hl h2, h3⟩
  | l i => exact h
/-- a temporary outlives a later step -/
theorem TmR.mono {S S' : Sto} {F F' : Frs} {env : Env} {pe pe' : PEnv} {lo lo' : Nat} {d : D} {t : Tm} (h : TmR S F env pe lo d t) (hl : Lo lo env pe) (hs : S.length ≤ lo') (s : StE lo' S F env pe S' F' pe') : TmR S' F' env pe' lo d t := by
  cases t with
  | v p => exact SV.mono s.frm h
  | o p =>
    obtain ⟨n, o, h1, h2, h3, h4, h5⟩ := h
    have hn : n < lo' := Nat.lt_of_lt_of_le (get_lt h4) hs
    refine ⟨n, o, h1, h2, fun hf => ?_, (s.fm n hn fun i b p e1 e2 => ?_).trans h4, h5.mono s.frm⟩
    · rcases s.fz n hn hf with z | ⟨i, k, p, e1, e2⟩
      · exact h3 z
      · exact Nat.lt_irrefl _ (Nat.lt_of_lt_of_le (hl i false k p n e1 e2) h2)
    · exact Nat.lt_irrefl _ (Nat.lt_of_lt_of_le (hl i b false p n e1 e2) h2)
  | l i =>
    obtain ⟨h1, p, h2⟩ := h
    exact ⟨h1, s.vs i p h2⟩
def XR (S : Sto) (F : Frs) (x : Exc) (y : PX) : Prop := x.c = y.c ∧ x.fs.map (·.1) = y.fs.map (·.1) ∧ SVs S F (x.fs.map (·.2)) (y.fs.map (·.2))
theorem XR.mono {S S' : Sto} {F F' : Frs} {x : Exc} {y : PX} (h : XR S F x y) (m : FrM S F S' F') : XR S' F' x y := ⟨h.1, h.2.1, h.2.2.mono m⟩

/-! ### what an expression's meaning without a store promises -/
abbrev RelP (α β : Type) := Sto → Frs → Env → PEnv → Nat → α → β → Prop
def Out {α β : Type} (Q : RelP α β) (base lo : Nat) (S : Sto) (F : Frs) (env : Env) (pe : PEnv) (r : Rs α) (q : PR β) : Prop := match q with
  | .ok b pe' => ∃ a S' F', r = .ok a S' ∧ R base S' F' env pe' ∧ StE lo S F env pe S' F' pe' ∧ Q S' F' env pe' lo a b
  | .exc x pe' => ∃ y S' F', r = .exc y S' ∧ R base S' F' env pe' ∧ StE lo S F env pe S' F' pe' ∧ XR S' F' y x
  | .fail => True
abbrev QD : RelP D Tm := fun S F env pe lo d t => TmR S F env pe lo d t
abbrev QB : RelP Bool Bool := fun _ _ _ _ _ a b => a = b
abbrev QP : RelP D P := fun S F _ _ _ d p => SV S F d p
abbrev QPs : RelP (List D) (List P) := fun S F _ _ _ d p => SVs S F d p
def Sim {α β : Type} (Q : RelP α β) (m : Env → Sto → Rs α) (p : PEnv → PR β) : Prop := ∀ base S F env pe, R base S F env pe → Out Q base S.length S F env pe (m env S) (p pe)
abbrev PEm := PEnv → PR Tm
abbrev PTm := PEnv → PR Bool
section
variable {α β γ δ : Type} {Q : RelP α β} {Q' : RelP γ δ} {base lo lo' : Nat} {S : Sto} {F : Frs} {env : Env} {pe : PEnv}
theorem out_fail (r : Rs α) : Out Q base lo S F env pe r .fail := trivial
theorem Out.step {S1 : Sto} {F1 : Frs} {pe1 : PEnv} {r : Rs α} {q : PR β} (s : StE lo S F env pe S1 F1 pe1) (h : Out Q base lo S1 F1 env pe1 r q) : Out Q base lo S F env pe r q := by
  cases q with
  | ok b pe' => obtain ⟨a, S', F', h1, h2, h3, h4⟩ := h; exact ⟨a, S', F', h1, h2, s.trans h3, h4⟩
  | exc x pe' => obtain ⟨a, S', F', h1, h2, h3, h4⟩ := h; exact ⟨a, S', F', h1, h2, s.trans h3, h4⟩
  | fail => trivial
/-- one after the other -/
theorem Out.bind {r : Rs α} {q : PR β} {f : α → Sto → Rs γ} {g : β → PEnv → PR δ} (h1 : Out Q base lo' S F env pe r q) (hl : lo ≤ lo')
    (h2 : ∀ a b S' F' pe', R base S' F' env pe' → StE lo' S F env pe S' F' pe' → Q S' F' env pe' lo' a b → Out Q' base lo S' F' env pe' (f a S') (g b pe')) : Out Q' base lo S F env pe (r.bind f) (q.bind g) := by
  cases q with
  | ok b pe' =>
    obtain ⟨a, S', F', e, e1, e2, e3⟩ := h1
    subst e
    exact Out.step (e2.low hl) (h2 a b S' F' pe' e1 e2 e3)
  | exc x pe' =>
    obtain ⟨y, S', F', e, e1, e2, e3⟩ := h1
    subst e
    exact ⟨y, S', F', rfl, e1, e2.low hl, e3⟩
  | fail => trivial
theorem out_ok {a : α} {b : β} (r : R base S F env pe) (h : Q S F env pe lo a b) : Out Q base lo S F env pe (.ok a S) (.ok b pe) := ⟨a, S, F, rfl, r, StE.refl _ _ _ _ _, h⟩
end
/-! ### a new cell -/
section
variable {base lo : Nat} {S : Sto} {F : Frs} {env : Env} {pe : PEnv}
theorem frm_app (S l : Sto) (F : Frs) (h : ∀ n, F n → n < S.length) : FrM S F (S ++ l) F := fun n hn => ⟨hn, List.getElem?_append_left (h n hn)⟩
theorem R.app (r : R base S F env pe) (l : Sto) : R base (S ++ l) F env pe where
  len := r.len
  fl := fun n h => by have := r.fl n h; simp; omega
  bl := by have := r.bl; simp; omega
  sh := fun i p h => by obtain ⟨d, e, v⟩ := r.sh i p h; exact ⟨d, e, v.mono (frm_app S l F r.fl)⟩
  li := fun i b k p h => by
    obtain ⟨n, o, e1, e2, e3, e4, e5⟩ := r.li i b k p h
    exact ⟨n, o, e1, e2, app_at e3, e4.mono (frm_app S l F r.fl), e5⟩
  ex := r.ex
  nd := r.nd
theorem StE.app (r : R base S F env pe) (hl : lo ≤ S.length) (l : Sto) : StE lo S F env pe (S ++ l) F pe where
  len := by simp
  fr := fun _ h => h
  fm := fun n h _ => List.getElem?_append_left (Nat.lt_of_lt_of_le h hl)
  fm2 := fun n h => List.getElem?_append_left (r.fl n h)
  fz := fun _ _ h => .inl h
  pl := rfl
  al := fun _ _ _ _ h => ⟨_, h⟩
  bo := fun _ _ _ h => ⟨_, h⟩
  vs := fun _ _ h => ⟨_, h⟩
/-- what an operation by values gives -/
inductive Prim (S : Sto) (F : Frs) : Rs D → Tm → Prop
  | v {d : D} {p : P} : SV S F d p → Prim S F (.ok d S) (.v p)
  | o {o : Ob} {p : P} : CR S F o p → Prim S F (.ok (.ref S.length) (S ++ [o])) (.o p)
theorem out_prim {r : Rs D} {t : Tm} (hR : R base S F env pe) (hl : lo ≤ S.length) (h : Prim S F r t) : Out QD base lo S F env pe r (.ok t pe) := by
  cases h with
  | v h => exact out_ok hR h
  | o h =>
    refine ⟨_, _, F, rfl, hR.app _, StE.app hR hl _, _, _, rfl, hl, fun hf => Nat.lt_irrefl _ (hR.fl _ hf), app_new, h.mono (frm_app S _ F hR.fl)⟩
end
/-! ### reading a temporary -/
def der : Tm → PEnv → Option P
  | .v p, _ => some p
  | .o p, _ => some p
  | .l i, pe => slV pe[i]?
/-- what may be read now -/
def RV (S : Sto) (F : Frs) (d : D) (p : P) : Prop := SV S F d p ∨ ∃ n o, d = .ref n ∧ S[n]? = some o ∧ CR S F o p
theorem slV_cases {o : Option (Option Sl)} {p : P} (h : slV o = some p) : o = some (some (.sh p)) ∨ ∃ b k, o = some (some (.li b k p)) := by
  unfold slV at h
  split at h
  · cases h; exact .inl rfl
  · cases h; exact .inr ⟨_, _, rfl⟩
  · cases h
theorem der_rv {base lo : Nat} {S : Sto} {F : Frs} {env : Env} {pe : PEnv} {d : D} {t : Tm} {p : P} (hR : R base S F env pe) (h : TmR S F env pe lo d t) (e : der t pe = some p) : RV S F d p := by
  cases t with
  | v q => cases e; exact .inl h
  | o q => cases e; obtain ⟨n, o, h1, _, _, h2, h3⟩ := h; exact .inr ⟨n, o, h1, h2, h3⟩
  | l i =>
    obtain ⟨h1, _⟩ := h
    rcases slV_cases e with e | ⟨b, k, e⟩
    · obtain ⟨d', h2, h3⟩ := hR.sh i p e
      rw [h1] at h2; cases h2
      exact .inl h3
    · obtain ⟨n, o, h2, _, h3, h4, _⟩ := hR.li i b k p e
      rw [h1] at h2; cases h2
      exact .inr ⟨n, o, rfl, h3, h4⟩
theorem RV.ref {S : Sto} {F : Frs} {n : Nat} {p : P} (h : RV S F (.ref n) p) : ∃ o, S[n]? = some o ∧ CR S F o p := by
  rcases h with h | ⟨m, o, e, h1, h2⟩
  · cases h with
    | ref _ e c => exact ⟨_, e, c⟩
  · cases e; exact ⟨o, h1, h2⟩
/-! ### freezing -/
def frz : Tm → PEnv → Option (P × PEnv)
  | .v p, pe => some (p, pe)
  | .o p, pe => some (p, pe)
  | .l i, pe => match pe[i]? with
    | some (some (.sh p)) => some (p, pe)
    | some (some (.li false _ p)) => some (p, pe.set i (some (.sh p)))
    | _ => none
section
variable {base lo : Nat} {S : Sto} {F : Frs} {env : Env} {pe : PEnv}
abbrev addF (F : Frs) (n : Nat) : Frs := fun m => F m ∨ m = n
theorem frm_add (S : Sto) (F : Frs) (n : Nat) : FrM S F S (addF F n) := fun _ h => ⟨.inl h, rfl⟩
theorem set_get {pe : PEnv} {i j : Nat} {s : Option Sl} {x : Option Sl} (h : (pe.set i s)[j]? = some x) : (i = j ∧ x = s) ∨ (i ≠ j ∧ pe[j]? = some x) := by
  by_cases e : i = j
  · subst e
    have hl : i < pe.length := by have := get_lt h; simpa using this
    rw [List.getElem?_set_self hl] at h
    cases h
    exact .inl ⟨rfl, rfl⟩
  · rw [List.getElem?_set_ne e] at h
    exact .inr ⟨e, h⟩
/-- the object of a slot becomes a shared value -/
theorem freeze_slot (hR : R base S F env pe) {i : Nat} {k : Bool} {p : P} (h : pe[i]? = some (some (.li false k p))) {n : Nat} (hn : env[i]? = some (some (.ref n))) :
    R base S (addF F n) env (pe.set i (some (.sh p))) ∧ StE lo S F env pe S (addF F n) (pe.set i (some (.sh p))) ∧ SV S (addF F n) (.ref n) p := by
  obtain ⟨m, o, e1, e2, e3, e4, e5⟩ := hR.li i false k p h
  rw [hn] at e1; cases e1
  have sv : SV S (addF F n) (.ref n) p := .ref (.inr rfl) e3 (e4.mono (frm_add S F n))
  refine ⟨⟨by simp [hR.len], fun m hm => ?_, hR.bl, fun j q hj => ?_, fun j b k' q hj => ?_, fun j hj => ?_, fun a b c1 c2 c3 c4 c5 c6 m ha hb h1 h2 => ?_⟩, ⟨Nat.le_refl _, fun m hm => .inl hm, fun _ _ _ => rfl, fun _ _ => rfl, fun m _ hm => ?_, by simp, fun j b k' q hj => ?_, fun j k' q hj => ?_, fun j q hj => ?_⟩, sv⟩
  · rcases hm with hm | rfl
    · exact hR.fl m hm
    · exact get_lt e3
  · rcases set_get hj with ⟨rfl, z⟩ | ⟨_, z⟩
    · cases z; exact ⟨_, hn, sv⟩
    · obtain ⟨d, z1, z2⟩ := hR.sh j q z
      exact ⟨d, z1, z2.mono (frm_add S F n)⟩
  · rcases set_get hj with ⟨rfl, z⟩ | ⟨ne, z⟩
    · cases z
    · obtain ⟨m, o', z1, z2, z3, z4, z5⟩ := hR.li j b k' q z
      refine ⟨m, o', z1, fun hf => ?_, z3, z4.mono (frm_add S F n), z5⟩
      rcases hf with hf | rfl
      · exact z2 hf
      · exact ne (hR.nd i j _ _ _ _ _ _ m h z hn z1)
  · rcases set_get hj with ⟨rfl, z⟩ | ⟨ne, z⟩
    · cases z
    · exact hR.ex j z
  · rcases set_get ha with ⟨rfl, z⟩ | ⟨_, za⟩
    · cases z
    · rcases set_get hb with ⟨rfl, z⟩ | ⟨_, zb⟩
      · cases z
      · exact hR.nd a b _ _ _ _ _ _ m za zb h1 h2
  · rcases hm with hm | rfl
    · exact .inl hm
    · exact .inr ⟨i, k, p, h, hn⟩
  · rcases set_get hj with ⟨rfl, z⟩ | ⟨ne, z⟩
    · cases z
    · exact ⟨_, z⟩
  · by_cases e : i = j
    · subst e; rw [h] at hj; cases hj
    · exact ⟨q, by rw [List.getElem?_set_ne e]; exact hj⟩
  · by_cases e : i = j
    · subst e; exact ⟨p, by rw [List.getElem?_set_self (get_lt h)]; rfl⟩
    · exact ⟨q, by rw [List.getElem?_set_ne e]; exact hj⟩
/-- a new object becomes a shared value -/
theorem freeze_new (hR : R base S F env pe) (hL : Lo lo env pe) {n : Nat} {o : Ob} {p : P} (hn : lo ≤ n) (h3 : S[n]? = some o) (h4 : CR S F o p) :
    R base S (addF F n) env pe ∧ StE lo S F env pe S (addF F n) pe ∧ SV S (addF F n) (.ref n) p := by
  refine ⟨⟨hR.len, fun m hm => ?_, hR.bl, fun j q hj => ?_, fun j b k' q hj => ?_, hR.ex, hR.nd⟩, ⟨Nat.le_refl _, fun m hm => .inl hm, fun _ _ _ => rfl, fun _ _ => rfl, fun m hm hf => ?_, rfl, fun _ _ _ _ h => ⟨_, h⟩, fun _ _ _ h => ⟨_, h⟩, fun _ _ h => ⟨_, h⟩⟩, .ref (.inr rfl) h3 (h4.mono (frm_add S F n))⟩
  · rcases hm with hm | rfl
    · exact hR.fl m hm
    · exact get_lt h3
  · obtain ⟨d, z1, z2⟩ := hR.sh j q hj
    exact ⟨d, z1, z2.mono (frm_add S F n)⟩
  · obtain ⟨m, o', z1, z2, z3, z4, z5⟩ := hR.li j b k' q hj
    refine ⟨m, o', z1, fun hf => ?_, z3, z4.mono (frm_add S F n), z5⟩
    rcases hf with hf | rfl
    · exact z2 hf
    · exact Nat.lt_irrefl _ (Nat.lt_of_lt_of_le (hL j b k' q m hj z1) hn)
  · rcases hf with hf | rfl
    · exact .inl hf
    · omega
theorem frz_ok {d : D} {t : Tm} {p : P} {pe' : PEnv} (hR : R base S F env pe) (hL : Lo lo env pe) (h : TmR S F env pe lo d t) (e : frz t pe = some (p, pe')) :
    ∃ F', R base S F' env pe' ∧ StE lo S F env pe S F' pe' ∧ SV S F' d p := by
  cases t with
  | v q => cases e; exact ⟨F, hR, StE.refl _ _ _ _ _, h⟩
  | o q =>
    cases e
    obtain ⟨n, o, rfl, h1, h2, h3, h4⟩ := h
    exact ⟨_, freeze_new hR hL h1 h3 h4⟩
  | l i =>
    obtain ⟨h1, h2⟩ := h
    clear h2
    have e' : (match pe[i]? with
      | some (some (.sh p)) => some (p, pe)
      | some (some (.li false _ p)) => some (p, pe.set i (some (.sh p)))
      | _ => none) = some (p, pe') := e
    split at e'
    · rename_i q hq
      cases e'
      obtain ⟨d', z1, z2⟩ := hR.sh i p hq
      rw [h1] at z1; cases z1
      exact ⟨F, hR, StE.refl _ _ _ _ _, z2⟩
    · rename_i k q hq
      cases e'
      obtain ⟨n, o, e1, e2, e3, e4, e5⟩ := hR.li i false k p hq
      have e6 := e1
      rw [h1] at e1; cases e1
      exact ⟨_, freeze_slot hR hq e6⟩
    · cases e'
end
end Bt

set_option Elab.async false
set_option linter.all false
set_option maxRecDepth 100000
set_option maxHeartbeats 2000000
namespace Bt
open PySem PySem.Spec PyProof.Rows L2

/-! ### what a readable value is -/
section
variable {S : Sto} {F : Frs} {d : D}
theorem RV.inv {p : P} (h : RV S F d p) : SV S F d p ∨ ∃ n o, d = .ref n ∧ S[n]? = some o ∧ CR S F o p := h
theorem RV.non (h : RV S F d .non) : d = .non := by
  rcases h with h | ⟨n, o, _, _, h⟩
  · cases h with
    | non => rfl
    | ref _ _ c => cases c
  · cases h
theorem RV.bl {b : Bool} (h : RV S F d (.bl b)) : d = .bl b := by
  rcases h with h | ⟨n, o, _, _, h⟩
  · cases h with
    | bl => rfl
    | ref _ _ c => cases c
  · cases h
theorem RV.int {b : Int} (h : RV S F d (.int b)) : d = .int b := by
  rcases h with h | ⟨n, o, _, _, h⟩
  · cases h with
    | int => rfl
    | ref _ _ c => cases c
  · cases h
theorem RV.str {b : Str} (h : RV S F d (.str b)) : d = .str b := by
  rcases h with h | ⟨n, o, _, _, h⟩
  · cases h with
    | str => rfl
    | ref _ _ c => cases c
  · cases h
theorem RV.glo {b : Str} (h : RV S F d (.glo b)) : d = .glo b := by
  rcases h with h | ⟨n, o, _, _, h⟩
  · cases h with
    | glo => rfl
    | ref _ _ c => cases c
  · cases h
theorem RV.ty {b : String} (h : RV S F d (.ty b)) : d = .ty b := by
  rcases h with h | ⟨n, o, _, _, h⟩
  · cases h with
    | ty => rfl
    | ref _ _ c => cases c
  · cases h
theorem RV.tup {ps : List P} (h : RV S F d (.tup ps)) : ∃ ds, d = .tup ds ∧ SVs S F ds ps := by
  rcases h with h | ⟨n, o, _, _, h⟩
  · cases h with
    | tup r => exact ⟨_, rfl, r⟩
    | ref _ _ c => cases c
  · cases h
theorem RV.fz {ps : List P} (h : RV S F d (.fz ps)) : ∃ ds, d = .fz ds ∧ SVs S F ds ps := by
  rcases h with h | ⟨n, o, _, _, h⟩
  · cases h with
    | fz r => exact ⟨_, rfl, r⟩
    | ref _ _ c => cases c
  · cases h
theorem RV.lst {ps : List P} (h : RV S F d (.lst ps)) : ∃ n ds, d = .ref n ∧ S[n]? = some (.lst ds) ∧ SVs S F ds ps := by
  rcases h with h | ⟨n, o, e, h1, h⟩
  · cases h with
    | ref _ e c => cases c with
      | lst r => exact ⟨_, _, rfl, e, r⟩
  · cases h with
    | lst r => exact ⟨n, _, e, h1, r⟩
theorem RV.dic {ps : List (Key × P)} (h : RV S F d (.dic ps)) : ∃ n ds, d = .ref n ∧ S[n]? = some (.dic ds) ∧ ds.map (·.1) = ps.map (·.1) ∧ SVs S F (ds.map (·.2)) (ps.map (·.2)) := by
  rcases h with h | ⟨n, o, e, h1, h⟩
  · cases h with
    | ref _ e c => cases c with
      | dic r1 r => exact ⟨_, _, rfl, e, r1, r⟩
  · cases h with
    | dic r1 r => exact ⟨n, _, e, h1, r1, r⟩
theorem RV.ins {c : Str} {ps : List (Str × P)} (h : RV S F d (.ins c ps)) : ∃ n ds, d = .ref n ∧ S[n]? = some (.ins c ds) ∧ ds.map (·.1) = ps.map (·.1) ∧ SVs S F (ds.map (·.2)) (ps.map (·.2)) := by
  rcases h with h | ⟨n, o, e, h1, h⟩
  · cases h with
    | ref _ e c => cases c with
      | ins r1 r => exact ⟨_, _, rfl, e, r1, r⟩
  · cases h with
    | ins r1 r => exact ⟨n, _, e, h1, r1, r⟩
end
theorem lookup_rel {S : Sto} {F : Frs} : ∀ {fs : List (Str × D)} {gs : List (Str × P)} {f : Str}, fs.map (·.1) = gs.map (·.1) → SVs S F (fs.map (·.2)) (gs.map (·.2)) → (fs.lookup f = none ∧ gs.lookup f = none) ∨ ∃ d p, fs.lookup f = some d ∧ gs.lookup f = some p ∧ SV S F d p
  | [], [], _, _, _ => .inl ⟨rfl, rfl⟩
  | [], _ :: _, _, e, _ => by cases e
  | _ :: _, [], _, e, _ => by cases e
  | (a, d) :: fs, (b, p) :: gs, f, e, r => by
    cases r with
    | cons r1 r2 =>
      have e1 : a = b := by simpa using congrArg List.head? e
      subst e1
      by_cases h : (f == a) = true
      · exact .inr ⟨d, p, by simp [List.lookup, h], by simp [List.lookup, h], r1⟩
      · have h' : (f == a) = false := by simpa using h
        have e2 : fs.map (·.1) = gs.map (·.1) := by simpa using e
        rcases lookup_rel (f := f) e2 r2 with ⟨z1, z2⟩ | ⟨d', p', z1, z2, z3⟩
        · exact .inl ⟨by simp [List.lookup, h', z1], by simp [List.lookup, h', z2]⟩
        · exact .inr ⟨d', p', by simp [List.lookup, h', z1], by simp [List.lookup, h', z2], z3⟩
theorem valD_rel {S : Sto} {F : Frs} : ∀ {fs : List (Key × D)} {gs : List (Key × P)} {f : Key}, fs.map (·.1) = gs.map (·.1) → SVs S F (fs.map (·.2)) (gs.map (·.2)) → (valD fs f = none ∧ valD gs f = none) ∨ ∃ d p, valD fs f = some d ∧ valD gs f = some p ∧ SV S F d p
  | [], [], _, _, _ => .inl ⟨rfl, rfl⟩
  | [], _ :: _, _, e, _ => by cases e
  | _ :: _, [], _, e, _ => by cases e
  | (a, d) :: fs, (b, p) :: gs, f, e, r => by
    cases r with
    | cons r1 r2 =>
      have e1 : a = b := by simpa using congrArg List.head? e
      subst e1
      by_cases h : a = f
      · exact .inr ⟨d, p, by simp [valD, h], by simp [valD, h], r1⟩
      · have e2 : fs.map (·.1) = gs.map (·.1) := by simpa using e
        rcases valD_rel (f := f) e2 r2 with ⟨z1, z2⟩ | ⟨d', p', z1, z2, z3⟩
        · exact .inl ⟨by simpa [valD, h] using z1, by simpa [valD, h] using z2⟩
        · exact .inr ⟨d', p', by simpa [valD, h] using z1, by simpa [valD, h] using z2, z3⟩

/-! ### combinators -/
def pVar (i : Nat) : PEm := fun pe => match pe[i]? with
  | some (some (.sh p)) => .ok (.v p) pe
  | some (some (.li _ _ _)) => .ok (.l i) pe
  | _ => .fail
def pC (p : P) : PEm := fun pe => .ok (.v p) pe
def pUn (g : Tm → PEnv → PR Tm) (a : PEm) : PEm := fun pe => (a pe).bind fun t pe => g t pe
def pOp (g : Tm → Tm → PEnv → PR Tm) (a b : PEm) : PEm := fun pe => (a pe).bind fun t pe => (b pe).bind fun u pe => g t u pe
def UnT (gd : D → Sto → Rs D) (gp : Tm → PEnv → PR Tm) : Prop := ∀ base lo S F env pe d t, R base S F env pe → lo ≤ S.length → Lo lo env pe → TmR S F env pe lo d t → Out QD base lo S F env pe (gd d S) (gp t pe)
def OpT (gd : D → D → Sto → Rs D) (gp : Tm → Tm → PEnv → PR Tm) : Prop := ∀ base lo S F env pe d e t u, R base S F env pe → lo ≤ S.length → Lo lo env pe → TmR S F env pe lo d t → TmR S F env pe lo e u → (∀ p q, t = .o p → u = .o q → d ≠ e) → Out QD base lo S F env pe (gd d e S) (gp t u pe)
section
theorem sim_var (i : Nat) : Sim QD (mVar i) (pVar i) := by
  intro base S F env pe hR
  unfold pVar
  split
  · rename_i p h
    obtain ⟨d, e, v⟩ := hR.sh i p h
    have q : mVar i env S = .ok d S := by
      unfold mVar
      rw [e]
      cases d <;> first | rfl | exact v.noexc.elim
    rw [q]
    exact out_ok hR v
  · rename_i b k p h
    obtain ⟨n, o, e, _⟩ := hR.li i b k p h
    have q : mVar i env S = .ok (.ref n) S := by
      unfold mVar
      rw [e]
    rw [q]
    exact out_ok hR ⟨e, p, by rw [h]; rfl⟩
  · trivial
theorem sim_c {d : D} {p : P} (h : ∀ S F, SV S F d p) : Sim QD (mC d) (pC p) := fun base S F env pe hR => out_ok hR (h S F)
theorem sim_un {a : ME} {pa : PEm} {gd : D → Sto → Rs D} {gp : Tm → PEnv → PR Tm} (ha : Sim QD a pa) (h : UnT gd gp) : Sim QD (mUn gd a) (pUn gp pa) := fun base S F env pe hR =>
  (ha base S F env pe hR).bind (Nat.le_refl _) fun d t S1 F1 pe1 R1 s1 q1 => h base S.length S1 F1 env pe1 d t R1 s1.len (s1.lows hR.lo) q1
theorem two_temps {base : Nat} {S S1 S2 : Sto} {F F1 F2 : Frs} {env : Env} {pe pe1 pe2 : PEnv} {d e : D} {t u : Tm} (hR : R base S F env pe) (s1 : StE S.length S F env pe S1 F1 pe1) (q1 : TmR S1 F1 env pe1 S.length d t)
    (s2 : StE S1.length S1 F1 env pe1 S2 F2 pe2) (q2 : TmR S2 F2 env pe2 S1.length e u) : TmR S2 F2 env pe2 S.length d t ∧ TmR S2 F2 env pe2 S.length e u ∧ (∀ p q, t = .o p → u = .o q → d ≠ e) ∧ S.length ≤ S2.length ∧ Lo S.length env pe2 := by
  refine ⟨q1.mono (s1.lows hR.lo) (Nat.le_refl _) s2, q2.low s1.len, fun p q e1 e2 e3 => ?_, Nat.le_trans s1.len s2.len, s2.lows (s1.lows hR.lo)⟩
  subst e1 e2 e3
  obtain ⟨n, o, rfl, _, _, h1, _⟩ := q1
  obtain ⟨m, o', z, h2, _⟩ := q2
  cases z
  have := get_lt h1
  omega
theorem sim_op {a b : ME} {pa pb : PEm} {gd : D → D → Sto → Rs D} {gp : Tm → Tm → PEnv → PR Tm} (ha : Sim QD a pa) (hb : Sim QD b pb) (h : OpT gd gp) : Sim QD (mOp gd a b) (pOp gp pa pb) := fun base S F env pe hR =>
  (ha base S F env pe hR).bind (Nat.le_refl _) fun d t S1 F1 pe1 R1 s1 q1 => (hb base S1 F1 env pe1 R1).bind s1.len fun e u S2 F2 pe2 R2 s2 q2 => by
    obtain ⟨h1, h2, h3, h4, h5⟩ := two_temps hR s1 q1 s2 q2
    exact h base S.length S2 F2 env pe2 d e t u R2 h4 h5 h1 h2 h3
end
/-! operations by values -/
def lift1 (g : P → Option Tm) (t : Tm) (pe : PEnv) : PR Tm := match der t pe with
  | some p => match g p with
    | some r => .ok r pe
    | none => .fail
  | none => .fail
def lift2 (g : P → P → Option Tm) (t u : Tm) (pe : PEnv) : PR Tm := match der t pe, der u pe with
  | some p, some q => match g p q with
    | some r => .ok r pe
    | none => .fail
  | _, _ => .fail
theorem lift1_ok {gd : D → Sto → Rs D} {g : P → Option Tm} (h : ∀ S F d p t, RV S F d p → g p = some t → Prim S F (gd d S) t) : UnT gd (lift1 g) := by
  intro base lo S F env pe d t hR hl hL ht
  unfold lift1
  cases e : der t pe with
  | none => trivial
  | some p =>
    dsimp only
    cases e1 : g p with
    | none => trivial
    | some r => exact out_prim hR hl (h S F d p r (der_rv hR ht e) e1)
theorem lift2_ok {gd : D → D → Sto → Rs D} {g : P → P → Option Tm} (h : ∀ S F d e p q t, RV S F d p → RV S F e q → g p q = some t → Prim S F (gd d e S) t) : OpT gd (lift2 g) := by
  intro base lo S F env pe d e t u hR hl hL ht hu _
  unfold lift2
  cases e1 : der t pe with
  | none => trivial
  | some p =>
    cases e2 : der u pe with
    | none => trivial
    | some q =>
      dsimp only
      cases e3 : g p q with
      | none => trivial
      | some r => exact out_prim hR hl (h S F d e p q r (der_rv hR ht e1) (der_rv hR hu e2) e3)
def addP : P → P → Option Tm
  | .int i, .int j => some (.v (.int (i + j)))
  | .str x, .str y => if x.length + y.length ≤ sizeLine then some (.v (.str (x ++ y))) else none
  | .tup xs, .tup ys => if xs.length + ys.length ≤ sizeLine then some (.v (.tup (xs ++ ys))) else none
  | .lst xs, .lst ys => if xs.length + ys.length ≤ sizeLine then some (.o (.lst (xs ++ ys))) else none
  | _, _ => none
theorem add_ok : OpT addD (lift2 addP) := lift2_ok fun S F d e p q t h1 h2 h => by
  unfold addP at h
  split at h
  · cases h; rw [h1.int, h2.int]; exact .v (.int _)
  · rename_i x y
    split at h
    · rename_i hl
      cases h
      rw [h1.str, h2.str]
      show Prim S F (if _ then _ else _) _
      rw [if_pos hl]
      exact .v (.str _)
    · cases h
  · rename_i x y
    split at h
    · rename_i hl
      cases h
      obtain ⟨ds, rfl, r1⟩ := h1.tup
      obtain ⟨es, rfl, r2⟩ := h2.tup
      show Prim S F (if _ then _ else _) _
      rw [if_pos (by rw [r1.length, r2.length]; exact hl)]
      exact .v (.tup (r1.append r2))
    · cases h
  · rename_i x y
    split at h
    · rename_i hl
      cases h
      obtain ⟨n, ds, rfl, e1, r1⟩ := h1.lst
      obtain ⟨m, es, rfl, e2, r2⟩ := h2.lst
      have q : addD (.ref n) (.ref m) S = .ok (.ref S.length) (S ++ [.lst (ds ++ es)]) := by
        simp only [addD, e1, e2]
        rw [if_pos (by rw [r1.length, r2.length]; exact hl)]
      rw [q]
      exact .o (.lst (r1.append r2))
    · cases h
  · cases h
def intP (p : Int → Int → Bool) (f : Int → Int → Int) : P → P → Option Tm
  | .int i, .int j => if p i j then some (.v (.int (f i j))) else none
  | _, _ => none
theorem int_ok (p : Int → Int → Bool) (f : Int → Int → Int) : OpT (intOp p f) (lift2 (intP p f)) := lift2_ok fun S F d e a b t h1 h2 h => by
  unfold intP at h
  split at h
  · rename_i i j
    rw [h1.int, h2.int]
    show Prim S F (if p i j = true then _ else _) _
    split at h
    · rename_i hp
      cases h
      rw [if_pos hp]
      exact .v (.int _)
    · cases h
  · cases h
def negP : P → Option Tm
  | .int i => some (.v (.int (-i)))
  | _ => none
theorem neg_ok : UnT negI (lift1 negP) := lift1_ok fun S F d p t h1 h => by
  unfold negP at h
  split at h
  · cases h; rw [h1.int]; exact .v (.int _)
  · cases h
/-! truth -/
def truP : P → Option Bool
  | .non => some false
  | .bl b => some b
  | .int i => some (i != 0)
  | .str x => if x.length ≤ sizeLine then some ((x.length : Int) != 0) else none
  | .tup xs => some (!xs.isEmpty)
  | .lst xs => some (!xs.isEmpty)
  | .dic kvs => some (!kvs.isEmpty)
  | _ => none
theorem isEmpty_len {α β : Type} {xs : List α} {ys : List β} (h : xs.length = ys.length) : xs.isEmpty = ys.isEmpty := by
  cases xs <;> cases ys <;> simp_all
theorem tru_ok {S : Sto} {F : Frs} {d : D} {p : P} {k : Bool} (h : RV S F d p) (e : truP p = some k) : truD d S = some k := by
  unfold truP at e
  split at e
  · rw [h.non]; exact e
  · rw [h.bl]; exact e
  · rw [h.int]; exact e
  · rw [h.str]; exact e
  · obtain ⟨ds, rfl, r⟩ := h.tup
    show some (!ds.isEmpty) = some k
    rw [isEmpty_len r.length]; exact e
  · obtain ⟨n, ds, rfl, e1, r⟩ := h.lst
    simp only [truD, e1]
    rw [isEmpty_len r.length]; exact e
  · obtain ⟨n, ds, rfl, e1, r, _⟩ := h.dic
    simp only [truD, e1]
    rw [isEmpty_len (xs := ds) (ys := _) (by simpa using congrArg List.length r)]; exact e
  · cases e
def pTru (a : PEm) : PTm := fun pe => (a pe).bind fun t pe => match (der t pe).bind truP with
  | some k => .ok k pe
  | none => .fail
def pNotT (a : PTm) : PTm := fun pe => (a pe).bind fun k pe => .ok (!k) pe
def pAndT (a b : PTm) : PTm := fun pe => (a pe).bind fun k pe => if k then b pe else .ok false pe
def pOrT (a b : PTm) : PTm := fun pe => (a pe).bind fun k pe => if k then .ok true pe else b pe
theorem bind_tru {S : Sto} {F : Frs} {base lo : Nat} {env : Env} {pe : PEnv} {d : D} {t : Tm} {k : Bool} (hR : R base S F env pe) (h : TmR S F env pe lo d t) (e : (der t pe).bind truP = some k) : truD d S = some k := by
  cases e1 : der t pe with
  | none => rw [e1] at e; cases e
  | some p => rw [e1] at e; exact tru_ok (der_rv hR h e1) e
section
variable {a b : ME} {pa pb : PEm} {ta tb : MT} {qa qb : PTm}
theorem sim_tru (ha : Sim QD a pa) : Sim QB (mTru truD a) (pTru pa) := fun base S F env pe hR =>
  (ha base S F env pe hR).bind (Nat.le_refl _) fun d t S1 F1 pe1 R1 s1 q1 => by
    cases e : (der t pe1).bind truP with
    | none => trivial
    | some k =>
      rw [bind_tru R1 q1 e]
      exact out_ok R1 rfl
theorem sim_notT (ha : Sim QB ta qa) : Sim QB (mNotT ta) (pNotT qa) := fun base S F env pe hR =>
  (ha base S F env pe hR).bind (Nat.le_refl _) fun d t S1 F1 pe1 R1 s1 q1 => by
    cases q1
    exact out_ok R1 rfl
theorem sim_andT (ha : Sim QB ta qa) (hb : Sim QB tb qb) : Sim QB (mAndT ta tb) (pAndT qa qb) := fun base S F env pe hR =>
  (ha base S F env pe hR).bind (Nat.le_refl _) fun d t S1 F1 pe1 R1 s1 q1 => by
    cases q1
    cases d with
    | true =>
      have h := hb base S1 F1 env pe1 R1
      show Out _ _ _ _ _ _ _ (tb env S1) (qb pe1)
      revert h
      generalize tb env S1 = r
      generalize qb pe1 = q
      intro h
      cases q with
      | ok b pe' => obtain ⟨a, S', F', h1, h2, h3, h4⟩ := h; exact ⟨a, S', F', h1, h2, h3.low s1.len, h4⟩
      | exc x pe' => obtain ⟨a, S', F', h1, h2, h3, h4⟩ := h; exact ⟨a, S', F', h1, h2, h3.low s1.len, h4⟩
      | fail => trivial
    | false => exact out_ok R1 rfl
end
theorem Out.low {α β : Type} {Q : RelP α β} {base lo lo' : Nat} {S : Sto} {F : Frs} {env : Env} {pe : PEnv} {r : Rs α} {q : PR β} (hq : ∀ S F env pe a b, Q S F env pe lo' a b → Q S F env pe lo a b) (h : Out Q base lo' S F env pe r q) (hl : lo ≤ lo') : Out Q base lo S F env pe r q := by
  cases q with
  | ok b pe' => obtain ⟨a, S', F', h1, h2, h3, h4⟩ := h; exact ⟨a, S', F', h1, h2, h3.low hl, hq _ _ _ _ _ _ h4⟩
  | exc x pe' => obtain ⟨a, S', F', h1, h2, h3, h4⟩ := h; exact ⟨a, S', F', h1, h2, h3.low hl, h4⟩
  | fail => trivial
theorem Out.lowB {base lo lo' : Nat} {S : Sto} {F : Frs} {env : Env} {pe : PEnv} {r : Rs Bool} {q : PR Bool} (h : Out QB base lo' S F env pe r q) (hl : lo ≤ lo') : Out QB base lo S F env pe r q := Out.low (lo := lo) (lo' := lo') (fun _ _ _ _ _ _ h => h) h hl
theorem Out.lowD {base lo lo' : Nat} {S : Sto} {F : Frs} {env : Env} {pe : PEnv} {r : Rs D} {q : PR Tm} (h : Out QD base lo' S F env pe r q) (hl : lo ≤ lo') : Out QD base lo S F env pe r q := h.low (fun _ _ _ _ _ _ h => TmR.low h hl) hl
section
variable {a b c : ME} {pa pb pc : PEm} {ta tb : MT} {qa qb : PTm}
theorem sim_orT (ha : Sim QB ta qa) (hb : Sim QB tb qb) : Sim QB (mOrT ta tb) (pOrT qa qb) := fun base S F env pe hR =>
  (ha base S F env pe hR).bind (Nat.le_refl _) fun d t S1 F1 pe1 R1 s1 q1 => by
    cases q1
    cases d with
    | true => exact out_ok R1 rfl
    | false => exact (hb base S1 F1 env pe1 R1).lowB s1.len
def pAndV (a b : PEm) : PEm := fun pe => (a pe).bind fun t pe => match (der t pe).bind truP with
  | some true => b pe
  | some false => .ok t pe
  | none => .fail
def pOrV (a b : PEm) : PEm := fun pe => (a pe).bind fun t pe => match (der t pe).bind truP with
  | some true => .ok t pe
  | some false => b pe
  | none => .fail
def pNotV (a : PEm) : PEm := fun pe => (a pe).bind fun t pe => match (der t pe).bind truP with
  | some k => .ok (.v (.bl (!k))) pe
  | none => .fail
def pIfE (t : PTm) (a b : PEm) : PEm := fun pe => (t pe).bind fun k pe => if k then a pe else b pe
theorem sim_andV (ha : Sim QD a pa) (hb : Sim QD b pb) : Sim QD (mAndV a b) (pAndV pa pb) := fun base S F env pe hR =>
  (ha base S F env pe hR).bind (Nat.le_refl _) fun d t S1 F1 pe1 R1 s1 q1 => by
    cases e : (der t pe1).bind truP with
    | none => trivial
    | some k =>
      rw [bind_tru R1 q1 e]
      cases k with
      | true => exact (hb base S1 F1 env pe1 R1).lowD s1.len
      | false => exact out_ok R1 q1
theorem sim_orV (ha : Sim QD a pa) (hb : Sim QD b pb) : Sim QD (mOrV a b) (pOrV pa pb) := fun base S F env pe hR =>
  (ha base S F env pe hR).bind (Nat.le_refl _) fun d t S1 F1 pe1 R1 s1 q1 => by
    cases e : (der t pe1).bind truP with
    | none => trivial
    | some k =>
      rw [bind_tru R1 q1 e]
      cases k with
      | false => exact (hb base S1 F1 env pe1 R1).lowD s1.len
      | true => exact out_ok R1 q1
theorem sim_notV (ha : Sim QD a pa) : Sim QD (mNotV a) (pNotV pa) := fun base S F env pe hR =>
  (ha base S F env pe hR).bind (Nat.le_refl _) fun d t S1 F1 pe1 R1 s1 q1 => by
    cases e : (der t pe1).bind truP with
    | none => trivial
    | some k =>
      rw [bind_tru R1 q1 e]
      exact out_ok R1 (.bl _)
theorem sim_ifE (ht : Sim QB ta qa) (ha : Sim QD a pa) (hb : Sim QD b pb) : Sim QD (mIfE ta a b) (pIfE qa pa pb) := fun base S F env pe hR =>
  (ht base S F env pe hR).bind (Nat.le_refl _) fun d t S1 F1 pe1 R1 s1 q1 => by
    cases q1
    cases d with
    | true => exact (ha base S1 F1 env pe1 R1).lowD s1.len
    | false => exact (hb base S1 F1 env pe1 R1).lowD s1.len
def blT : Tm → Option Bool
  | .v (.bl k) => some k
  | _ => none
theorem blT_ok {t : Tm} {k : Bool} (h : blT t = some k) : t = .v (.bl k) := by
  unfold blT at h
  split at h
  · cases h; rfl
  · cases h
def pBl (q : PR Tm) : PR Bool := q.bind fun t pe => match blT t with
  | some k => .ok k pe
  | none => .fail
def pTest (a : PEm) : PTm := fun pe => pBl (a pe)
theorem out_bl {base lo : Nat} {S : Sto} {F : Frs} {env : Env} {pe : PEnv} {r : Rs D} {q : PR Tm} (h : Out QD base lo S F env pe r q) : Out QB base lo S F env pe (blR r) (pBl q) := h.bind (Nat.le_refl _) fun d t S1 F1 pe1 R1 s1 q1 => by
  cases e : blT t with
  | none => trivial
  | some k =>
    rw [blT_ok e] at q1
    have z : d = .bl k := RV.bl (.inl q1)
    subst z
    exact out_ok R1 rfl
theorem sim_test (ha : Sim QD a pa) : Sim QB (mTest a) (pTest pa) := fun base S F env pe hR => out_bl (ha base S F env pe hR)
def vT : Tm → Option P
  | .v p => some p
  | _ => none
theorem vT_ok {t : Tm} {p : P} (h : vT t = some p) : t = .v p := by
  unfold vT at h
  split at h
  · cases h; rfl
  · cases h
/-- a < b < c: the middle one is a value -/
def pChain (g g' : Tm → Tm → PEnv → PR Tm) (a b c : PEm) : PEm := fun pe => (a pe).bind fun t pe => (b pe).bind fun u pe => match vT u with
  | some p => (g t (.v p) pe).bind fun z pe => (match blT z with
    | some true => (c pe).bind fun w pe => g' (.v p) w pe
    | some false => .ok (.v (.bl false)) pe
    | none => .fail)
  | none => .fail
theorem sim_chain {gd gd' : D → D → Sto → Rs D} {gp gp' : Tm → Tm → PEnv → PR Tm} (h : OpT gd gp) (h' : OpT gd' gp') (ha : Sim QD a pa) (hb : Sim QD b pb) (hc : Sim QD c pc) : Sim QD (mChain gd gd' a b c) (pChain gp gp' pa pb pc) := fun base S F env pe hR =>
  (ha base S F env pe hR).bind (Nat.le_refl _) fun d t S1 F1 pe1 R1 s1 q1 => (hb base S1 F1 env pe1 R1).bind s1.len fun e u S2 F2 pe2 R2 s2 q2 => by
    cases e0 : vT u with
    | none => trivial
    | some p =>
      rw [vT_ok e0] at q2
      obtain ⟨h1, h2, h3, h4, h5⟩ := two_temps hR s1 q1 s2 q2
      refine (h base S.length S2 F2 env pe2 d e t (.v p) R2 h4 h5 h1 h2 h3).bind (Nat.le_refl _) fun z w S3 F3 pe3 R3 s3 q3 => ?_
      cases e3 : blT w with
      | none => trivial
      | some k =>
        rw [blT_ok e3] at q3
        have z0 : z = .bl k := RV.bl (.inl q3)
        subst z0
        cases k with
        | false => exact out_ok R3 (.bl _)
        | true =>
          refine (hc base S3 F3 env pe3 R3).bind (Nat.le_trans h4 s3.len) fun f x S4 F4 pe4 R4 s4 q4 => ?_
          have v2 : SV S2 F2 e p := h2
          refine h' base S.length S4 F4 env pe4 e f (.v p) x R4 (Nat.le_trans (Nat.le_trans h4 s3.len) s4.len) (s4.lows (s3.lows h5)) ?_ (q4.low (Nat.le_trans h4 s3.len)) (fun p q e => by cases e)
          exact SV.mono s4.frm (SV.mono s3.frm v2)
end
end Bt

set_option Elab.async false
set_option linter.all false
set_option maxRecDepth 100000
set_option maxHeartbeats 2000000
namespace Bt
open PySem PySem.Spec PyProof.Rows L2

/-! ### arguments, calls -/
inductive Ar where
  | sh (p : P) | l (i : Nat)
inductive PF where
  | ok (t : Tm) (fin : List (Option Sl)) | exc (x : PX) (fin : List (Option Sl)) | fail
structure PFn where
  mask : List Bool
  run : List Sl → PF
def ArR (S : Sto) (F : Frs) (env : Env) (pe : PEnv) (d : D) : Ar → Prop
  | .sh p => SV S F d p
  | .l i => env[i]? = some (some d) ∧ ∃ p, slV pe[i]? = some p
inductive ArsR (S : Sto) (F : Frs) (env : Env) (pe : PEnv) : List D → List Ar → Prop
  | nil : ArsR S F env pe [] []
  | cons {d : D} {a : Ar} {ds : List D} {as : List Ar} : ArR S F env pe d a → ArsR S F env pe ds as → ArsR S F env pe (d :: ds) (a :: as)
abbrev QA : RelP (List D) (List Ar) := fun S F env pe _ ds as => ArsR S F env pe ds as
section
variable {S S' : Sto} {F F' : Frs} {env : Env} {pe pe' : PEnv} {lo : Nat}
theorem ArR.mono {d : D} {a : Ar} (s : StE lo S F env pe S' F' pe') (h : ArR S F env pe d a) : ArR S' F' env pe' d a := by
  cases a with
  | sh p => exact SV.mono s.frm h
  | l i => obtain ⟨h1, p, h2⟩ := h; exact ⟨h1, s.vs i p h2⟩
theorem ArsR.mono (s : StE lo S F env pe S' F' pe') : ∀ {ds : List D} {as : List Ar}, ArsR S F env pe ds as → ArsR S' F' env pe' ds as
  | _, _, .nil => .nil
  | _, _, .cons a b => .cons (a.mono s) (ArsR.mono s b)
theorem ArsR.length : ∀ {ds : List D} {as : List Ar}, ArsR S F env pe ds as → ds.length = as.length
  | _, _, .nil => rfl
  | _, _, .cons _ t => by simp [ArsR.length t]
theorem ArsR.get : ∀ {ds : List D} {as : List Ar} {j : Nat} {a : Ar}, ArsR S F env pe ds as → as[j]? = some a → ∃ d, ds[j]? = some d ∧ ArR S F env pe d a
  | _, _, _, _, .nil, e => by simp at e
  | _, _, 0, _, .cons r _, e => by simp at e; subst e; exact ⟨_, rfl, r⟩
  | _, _, j + 1, a, .cons _ t, e => by
    obtain ⟨v, h1, h2⟩ := ArsR.get (j := j) (a := a) t (by simpa using e)
    exact ⟨v, by simpa using h1, h2⟩
end
def pArg : Bool → Tm → PEnv → Option (Ar × PEnv)
  | true, .l i, pe => some (.l i, pe)
  | _, t, pe => (frz t pe).map fun q => (.sh q.1, q.2)
section
variable {base lo : Nat} {S : Sto} {F : Frs} {env : Env} {pe : PEnv}
/-- freezing keeps other temporaries -/
theorem frz_keep {d e : D} {t u : Tm} {p : P} {pe' : PEnv} (hR : R base S F env pe) (hL : Lo lo env pe) (h : TmR S F env pe lo d t) (e0 : frz t pe = some (p, pe')) :
    ∃ F', R base S F' env pe' ∧ StE lo S F env pe S F' pe' ∧ SV S F' d p ∧ (∀ e u, TmR S F env pe lo e u → (∀ p q, t = .o p → u = .o q → d ≠ e) → TmR S F' env pe' lo e u) := by
  cases t with
  | v q =>
    cases e0
    exact ⟨F, hR, StE.refl _ _ _ _ _, h, fun e u hu _ => hu⟩
  | o q =>
    cases e0
    obtain ⟨n, o, rfl, h1, h2, h3, h4⟩ := h
    obtain ⟨r1, r2, r3⟩ := freeze_new hR hL h1 h3 h4
    refine ⟨_, r1, r2, r3, fun e u hu hd => ?_⟩
    cases u with
    | v p => exact SV.mono r2.frm hu
    | o p =>
      obtain ⟨m, o', rfl, u1, u2, u3, u4⟩ := hu
      refine ⟨m, o', rfl, u1, fun hf => ?_, u3, u4.mono r2.frm⟩
      rcases hf with hf | rfl
      · exact u2 hf
      · exact hd _ _ rfl rfl rfl
    | l i => exact hu
  | l i =>
    obtain ⟨h1, h2⟩ := h
    clear h2
    have e' : (match pe[i]? with
      | some (some (.sh p)) => some (p, pe)
      | some (some (.li false _ p)) => some (p, pe.set i (some (.sh p)))
      | _ => none) = some (p, pe') := e0
    split at e'
    · rename_i q hq
      cases e'
      obtain ⟨d', z1, z2⟩ := hR.sh i p hq
      rw [h1] at z1; cases z1
      exact ⟨F, hR, StE.refl _ _ _ _ _, z2, fun e u hu _ => hu⟩
    · rename_i k q hq
      cases e'
      obtain ⟨n, o, e1, e2, e3, e4, e5⟩ := hR.li i false k p hq
      have e6 := e1
      rw [h1] at e1; cases e1
      obtain ⟨r1, r2, r3⟩ := freeze_slot (lo := lo) hR hq e6
      refine ⟨_, r1, r2, r3, fun e u hu _ => ?_⟩
      cases u with
      | v p => exact SV.mono r2.frm hu
      | o p =>
        obtain ⟨m, o', rfl, u1, u2, u3, u4⟩ := hu
        refine ⟨m, o', rfl, u1, fun hf => ?_, u3, u4.mono r2.frm⟩
        rcases hf with hf | rfl
        · exact u2 hf
        · exact Nat.lt_irrefl _ (Nat.lt_of_lt_of_le (hL i false k _ m hq e6) u1)
      | l j => obtain ⟨u1, p', u2⟩ := hu; exact ⟨u1, r2.vs j p' u2⟩
    · cases e'
theorem arg_ok {d : D} {t : Tm} {b : Bool} {a : Ar} {pe' : PEnv} (hR : R base S F env pe) (hL : Lo lo env pe) (h : TmR S F env pe lo d t) (e0 : pArg b t pe = some (a, pe')) :
    ∃ F', R base S F' env pe' ∧ StE lo S F env pe S F' pe' ∧ ArR S F' env pe' d a ∧ (∀ e u, TmR S F env pe lo e u → (∀ p q, t = .o p → u = .o q → d ≠ e) → TmR S F' env pe' lo e u) := by
  have gen : ∀ (e1 : (frz t pe).map (fun q => ((Ar.sh q.1, q.2) : Ar × PEnv)) = some (a, pe')), ∃ F', R base S F' env pe' ∧ StE lo S F env pe S F' pe' ∧ ArR S F' env pe' d a ∧ (∀ e u, TmR S F env pe lo e u → (∀ p q, t = .o p → u = .o q → d ≠ e) → TmR S F' env pe' lo e u) := by
    intro e1
    cases e2 : frz t pe with
    | none => rw [e2] at e1; cases e1
    | some q =>
      rw [e2] at e1
      cases e1
      exact frz_keep (e := d) (u := t) hR hL h (p := q.1) (pe' := q.2) e2
  cases b with
  | false => exact gen (by cases t <;> exact e0)
  | true =>
    cases t with
    | l i => cases e0; exact ⟨F, hR, StE.refl _ _ _ _ _, h, fun e u hu _ => hu⟩
    | v p => exact gen e0
    | o p => exact gen e0
end
abbrev PAm := List Bool → PEnv → PR (List Ar)
def pNil : PAm := fun _ pe => .ok [] pe
def pCons (a : PEm) (r : PAm) : PAm := fun m pe => (a pe).bind fun t pe => match pArg (m.headD false) t pe with
  | some (x, pe) => (r m.tail pe).bind fun xs pe => .ok (x :: xs) pe
  | none => .fail
abbrev SimA (m : MA) (p : PAm) : Prop := ∀ k, Sim QA m (p k)
theorem sim_nil : SimA mNil pNil := fun k base S F env pe hR => out_ok hR .nil
theorem sim_cons {a : ME} {pa : PEm} {r : MA} {pr : PAm} (ha : Sim QD a pa) (hr : SimA r pr) : SimA (mCons a r) (pCons pa pr) := fun k base S F env pe hR =>
  (ha base S F env pe hR).bind (Nat.le_refl _) fun d t S1 F1 pe1 R1 s1 q1 => by
    cases e : pArg (k.headD false) t pe1 with
    | none => trivial
    | some q =>
      obtain ⟨x, pe2⟩ := q
      obtain ⟨F2, R2, s2, a2, _⟩ := arg_ok R1 (s1.lows hR.lo) q1 e
      refine Out.step s2 ((hr k.tail base S1 F2 env pe2 R2).bind s1.len fun ds xs S3 F3 pe3 R3 s3 q3 => ?_)
      exact out_ok R3 (.cons (a2.mono s3) q3)
def shsA : List Ar → Option (List P)
  | [] => some []
  | .sh p :: r => (shsA r).map (p :: ·)
  | .l _ :: _ => none
theorem shs_ok {S : Sto} {F : Frs} {env : Env} {pe : PEnv} : ∀ {ds : List D} {as : List Ar} {ps : List P}, ArsR S F env pe ds as → shsA as = some ps → SVs S F ds ps
  | _, _, _, .nil, e => by cases e; exact .nil
  | _, _, _, .cons (a := .sh p) a b, e => by
    unfold shsA at e
    cases q : shsA _ with
    | none => rw [q] at e; cases e
    | some r =>
      rw [q] at e
      cases e
      exact .cons a (shs_ok b q)
  | _, _, _, .cons (a := .l i) a b, e => by cases e
def pTup (a : PAm) : PEm := fun pe => (a [] pe).bind fun as pe => match shsA as with
  | some ps => if ps.length ≤ sizeLine then .ok (.v (.tup ps)) pe else .fail
  | none => .fail
def pLst (a : PAm) : PEm := fun pe => (a [] pe).bind fun as pe => match shsA as with
  | some ps => if ps.length ≤ sizeLine then .ok (.o (.lst ps)) pe else .fail
  | none => .fail
theorem sim_tup {m : MA} {p : PAm} (h : SimA m p) : Sim QD (mTup m) (pTup p) := fun base S F env pe hR =>
  (h [] base S F env pe hR).bind (Nat.le_refl _) fun ds as S1 F1 pe1 R1 s1 q1 => by
    cases e : shsA as with
    | none => trivial
    | some ps =>
      have r := shs_ok q1 e
      dsimp only
      by_cases hl : ps.length ≤ sizeLine
      · rw [if_pos hl, if_pos (by rw [r.length]; exact hl)]
        exact out_prim R1 s1.len (.v (.tup r))
      · rw [if_neg hl]; trivial
theorem sim_lst {m : MA} {p : PAm} (h : SimA m p) : Sim QD (mLst m) (pLst p) := fun base S F env pe hR =>
  (h [] base S F env pe hR).bind (Nat.le_refl _) fun ds as S1 F1 pe1 R1 s1 q1 => by
    cases e : shsA as with
    | none => trivial
    | some ps =>
      have r := shs_ok q1 e
      dsimp only
      by_cases hl : ps.length ≤ sizeLine
      · rw [if_pos hl, if_pos (by rw [r.length]; exact hl)]
        exact out_prim R1 s1.len (.o (.lst r))
      · rw [if_neg hl]; trivial
def pDic0 : PEm := fun pe => .ok (.o (.dic [])) pe
theorem sim_dic0 : Sim QD mDic0 pDic0 := fun base S F env pe hR => out_prim hR (Nat.le_refl _) (.o (.dic rfl .nil))
/-! a def's meaning without a store -/
structure FinR (S : Sto) (F : Frs) (ds : List D) (sl : List Sl) (S' : Sto) (F' : Frs) (fin : List (Option Sl)) : Prop where
  len : S.length ≤ S'.length
  fr : ∀ n, F n → F' n
  fl : ∀ n, F' n → n < S'.length
  fm : ∀ n, n < S.length → (∀ (j : Nat) (b : Bool) (p : P), sl[j]? = some (.li b false p) → ds[j]? ≠ some (.ref n)) → S'[n]? = S[n]?
  fm2 : ∀ n, F n → S'[n]? = S[n]?
  fz : ∀ n, n < S.length → F' n → F n
  fin : ∀ (j : Nat) (b k : Bool) (p : P) (n : Nat), sl[j]? = some (.li b k p) → ds[j]? = some (.ref n) → ∃ q o, fin[j]? = some (some (.li true k q)) ∧ S'[n]? = some o ∧ CR S' F' o q
def SimF (g : List D → Sto → Rs D) (f : List Sl → PF) : Prop := ∀ S F ds sl, R S.length S F (ds.map some) (sl.map some) → match f sl with
  | .ok t fin => ∃ d S' F', g ds S = .ok d S' ∧ FinR S F ds sl S' F' fin ∧ TmR S' F' [] [] S.length d t
  | .exc x fin => ∃ y S' F', g ds S = .exc y S' ∧ FinR S F ds sl S' F' fin ∧ XR S' F' y x
  | .fail => True
def Ar.isL (i : Nat) : Ar → Bool
  | .l j => decide (j = i)
  | .sh _ => false
/-- no slot twice -/
def disA : List Ar → Bool
  | [] => true
  | .l i :: r => !(r.any (Ar.isL i)) && disA r
  | .sh _ :: r => disA r
def slA : Ar → PEnv → Option Sl
  | .sh p, _ => some (.sh p)
  | .l i, pe => match pe[i]? with
    | some (some (.sh p)) => some (.sh p)
    | some (some (.li _ k p)) => some (.li true k p)
    | _ => none
def slsA : List Ar → PEnv → Option (List Sl)
  | [], _ => some []
  | a :: r, pe => match slA a pe, slsA r pe with
    | some s, some l => some (s :: l)
    | _, _ => none
/-- what a slot holds behind the call -/
def backS (pe : PEnv) (i : Nat) : Option Sl → PEnv
  | some (.li _ _ q) => match pe[i]? with
    | some (some (.li b k _)) => pe.set i (some (.li b k q))
    | _ => pe
  | _ => pe
def backP : List Ar → List (Option Sl) → PEnv → PEnv
  | .l i :: as, f :: fs, pe => backP as fs (backS pe i f)
  | .sh _ :: as, _ :: fs, pe => backP as fs pe
  | _, _, pe => pe
def callP (f : PFn) (as : List Ar) (pe : PEnv) : PR Tm := if disA as then (match slsA as pe with
    | some sl => match f.run sl with
      | .ok t fin => .ok t (backP as fin pe)
      | .exc x fin => .exc x (backP as fin pe)
      | .fail => .fail
    | none => .fail) else .fail
section
theorem backS_len (pe : PEnv) (i : Nat) (f : Option Sl) : (backS pe i f).length = pe.length := by
  unfold backS
  split
  · split <;> simp
  · rfl
theorem back_len : ∀ (as : List Ar) (fin : List (Option Sl)) (pe : PEnv), (backP as fin pe).length = pe.length
  | [], _, _ => by unfold backP; rfl
  | .l i :: as, [], pe => by unfold backP; rfl
  | .sh p :: as, [], pe => by unfold backP; rfl
  | .l i :: as, f :: fs, pe => by
    show (backP as fs (backS pe i f)).length = _
    rw [back_len as fs, backS_len]
  | .sh p :: as, f :: fs, pe => back_len as fs pe
theorem backS_ne {pe : PEnv} {i j : Nat} (h : i ≠ j) (f : Option Sl) : (backS pe i f)[j]? = pe[j]? := by
  unfold backS
  split
  · split
    · rw [List.getElem?_set_ne h]
    · rfl
  · rfl
theorem back_other {i : Nat} : ∀ (as : List Ar) (fin : List (Option Sl)) (pe : PEnv), as.any (Ar.isL i) = false → (backP as fin pe)[i]? = pe[i]?
  | [], _, _, _ => by unfold backP; rfl
  | .l j :: as, [], pe, _ => by unfold backP; rfl
  | .sh p :: as, [], pe, _ => by unfold backP; rfl
  | .l j :: as, f :: fs, pe, h => by
    show (backP as fs (backS pe j f))[i]? = _
    simp only [List.any_cons, Bool.or_eq_false_iff, Ar.isL, decide_eq_false_iff_not] at h
    rw [back_other as fs _ h.2, backS_ne h.1]
  | .sh p :: as, f :: fs, pe, h => by
    simp only [List.any_cons, Bool.or_eq_false_iff] at h
    exact back_other as fs pe h.2
theorem backS_sh {pe : PEnv} {i j : Nat} (h : ∀ b k p, pe[i]? ≠ some (some (.li b k p))) (f : Option Sl) : (backS pe j f)[i]? = pe[i]? := by
  by_cases e : j = i
  · subst e
    unfold backS
    split
    · split
      · rename_i b k p q
        exact absurd q (h b k p)
      · rfl
    · rfl
  · exact backS_ne e f
theorem back_sh {i : Nat} : ∀ (as : List Ar) (fin : List (Option Sl)) (pe : PEnv), (∀ b k p, pe[i]? ≠ some (some (.li b k p))) → (backP as fin pe)[i]? = pe[i]?
  | [], _, _, _ => by unfold backP; rfl
  | .l j :: as, [], pe, _ => by unfold backP; rfl
  | .sh p :: as, [], pe, _ => by unfold backP; rfl
  | .l j :: as, f :: fs, pe, h => by
    show (backP as fs (backS pe j f))[i]? = _
    have e := backS_sh (j := j) h f
    rw [back_sh as fs _ (fun b k p => by rw [e]; exact h b k p), e]
  | .sh p :: as, f :: fs, pe, h => back_sh as fs pe h
theorem any_of {as : List Ar} {j i : Nat} (h : as[j]? = some (.l i)) : as.any (Ar.isL i) = true := by
  rw [List.any_eq_true]
  exact ⟨.l i, List.mem_of_getElem? h, by simp [Ar.isL]⟩
theorem of_any {as : List Ar} {i : Nat} (h : as.any (Ar.isL i) = true) : ∃ j : Nat, as[j]? = some (.l i) := by
  rw [List.any_eq_true] at h
  obtain ⟨a, h1, h2⟩ := h
  cases a with
  | sh p => cases h2
  | l j =>
    simp [Ar.isL] at h2
    subst h2
    exact List.mem_iff_getElem?.mp h1
theorem back_li {i : Nat} {b k : Bool} {p q : P} {b' k' : Bool} : ∀ (as : List Ar) (fin : List (Option Sl)) (pe : PEnv) (j : Nat), disA as = true → as[j]? = some (.l i) → fin[j]? = some (some (.li b' k' q)) → pe[i]? = some (some (.li b k p)) → (backP as fin pe)[i]? = some (some (.li b k q))
  | [], _, _, _, _, h, _, _ => by simp at h
  | .l x :: as, [], pe, _, _, _, h, _ => by simp at h
  | .sh x :: as, [], pe, _, _, _, h, _ => by simp at h
  | .l x :: as, f :: fs, pe, 0, hd, h1, h2, h3 => by
    simp at h1 h2
    subst h1 h2
    show (backP as fs (backS pe x _))[x]? = _
    simp only [disA, Bool.and_eq_true, Bool.not_eq_true'] at hd
    rw [back_other as fs _ hd.1]
    simp only [backS, h3]
    rw [List.getElem?_set_self (get_lt h3)]
  | .sh x :: as, f :: fs, pe, 0, hd, h1, h2, h3 => by simp at h1
  | .l x :: as, f :: fs, pe, j + 1, hd, h1, h2, h3 => by
    simp at h1 h2
    simp only [disA, Bool.and_eq_true, Bool.not_eq_true'] at hd
    show (backP as fs (backS pe x f))[i]? = _
    have ne : x ≠ i := by
      rintro rfl
      have := any_of h1
      rw [hd.1] at this
      cases this
    exact back_li as fs _ j hd.2 h1 h2 (by rw [backS_ne ne]; exact h3)
  | .sh x :: as, f :: fs, pe, j + 1, hd, h1, h2, h3 => by
    simp at h1 h2
    exact back_li as fs pe j hd h1 h2 h3
theorem sls_get {pe : PEnv} : ∀ {as : List Ar} {sl : List Sl} {j : Nat}, slsA as pe = some sl → sl.length = as.length ∧ ∀ s, sl[j]? = some s → ∃ a, as[j]? = some a ∧ slA a pe = some s
  | [], sl, j, h => by cases h; exact ⟨rfl, fun s h => by simp at h⟩
  | a :: as, sl, j, h => by
    unfold slsA at h
    split at h
    · rename_i s l h1 h2
      cases h
      refine ⟨by simp [(sls_get (j := 0) h2).1], fun s' hs => ?_⟩
      cases j with
      | zero => simp at hs; subst hs; exact ⟨a, rfl, h1⟩
      | succ j => simp at hs; simpa using (sls_get (j := j) h2).2 s' hs
    · cases h
theorem sls_of {pe : PEnv} : ∀ {as : List Ar} {sl : List Sl} {j : Nat} {a : Ar}, slsA as pe = some sl → as[j]? = some a → ∃ s, sl[j]? = some s ∧ slA a pe = some s
  | [], sl, j, a, h, e => by simp at e
  | x :: as, sl, j, a, h, e => by
    unfold slsA at h
    split at h
    · rename_i s l h1 h2
      cases h
      cases j with
      | zero => simp at e; subst e; exact ⟨s, rfl, h1⟩
      | succ j => simp at e; simpa using sls_of (j := j) h2 e
    · cases h
theorem dis_inj {i : Nat} : ∀ {as : List Ar} {j j' : Nat}, disA as = true → as[j]? = some (.l i) → as[j']? = some (.l i) → j = j'
  | [], _, _, _, h, _ => by simp at h
  | .sh p :: as, 0, _, _, h, _ => by simp at h
  | .sh p :: as, _ + 1, 0, _, _, h => by simp at h
  | .sh p :: as, j + 1, j' + 1, hd, h1, h2 => by
    simp at h1 h2
    rw [dis_inj (as := as) hd h1 h2]
  | .l x :: as, 0, 0, _, _, _ => rfl
  | .l x :: as, 0, j' + 1, hd, h1, h2 => by
    simp at h1 h2
    subst h1
    simp only [disA, Bool.and_eq_true, Bool.not_eq_true'] at hd
    have := any_of h2
    rw [hd.1] at this; cases this
  | .l x :: as, j + 1, 0, hd, h1, h2 => by
    simp at h1 h2
    subst h2
    simp only [disA, Bool.and_eq_true, Bool.not_eq_true'] at hd
    have := any_of h1
    rw [hd.1] at this; cases this
  | .l x :: as, j + 1, j' + 1, hd, h1, h2 => by
    simp at h1 h2
    simp only [disA, Bool.and_eq_true, Bool.not_eq_true'] at hd
    rw [dis_inj (as := as) hd.2 h1 h2]
theorem map_some {α : Type} {l : List α} {j : Nat} {x : α} (h : (l.map some)[j]? = some (some x)) : l[j]? = some x := by
  rw [List.getElem?_map] at h
  cases e : l[j]? with
  | none => rw [e] at h; cases h
  | some y => rw [e] at h; cases h; rfl
theorem map_some' {α : Type} {l : List α} {j : Nat} {x : α} (h : l[j]? = some x) : (l.map some)[j]? = some (some x) := by
  rw [List.getElem?_map, h]; rfl
end
section
variable {base lo : Nat} {S : Sto} {F : Frs} {env : Env} {pe : PEnv}
/-- a live argument is a slot's object -/
theorem sl_live {ds : List D} {as : List Ar} {sl : List Sl} (ha : ArsR S F env pe ds as) (hs : slsA as pe = some sl) {j : Nat} {b k : Bool} {p : P} (h : sl[j]? = some (.li b k p)) :
    b = true ∧ ∃ i b' d, as[j]? = some (.l i) ∧ pe[i]? = some (some (.li b' k p)) ∧ ds[j]? = some d ∧ env[i]? = some (some d) := by
  obtain ⟨a, h1, h2⟩ := (sls_get (j := j) hs).2 _ h
  obtain ⟨d, h3, h4⟩ := ha.get h1
  cases a with
  | sh q => cases h2
  | l i =>
    simp only [slA] at h2
    split at h2
    · cases h2
    · rename_i b' k' q e
      cases h2
      exact ⟨rfl, i, b', d, h1, e, h3, h4.1⟩
    · cases h2
theorem args_r (hR : R base S F env pe) {ds : List D} {as : List Ar} {sl : List Sl} (ha : ArsR S F env pe ds as) (hd : disA as = true) (hs : slsA as pe = some sl) : R S.length S F (ds.map some) (sl.map some) where
  len := by simp [ha.length, (sls_get (j := 0) hs).1]
  fl := hR.fl
  bl := Nat.le_refl _
  sh := fun j p h => by
    obtain ⟨a, h1, h2⟩ := (sls_get (j := j) hs).2 _ (map_some h)
    obtain ⟨d, h3, h4⟩ := ha.get h1
    refine ⟨d, map_some' h3, ?_⟩
    cases a with
    | sh q => cases h2; exact h4
    | l i =>
      simp only [slA] at h2
      split at h2
      · rename_i q e
        cases h2
        obtain ⟨d', z1, z2⟩ := hR.sh i p e
        rw [h4.1] at z1; cases z1
        exact z2
      · cases h2
      · cases h2
  li := fun j b k p h => by
    obtain ⟨hb, i, b', d, h1, h2, h3, h4⟩ := sl_live ha hs (map_some h)
    obtain ⟨n, o, z1, z2, z3, z4, _⟩ := hR.li i b' k p h2
    rw [h4] at z1; cases z1
    exact ⟨n, o, map_some' h3, z2, z3, z4, fun e => by rw [hb] at e; cases e⟩
  ex := fun j h => by
    obtain ⟨a, h1, h2⟩ := (sls_get (j := j) hs).2 _ (map_some h)
    cases a with
    | sh q => cases h2
    | l i =>
      simp only [slA] at h2
      split at h2 <;> cases h2
  nd := fun j j' b k p b' k' p' n h1 h2 h3 h4 => by
    obtain ⟨_, i, c, d, g1, g2, g3, g4⟩ := sl_live ha hs (map_some h1)
    obtain ⟨_, i', c', d', g1', g2', g3', g4'⟩ := sl_live ha hs (map_some h2)
    rw [map_some h3] at g3; cases g3
    rw [map_some h4] at g3'; cases g3'
    have e := hR.nd i i' _ _ _ _ _ _ n g2 g2' g4 g4'
    subst e
    exact dis_inj hd g1 g1'
/-- behind a call -/
theorem back_ok (hR : R base S F env pe) (hl : lo ≤ S.length) {ds : List D} {as : List Ar} {sl : List Sl} (ha : ArsR S F env pe ds as) (hd : disA as = true) (hs : slsA as pe = some sl) {S' : Sto} {F' : Frs} {fin : List (Option Sl)} (f : FinR S F ds sl S' F' fin) :
    R base S' F' env (backP as fin pe) ∧ StE lo S F env pe S' F' (backP as fin pe) := by
  have frm : FrM S F S' F' := fun n h => ⟨f.fr n h, f.fm2 n h⟩
  -- what stands at a slot
  have at_ : ∀ (i : Nat), (∀ b k p, pe[i]? = some (some (.li b k p)) → ∃ n q o, env[i]? = some (some (.ref n)) ∧ (backP as fin pe)[i]? = some (some (.li b k q)) ∧ ¬ F' n ∧ S'[n]? = some o ∧ CR S' F' o q ∧ (b = false → base ≤ n)) ∧ ((∀ b k p, pe[i]? ≠ some (some (.li b k p))) → (backP as fin pe)[i]? = pe[i]?) := by
    intro i
    refine ⟨fun b k p h => ?_, fun h => back_sh as fin pe h⟩
    obtain ⟨n, o, e1, e2, e3, e4, e5⟩ := hR.li i b k p h
    have nf : ¬ F' n := fun hf => e2 (f.fz n (get_lt e3) hf)
    cases hq : as.any (Ar.isL i) with
    | true =>
      obtain ⟨j, hj⟩ := of_any hq
      obtain ⟨s, hs1, hs2⟩ := sls_of hs hj
      simp only [slA, h] at hs2
      cases hs2
      obtain ⟨d, g1, g2⟩ := ha.get hj
      have g3 := g2.1
      rw [e1] at g3; cases g3
      obtain ⟨q, o', z1, z2, z3⟩ := f.fin j true k p n hs1 g1
      exact ⟨n, q, o', e1, back_li as fin pe j hd hj z1 h, nf, z2, z3, e5⟩
    | false =>
      refine ⟨n, p, o, e1, by rw [back_other as fin pe hq]; exact h, nf, ?_, e4.mono frm, e5⟩
      rw [f.fm n (get_lt e3) fun j b' p' g1 g2 => ?_]
      · exact e3
      · obtain ⟨_, i', c', d, g3, g4, g5, g6⟩ := sl_live ha hs g1
        rw [g2] at g5; cases g5
        have e := hR.nd i i' _ _ _ _ _ _ n h g4 e1 g6
        subst e
        rw [any_of g3] at hq; cases hq
  have inv : ∀ (i : Nat) (b k : Bool) (p : P), (backP as fin pe)[i]? = some (some (.li b k p)) → ∃ q, pe[i]? = some (some (.li b k q)) := by
    intro i b k p h
    by_cases z : ∃ b k p, pe[i]? = some (some (.li b k p))
    · obtain ⟨b', k', p', z⟩ := z
      obtain ⟨n, q, o, _, g, _⟩ := (at_ i).1 b' k' p' z
      rw [h] at g; cases g
      exact ⟨p', z⟩
    · have z' : ∀ b k p, pe[i]? ≠ some (some (.li b k p)) := fun b k p e => z ⟨b, k, p, e⟩
      rw [(at_ i).2 z'] at h
      exact absurd h (z' b k p)
  have nol : ∀ (i : Nat) (x : Option Sl), (backP as fin pe)[i]? = some x → (∀ b k p, x ≠ some (.li b k p)) → pe[i]? = some x := by
    intro i x h hx
    by_cases z : ∃ b k p, pe[i]? = some (some (.li b k p))
    · obtain ⟨b', k', p', z⟩ := z
      obtain ⟨n, q, o, _, g, _⟩ := (at_ i).1 b' k' p' z
      rw [h] at g; cases g
      exact absurd rfl (hx b' k' q)
    · have z' : ∀ b k p, pe[i]? ≠ some (some (.li b k p)) := fun b k p e => z ⟨b, k, p, e⟩
      rw [(at_ i).2 z'] at h
      exact h
  refine ⟨⟨by rw [back_len]; exact hR.len, f.fl, Nat.le_trans hR.bl f.len, fun i p h => ?_, fun i b k p h => ?_, fun i h => ?_, fun i j b k p b' k' p' n h1 h2 h3 h4 => ?_⟩, ⟨f.len, f.fr, fun n h1 h2 => ?_, f.fm2, fun n h1 h2 => .inl (f.fz n (Nat.lt_of_lt_of_le h1 hl) h2), back_len _ _ _, inv, fun i k p h => ?_, fun i p h => ?_⟩⟩
  · obtain ⟨d, z1, z2⟩ := hR.sh i p (nol i _ h (fun _ _ _ e => by cases e))
    exact ⟨d, z1, z2.mono frm⟩
  · obtain ⟨q, g⟩ := inv i b k p h
    obtain ⟨n, q', o, e1, e2, e3, e4, e5, e6⟩ := (at_ i).1 b k q g
    rw [h] at e2; cases e2
    exact ⟨n, o, e1, e3, e4, e5, e6⟩
  · exact hR.ex i (nol i _ h (fun _ _ _ e => by cases e))
  · obtain ⟨q, g⟩ := inv i b k p h1
    obtain ⟨q', g'⟩ := inv j b' k' p' h2
    exact hR.nd i j _ _ _ _ _ _ n g g' h3 h4
  · refine f.fm n (Nat.lt_of_lt_of_le h1 hl) fun j b p g1 g2 => ?_
    obtain ⟨_, i', c', d, g3, g4, g5, g6⟩ := sl_live ha hs g1
    rw [g2] at g5; cases g5
    exact h2 i' c' p g4 g6
  · obtain ⟨n, q, o, _, g, _⟩ := (at_ i).1 true k p h
    exact ⟨q, g⟩
  · rcases slV_cases h with e | ⟨b, k, e⟩
    · refine ⟨p, ?_⟩
      rw [(at_ i).2 (fun b k q z => by rw [e] at z; cases z), e]
      rfl
    · obtain ⟨n, q, o, _, g, _⟩ := (at_ i).1 b k p e
      exact ⟨q, by rw [g]; rfl⟩
theorem tm_out {S' : Sto} {F' : Frs} {d : D} {t : Tm} {hi : Nat} (h : TmR S' F' [] [] hi d t) (hl : lo ≤ hi) : TmR S' F' env pe lo d t := by
  cases t with
  | v p => exact h
  | o p => exact TmR.low h hl
  | l i => obtain ⟨h1, _⟩ := h; simp at h1
theorem call_ok {g : List D → Sto → Rs D} {f : PFn} (hf : SimF g f.run) (hR : R base S F env pe) (hl : lo ≤ S.length) {ds : List D} {as : List Ar} (ha : ArsR S F env pe ds as) : Out QD base lo S F env pe (g ds S) (callP f as pe) := by
  unfold callP
  by_cases hd : disA as = true
  · rw [if_pos hd]
    cases hs : slsA as pe with
    | none => trivial
    | some sl =>
      dsimp only
      have h := hf S F ds sl (args_r hR ha hd hs)
      cases hr : f.run sl with
      | ok t fin =>
        rw [hr] at h
        obtain ⟨d, S', F', h1, h2, h3⟩ := h
        obtain ⟨r, s⟩ := back_ok hR hl ha hd hs h2
        exact ⟨d, S', F', h1, r, s, tm_out h3 hl⟩
      | exc x fin =>
        rw [hr] at h
        obtain ⟨d, S', F', h1, h2, h3⟩ := h
        obtain ⟨r, s⟩ := back_ok hR hl ha hd hs h2
        exact ⟨d, S', F', h1, r, s, h3⟩
      | fail => trivial
  · rw [if_neg hd]; trivial
end
end Bt

set_option Elab.async false
set_option linter.all false
set_option maxRecDepth 100000
set_option maxHeartbeats 2000000
namespace Bt.Pv
open PySem PySem.Spec PyProof.Rows L2 Bt

/-! ### the names of the top -/
structure PGe where
  con : Str → Option P
  fre : Str → Bool
  cls : Str → Bool
  isi : Ty → Ty → Option Bool
  noa : Str → Str → Bool
  cal : Str → Option PFn
  met : Str → Str → Option PFn
structure GSim (Γ : GEnv) (Ψ : PGe) : Prop where
  con : ∀ x p, Ψ.con x = some p → ∃ d, Γ.con x = some d ∧ ∀ S F, SV S F d p
  con0 : ∀ x, Ψ.con x = none → Γ.con x = none
  fre : Γ.fre = Ψ.fre
  cls : Γ.cls = Ψ.cls
  isi : Γ.isi = Ψ.isi
  noa : Γ.noa = Ψ.noa
  cal : ∀ x f, Ψ.cal x = some f → ∃ g, Γ.cal x = some g ∧ SimF g f.run
  cal0 : ∀ x, Ψ.cal x = none → Γ.cal x = none
  met : ∀ c m f, Ψ.met c m = some f → ∃ g, Γ.met c m = some g ∧ SimF g f.run
variable {Γ : GEnv} {Ψ : PGe}
/-! ### data -/
def pyPs (f : P → Option PyData) : List P → Option (List PyData)
  | [] => some []
  | d :: r => match f d, pyPs f r with
    | some x, some xs => some (x :: xs)
    | _, _ => none
def pyP : Nat → P → Option PyData
  | 0, _ => none
  | n + 1, p => match p with
    | .non => some .none
    | .bl b => some (.bool b)
    | .int i => some (.int i)
    | .str x => some (.str x)
    | .tup xs => (pyPs (pyP n) xs).map .tuple
    | .lst xs => (pyPs (pyP n) xs).map .list
    | _ => none
theorem pyPs_ok {S : Sto} {F : Frs} {f : D → Option PyData} {g : P → Option PyData} (h : ∀ d p, SV S F d p → f d = g p) : ∀ {ds : List D} {ps : List P}, SVs S F ds ps → pyL f ds = pyPs g ps
  | _, _, .nil => rfl
  | _, _, .cons a b => by
    unfold pyL pyPs
    rw [h _ _ a, pyPs_ok h b] <;> rfl
theorem py_ok {S : Sto} {F : Frs} : ∀ (n : Nat) (d : D) (p : P), RV S F d p → pyS S n d = pyP n p
  | 0, _, _, _ => rfl
  | n + 1, d, p, h => by
    have ih : ∀ d p, SV S F d p → pyS S n d = pyP n p := fun d p h => py_ok n d p (.inl h)
    cases p with
    | non => rw [h.non]; rfl
    | bl b => rw [h.bl]; rfl
    | int b => rw [h.int]; rfl
    | str b => rw [h.str]; rfl
    | glo b => rw [h.glo]; rfl
    | ty b => rw [h.ty]; rfl
    | tup ps =>
      obtain ⟨ds, rfl, r⟩ := h.tup
      show (pyL (pyS S n) ds).map _ = (pyPs (pyP n) ps).map _
      rw [pyPs_ok ih r]
    | fz ps => obtain ⟨ds, rfl, r⟩ := h.fz; rfl
    | lst ps =>
      obtain ⟨a, ds, rfl, e, r⟩ := h.lst
      simp only [pyS, pyP, e]
      rw [pyPs_ok ih r]
    | dic ps =>
      obtain ⟨a, ds, rfl, e, _⟩ := h.dic
      simp only [pyS, pyP, e]
    | ins c ps =>
      obtain ⟨a, ds, rfl, e, _⟩ := h.ins
      simp only [pyS, pyP, e]
def eqV (p q : P) : Option Bool := match pyP 60 p, pyP 60 q with
  | some x, some y => if SeqAt.shaped x && SeqAt.shaped y then some (PyData.eqv x y) else none
  | _, _ => none
theorem eqV_ok {S : Sto} {F : Frs} {d e : D} {p q : P} (h1 : RV S F d p) (h2 : RV S F e q) : eqD d e S = eqV p q := by
  unfold eqD eqV
  rw [py_ok 60 d p h1, py_ok 60 e q h2] <;> rfl
/-! types -/
def tyP (Ψ : PGe) : P → Option Ty
  | .non => some (.b "NoneType")
  | .bl _ => some (.b "bool")
  | .int _ => some (.b "int")
  | .str _ => some (.b "str")
  | .tup _ => some (.b "tuple")
  | .lst _ => some (.b "list")
  | .dic _ => some (.b "dict")
  | .ins c _ => if Ψ.cls c then some (.o c) else none
  | _ => none
theorem ty_ok (G : GSim Γ Ψ) {S : Sto} {F : Frs} {d : D} {p : P} (h : RV S F d p) : tyD Γ d S = tyP Ψ p := by
  cases p with
  | non => rw [h.non]; rfl
  | bl b => rw [h.bl]; rfl
  | int b => rw [h.int]; rfl
  | str b => rw [h.str]; rfl
  | glo b => rw [h.glo]; rfl
  | ty b => rw [h.ty]; rfl
  | tup ps => obtain ⟨ds, rfl, r⟩ := h.tup; rfl
  | fz ps => obtain ⟨ds, rfl, r⟩ := h.fz; rfl
  | lst ps => obtain ⟨a, ds, rfl, e, r⟩ := h.lst; simp only [tyD, tyP, e]
  | dic ps => obtain ⟨a, ds, rfl, e, _⟩ := h.dic; simp only [tyD, tyP, e]
  | ins c ps => obtain ⟨a, ds, rfl, e, _⟩ := h.ins; simp only [tyD, tyP, e, G.cls]
def tyCP : P → Option Ty
  | .ty n => some (.b n)
  | .glo c => some (.o c)
  | _ => none
theorem tyC_ok {S : Sto} {F : Frs} {d : D} {p : P} (h : RV S F d p) : tyC d = tyCP p := by
  cases p with
  | non => rw [h.non]; rfl
  | bl b => rw [h.bl]; rfl
  | int b => rw [h.int]; rfl
  | str b => rw [h.str]; rfl
  | glo b => rw [h.glo]; rfl
  | ty b => rw [h.ty]; rfl
  | tup ps => obtain ⟨ds, rfl, r⟩ := h.tup; rfl
  | fz ps => obtain ⟨ds, rfl, r⟩ := h.fz; rfl
  | lst ps => obtain ⟨a, ds, rfl, e, r⟩ := h.lst; rfl
  | dic ps => obtain ⟨a, ds, rfl, e, _⟩ := h.dic; rfl
  | ins c ps => obtain ⟨a, ds, rfl, e, _⟩ := h.ins; rfl
def isAnyP (Ψ : PGe) (t : Ty) : List P → Option Bool
  | [] => some false
  | c :: r => match tyCP c with
    | some u => match Ψ.isi t u, isAnyP Ψ t r with
      | some x, some y => some (x || y)
      | _, _ => none
    | none => none
theorem isAny_ok (G : GSim Γ Ψ) {S : Sto} {F : Frs} {t : Ty} : ∀ {ds : List D} {ps : List P}, SVs S F ds ps → isAny Γ t ds = isAnyP Ψ t ps
  | _, _, .nil => rfl
  | _, _, .cons a b => by
    unfold isAny isAnyP
    rw [tyC_ok (.inl a), isAny_ok G b, G.isi] <;> rfl
def isiP (Ψ : PGe) : P → P → Option Bool
  | x, .tup cs => (tyP Ψ x).bind fun t => isAnyP Ψ t cs
  | x, c => match tyP Ψ x, tyCP c with
    | some t, some u => Ψ.isi t u
    | _, _ => none
/-! comparisons with own methods -/
def eqT (Ψ : PGe) (t u : Tm) (pe : PEnv) : PR Tm := match der t pe, der u pe with
  | some p, some q => (match p with
    | .ins c fs => (match Ψ.met c "__eq__", tyP Ψ (.ins c fs), tyP Ψ q with
      | some f, some a, some b => (match Ψ.isi b a with
        | some _ => (match pArg (f.mask.headD false) t pe with
          | some (x, pe) => (match pArg (f.mask.tail.headD false) u pe with
            | some (y, pe) => callP f [x, y] pe
            | none => .fail)
          | none => .fail)
        | none => .fail)
      | _, _, _ => .fail)
    | p => (match eqV p q with
      | some k => .ok (.v (.bl k)) pe
      | none => .fail))
  | _, _ => .fail
def neT (t u : Tm) (pe : PEnv) : PR Tm := match der t pe, der u pe with
  | some p, some q => (match eqV p q with
    | some k => .ok (.v (.bl (!k))) pe
    | none => .fail)
  | _, _ => .fail
theorem two_args {base lo : Nat} {S : Sto} {F : Frs} {env : Env} {pe : PEnv} {d e : D} {t u : Tm} (hR : R base S F env pe) (hl : lo ≤ S.length) (hL : Lo lo env pe) (ht : TmR S F env pe lo d t) (hu : TmR S F env pe lo e u) (hd : ∀ p q, t = .o p → u = .o q → d ≠ e) {g : List D → Sto → Rs D} {f : PFn} (hf : SimF g f.run) :
    Out QD base lo S F env pe (g [d, e] S) (match pArg (f.mask.headD false) t pe with
          | some (x, pe) => (match pArg (f.mask.tail.headD false) u pe with
            | some (y, pe) => callP f [x, y] pe
            | none => .fail)
          | none => .fail) := by
  cases e1 : pArg (f.mask.headD false) t pe with
  | none => trivial
  | some q =>
    obtain ⟨x, pe1⟩ := q
    obtain ⟨F1, R1, s1, a1, k1⟩ := arg_ok hR hL ht e1
    dsimp only
    cases e2 : pArg (f.mask.tail.headD false) u pe1 with
    | none => trivial
    | some q =>
      obtain ⟨y, pe2⟩ := q
      obtain ⟨F2, R2, s2, a2, _⟩ := arg_ok R1 (s1.lows hL) (k1 e u hu hd) e2
      exact Out.step s1 (Out.step s2 (call_ok hf R2 hl (.cons (a1.mono s2) (.cons a2 .nil))))
theorem ownC_none {S : Sto} {F : Frs} {d e : D} {p : P} {m : Str} (h : RV S F d p) (hp : ∀ c fs, p ≠ .ins c fs) : ownC Γ m d e S = none := by
  cases p with
  | non => rw [h.non]; rfl
  | bl b => rw [h.bl]; rfl
  | int b => rw [h.int]; rfl
  | str b => rw [h.str]; rfl
  | glo b => rw [h.glo]; rfl
  | ty b => rw [h.ty]; rfl
  | tup ps => obtain ⟨ds, rfl, r⟩ := h.tup; rfl
  | fz ps => obtain ⟨ds, rfl, r⟩ := h.fz; rfl
  | lst ps => obtain ⟨a, ds, rfl, e, r⟩ := h.lst; simp only [ownC, e]
  | dic ps => obtain ⟨a, ds, rfl, e, _⟩ := h.dic; simp only [ownC, e]
  | ins c ps => exact absurd rfl (hp c ps)
theorem eqT_ok (G : GSim Γ Ψ) : OpT (eqG Γ) (eqT Ψ) := by
  intro base lo S F env pe d e t u hR hl hL ht hu hd
  unfold eqT
  cases e1 : der t pe with
  | none => trivial
  | some p =>
    cases e2 : der u pe with
    | none => trivial
    | some q =>
      have v1 := der_rv hR ht e1
      have v2 := der_rv hR hu e2
      dsimp only
      have gen : (∀ c fs, p ≠ .ins c fs) → Out QD base lo S F env pe (eqG Γ d e S) (match eqV p q with
          | some k => .ok (.v (.bl k)) pe
          | none => .fail) := by
        intro hp
        unfold eqG
        rw [ownC_none v1 hp]
        dsimp only
        rw [eqV_ok v1 v2]
        cases eqV p q with
        | none => trivial
        | some k => exact out_ok hR (.bl k)
      cases p with
      | ins c fs =>
        dsimp only
        cases e3 : Ψ.met c "__eq__" with
        | none => trivial
        | some f =>
          cases e4 : tyP Ψ (.ins c fs) with
          | none => trivial
          | some a =>
            cases e5 : tyP Ψ q with
            | none => trivial
            | some b =>
              dsimp only
              cases e6 : Ψ.isi b a with
              | none => trivial
              | some z =>
                dsimp only
                obtain ⟨g, h1, h2⟩ := G.met c _ f e3
                obtain ⟨n, ds, rfl, e7, _⟩ := v1.ins
                have q0 : eqG Γ (.ref n) e S = g [.ref n, e] S := by
                  have t1 : tyD Γ (.ref n) S = some a := by rw [ty_ok G v1]; exact e4
                  have t2 : tyD Γ e S = some b := by rw [ty_ok G v2]; exact e5
                  unfold eqG
                  simp only [ownC, e7, h1, t1, t2, G.isi, e6]
                rw [q0]
                exact two_args hR hl hL ht hu hd h2
      | non => exact gen (fun _ _ h => by cases h)
      | bl b => exact gen (fun _ _ h => by cases h)
      | int b => exact gen (fun _ _ h => by cases h)
      | str b => exact gen (fun _ _ h => by cases h)
      | glo b => exact gen (fun _ _ h => by cases h)
      | ty b => exact gen (fun _ _ h => by cases h)
      | tup ps => exact gen (fun _ _ h => by cases h)
      | fz ps => exact gen (fun _ _ h => by cases h)
      | lst ps => exact gen (fun _ _ h => by cases h)
      | dic ps => exact gen (fun _ _ h => by cases h)
theorem eqV_ins {c : Str} {fs : List (Str × P)} {q : P} : eqV (.ins c fs) q = none := rfl
theorem neT_ok : OpT (neG Γ) neT := by
  intro base lo S F env pe d e t u hR hl hL ht hu hd
  unfold neT
  cases e1 : der t pe with
  | none => trivial
  | some p =>
    cases e2 : der u pe with
    | none => trivial
    | some q =>
      dsimp only
      have v1 := der_rv hR ht e1
      have v2 := der_rv hR hu e2
      cases e3 : eqV p q with
      | none => trivial
      | some k =>
        have hp : ∀ c fs, p ≠ .ins c fs := fun c fs h => by subst h; rw [eqV_ins] at e3; cases e3
        unfold neG
        rw [ownC_none v1 hp]
        dsimp only
        rw [eqV_ok v1 v2, e3]
        exact out_ok hR (.bl _)
/-! in -/
def seqP : P → Option (List P)
  | .tup xs => some xs
  | .lst xs => some xs
  | _ => none
theorem seq_ok {S : Sto} {F : Frs} {d : D} {p : P} (h : RV S F d p) : (seqP p = none ∧ seqD d S = none) ∨ ∃ ds ps, seqP p = some ps ∧ seqD d S = some ds ∧ SVs S F ds ps := by
  cases p with
  | non => rw [h.non]; exact .inl ⟨rfl, rfl⟩
  | bl b => rw [h.bl]; exact .inl ⟨rfl, rfl⟩
  | int b => rw [h.int]; exact .inl ⟨rfl, rfl⟩
  | str b => rw [h.str]; exact .inl ⟨rfl, rfl⟩
  | glo b => rw [h.glo]; exact .inl ⟨rfl, rfl⟩
  | ty b => rw [h.ty]; exact .inl ⟨rfl, rfl⟩
  | tup ps => obtain ⟨ds, rfl, r⟩ := h.tup; exact .inr ⟨ds, ps, rfl, rfl, r⟩
  | fz ps => obtain ⟨ds, rfl, r⟩ := h.fz; exact .inl ⟨rfl, rfl⟩
  | lst ps => obtain ⟨a, ds, rfl, e, r⟩ := h.lst; exact .inr ⟨ds, ps, rfl, by simp only [seqD, e], r⟩
  | dic ps => obtain ⟨a, ds, rfl, e, _⟩ := h.dic; exact .inl ⟨rfl, by simp only [seqD, e]⟩
  | ins c ps => obtain ⟨a, ds, rfl, e, _⟩ := h.ins; exact .inl ⟨rfl, by simp only [seqD, e]⟩
def inV (p q : P) : Option Bool := match q with
  | .str z => match p with
    | .str y => some (!(Builtin.Str.occurrences z y 0 z.length 1).isEmpty)
    | _ => none
  | _ => match seqP q with
    | some xs => match pyP 60 p, pyPs (pyP 60) xs with
      | some a, some ps => if SeqAt.shaped a && SeqAt.shaped (.list ps) then some (ps.any fun z => PyData.eqv z a) else none
      | _, _ => none
    | none => none
theorem inV_ok {S : Sto} {F : Frs} {d e : D} {p q : P} {k : Bool} (h1 : RV S F d p) (h2 : RV S F e q) (h : inV p q = some k) : inD d e S = some k := by
  have gen : (∀ z, e ≠ .str z) → (match seqP q with
    | some xs => match pyP 60 p, pyPs (pyP 60) xs with
      | some a, some ps => if SeqAt.shaped a && SeqAt.shaped (.list ps) then some (ps.any fun z => PyData.eqv z a) else none
      | _, _ => none
    | none => none) = some k → inD d e S = some k := by
    intro he hk
    have ee : inD d e S = (match seqD e S with
      | some xs => match pyS S 60 d, pyL (pyS S 60) xs with
        | some p, some ps => if SeqAt.shaped p && SeqAt.shaped (.list ps) then some (ps.any fun z => PyData.eqv z p) else none
        | _, _ => none
      | none => none) := by
      unfold inD
      split
      · exact absurd rfl (he _)
      · rfl
    rw [ee]
    rcases seq_ok h2 with ⟨e1, e2⟩ | ⟨ds, ps, e1, e2, r⟩
    · rw [e1] at hk; cases hk
    · rw [e1] at hk
      rw [e2]
      dsimp only at hk ⊢
      rw [py_ok 60 d p h1, pyPs_ok (fun d p h => py_ok 60 d p (.inl h)) r]
      exact hk
  cases q with
  | str z =>
    have := h2.str
    subst this
    cases p with
    | str y => have := h1.str; subst this; exact h
    | _ => cases h
  | non => cases h
  | bl b => cases h
  | int b => cases h
  | glo b => cases h
  | ty b => cases h
  | tup ps => obtain ⟨ds, rfl, r⟩ := h2.tup; exact gen (fun z q => by cases q) h
  | fz ps => cases h
  | lst ps => obtain ⟨a, ds, rfl, e, r⟩ := h2.lst; exact gen (fun z q => by cases q) h
  | dic ps => cases h
  | ins c ps => cases h
theorem ownIn_none {S : Sto} {F : Frs} {d e : D} {p : P} (h : RV S F e p) (hp : ∀ c fs, p ≠ .ins c fs) : ownIn Γ d e S = none := by
  cases p with
  | non => rw [h.non]; rfl
  | bl b => rw [h.bl]; rfl
  | int b => rw [h.int]; rfl
  | str b => rw [h.str]; rfl
  | glo b => rw [h.glo]; rfl
  | ty b => rw [h.ty]; rfl
  | tup ps => obtain ⟨ds, rfl, r⟩ := h.tup; rfl
  | fz ps => obtain ⟨ds, rfl, r⟩ := h.fz; rfl
  | lst ps => obtain ⟨a, ds, rfl, e, r⟩ := h.lst; simp only [ownIn, e]
  | dic ps => obtain ⟨a, ds, rfl, e, _⟩ := h.dic; simp only [ownIn, e]
  | ins c ps => exact absurd rfl (hp c ps)
def negR (neg : Bool) (r : PR Tm) : PR Tm := r.bind fun t pe => match blT t with
  | some k => .ok (.v (.bl (if neg then !k else k))) pe
  | none => .fail
def inT (Ψ : PGe) (neg : Bool) (t u : Tm) (pe : PEnv) : PR Tm := match der t pe, der u pe with
  | some p, some q => (match q with
    | .ins c _ => (match Ψ.met c "__contains__" with
      | some f => negR neg (match pArg (f.mask.headD false) u pe with
          | some (x, pe) => (match pArg (f.mask.tail.headD false) t pe with
            | some (y, pe) => callP f [x, y] pe
            | none => .fail)
          | none => .fail)
      | none => .fail)
    | q => (match inV p q with
      | some k => .ok (.v (.bl (if neg then !k else k))) pe
      | none => .fail))
  | _, _ => .fail
theorem inT_ok (G : GSim Γ Ψ) (neg : Bool) : OpT (inG Γ neg) (inT Ψ neg) := by
  intro base lo S F env pe d e t u hR hl hL ht hu hd
  unfold inT
  cases e1 : der t pe with
  | none => trivial
  | some p =>
    cases e2 : der u pe with
    | none => trivial
    | some q =>
      have v1 := der_rv hR ht e1
      have v2 := der_rv hR hu e2
      dsimp only
      have gen : (∀ c fs, q ≠ .ins c fs) → Out QD base lo S F env pe (inG Γ neg d e S) (match inV p q with
          | some k => .ok (.v (.bl (if neg then !k else k))) pe
          | none => .fail) := by
        intro hp
        unfold inG
        rw [ownIn_none v2 hp]
        dsimp only
        cases e3 : inV p q with
        | none => trivial
        | some k => rw [inV_ok v1 v2 e3]; exact out_ok hR (.bl _)
      cases q with
      | ins c fs =>
        dsimp only
        cases e3 : Ψ.met c "__contains__" with
        | none => trivial
        | some f =>
          dsimp only
          obtain ⟨g, h1, h2⟩ := G.met c _ f e3
          obtain ⟨n, ds, rfl, e7, _⟩ := v2.ins
          have q0 : inG Γ neg d (.ref n) S = truR neg (g [.ref n, d] S) := by
            unfold inG
            simp only [ownIn, e7, h1]
          rw [q0]
          refine (two_args hR hl hL hu ht (fun p q e1 e2 e3 => hd q p e2 e1 e3.symm) h2).bind (Nat.le_refl _) fun z w S1 F1 pe1 R1 s1 q1 => ?_
          cases e4 : blT w with
          | none => trivial
          | some k =>
            rw [blT_ok e4] at q1
            have z0 : z = .bl k := RV.bl (.inl q1)
            subst z0
            exact out_ok R1 (.bl _)
      | non => exact gen (fun _ _ h => by cases h)
      | bl b => exact gen (fun _ _ h => by cases h)
      | int b => exact gen (fun _ _ h => by cases h)
      | str b => exact gen (fun _ _ h => by cases h)
      | glo b => exact gen (fun _ _ h => by cases h)
      | ty b => exact gen (fun _ _ h => by cases h)
      | tup ps => exact gen (fun _ _ h => by cases h)
      | fz ps => exact gen (fun _ _ h => by cases h)
      | lst ps => exact gen (fun _ _ h => by cases h)
      | dic ps => exact gen (fun _ _ h => by cases h)
/-! is, order -/
def isV (neg : Bool) (p q : P) : Option Tm := match q with
  | .non => match p with
    | .non => some (.v (.bl (!neg)))
    | _ => some (.v (.bl neg))
  | .bl b => match p with
    | .bl a => some (.v (.bl (if neg then !decide (a = b) else decide (a = b))))
    | _ => none
  | _ => none
theorem is_ok (neg : Bool) : OpT (isD neg) (lift2 (isV neg)) := lift2_ok fun S F d e p q t h1 h2 h => by
  cases q with
  | non =>
    have := h2.non; subst this
    cases p with
    | non => have := h1.non; subst this; cases h; exact .v (.bl _)
    | bl b => have := h1.bl; subst this; cases h; exact .v (.bl _)
    | int b => have := h1.int; subst this; cases h; exact .v (.bl _)
    | str b => have := h1.str; subst this; cases h; exact .v (.bl _)
    | glo b => have := h1.glo; subst this; cases h; exact .v (.bl _)
    | ty b => have := h1.ty; subst this; cases h; exact .v (.bl _)
    | tup ps => obtain ⟨ds, rfl, r⟩ := h1.tup; cases h; exact .v (.bl _)
    | fz ps => obtain ⟨ds, rfl, r⟩ := h1.fz; cases h; exact .v (.bl _)
    | lst ps => obtain ⟨a, ds, rfl, e, r⟩ := h1.lst; cases h; exact .v (.bl _)
    | dic ps => obtain ⟨a, ds, rfl, e, _⟩ := h1.dic; cases h; exact .v (.bl _)
    | ins c ps => obtain ⟨a, ds, rfl, e, _⟩ := h1.ins; cases h; exact .v (.bl _)
  | bl b =>
    have := h2.bl; subst this
    cases p with
    | bl a => have := h1.bl; subst this; cases h; exact .v (.bl _)
    | _ => cases h
  | _ => cases h
def cmpV (f : Int → Int → Bool) : P → P → Option Tm
  | .int i, .int j => some (.v (.bl (f i j)))
  | _, _ => none
theorem cmp_ok (f : Int → Int → Bool) : OpT (cmpI f) (lift2 (cmpV f)) := lift2_ok fun S F d e p q t h1 h2 h => by
  unfold cmpV at h
  split at h
  · cases h; rw [h1.int, h2.int]; exact .v (.bl _)
  · cases h
def cmpT (Ψ : PGe) : CmpOp → Tm → Tm → PEnv → PR Tm
  | .Eq => eqT Ψ
  | .NotEq => neT
  | .Lt => lift2 (cmpV fun i j => decide (i < j))
  | .LtE => lift2 (cmpV fun i j => decide (i ≤ j))
  | .Gt => lift2 (cmpV fun i j => decide (j < i))
  | .GtE => lift2 (cmpV fun i j => decide (j ≤ i))
  | .Is => lift2 (isV false)
  | .IsNot => lift2 (isV true)
  | .In => inT Ψ false
  | .NotIn => inT Ψ true
theorem cmpT_ok (G : GSim Γ Ψ) (op : CmpOp) : OpT (cmpG Γ op) (cmpT Ψ op) := by
  cases op with
  | Eq => exact eqT_ok G
  | NotEq => exact neT_ok
  | Lt => exact cmp_ok _
  | LtE => exact cmp_ok _
  | Gt => exact cmp_ok _
  | GtE => exact cmp_ok _
  | Is => exact is_ok _
  | IsNot => exact is_ok _
  | In => exact inT_ok G _
  | NotIn => exact inT_ok G _
/-! subscripts, slices, attributes -/
def keyP : P → Option Key
  | .int i => some (.inl i)
  | .str x => some (.inr x)
  | _ => none
theorem key_ok {S : Sto} {F : Frs} {d : D} {p : P} {k : Key} (h : RV S F d p) (e : keyP p = some k) : keyD d = some k := by
  cases p with
  | int b => rw [h.int]; exact e
  | str b => rw [h.str]; exact e
  | _ => cases e
def ixV (p q : P) : Option Tm := match p with
  | .str z => match q with
    | .int i => if z.length ≤ sizeLine then (atI z.cps.toList i).map fun c => .v (.str ⟨#[c]⟩) else none
    | _ => none
  | .tup xs => match q with
    | .int i => (atI xs i).map .v
    | _ => none
  | .lst xs => match q with
    | .int i => (atI xs i).map .v
    | _ => none
  | .dic kvs => match keyP q with
    | some k => (valD kvs k).map .v
    | none => none
  | _ => none
theorem at_rel {S : Sto} {F : Frs} {ds : List D} {ps : List P} {i : Int} {p : P} (r : SVs S F ds ps) (h : atI ps i = some p) : ∃ d, atI ds i = some d ∧ SV S F d p := by
  unfold atI at h ⊢
  rw [r.length]
  cases e : ixN ps.length i with
  | none => rw [e] at h; cases h
  | some j => rw [e] at h; exact r.get h
theorem ix_ok : OpT ixG (lift2 ixV) := lift2_ok fun S F d e p q t h1 h2 h => by
  cases p with
  | str z =>
    have := h1.str; subst this
    cases q with
    | int i =>
      have := h2.int; subst this
      simp only [ixV] at h
      by_cases hl : z.length ≤ sizeLine
      · rw [if_pos hl] at h
        cases e1 : atI z.cps.toList i with
        | none => rw [e1] at h; cases h
        | some c =>
          rw [e1] at h; cases h
          have q0 : ixG (.str z) (.int i) S = .ok (.str ⟨#[c]⟩) S := by
            simp only [ixG, ixD, if_pos hl, e1, Option.map_some]
          rw [q0]
          exact .v (.str _)
      · rw [if_neg hl] at h; cases h
    | _ => cases h
  | tup xs =>
    obtain ⟨ds, rfl, r⟩ := h1.tup
    cases q with
    | int i =>
      have := h2.int; subst this
      simp only [ixV] at h
      cases e1 : atI xs i with
      | none => rw [e1] at h; cases h
      | some x =>
        rw [e1] at h; cases h
        obtain ⟨d', g1, g2⟩ := at_rel r e1
        rw [ix_tup g1]
        exact .v g2
    | _ => cases h
  | lst xs =>
    obtain ⟨n, ds, rfl, e0, r⟩ := h1.lst
    cases q with
    | int i =>
      have := h2.int; subst this
      simp only [ixV] at h
      cases e1 : atI xs i with
      | none => rw [e1] at h; cases h
      | some x =>
        rw [e1] at h; cases h
        obtain ⟨d', g1, g2⟩ := at_rel r e1
        rw [ix_lst e0 g1]
        exact .v g2
    | _ => cases h
  | dic xs =>
    obtain ⟨n, ds, rfl, e0, r0, r⟩ := h1.dic
    simp only [ixV] at h
    cases e1 : keyP q with
    | none => rw [e1] at h; cases h
    | some k =>
      rw [e1] at h
      rcases valD_rel (f := k) r0 r with ⟨_, z⟩ | ⟨d', p', z1, z2, z3⟩
      · simp only [z] at h; cases h
      · simp only [z2, Option.map_some] at h
        cases h
        have q0 : ixG (.ref n) e S = .ok d' S := by
          simp only [ixG, ixD, seqD, e0, key_ok h2 e1, z1]
        rw [q0]
        exact .v z3
  | _ => cases h
def cutP (xs : List P) (lo hi : Option Int) : List P := (xs.drop (HT.sIx xs.length 0 lo)).take (HT.sIx xs.length xs.length hi - HT.sIx xs.length 0 lo)
theorem cut_rel {S : Sto} {F : Frs} {ds : List D} {ps : List P} (lo hi : Option Int) (r : SVs S F ds ps) : SVs S F (cutD ds lo hi) (cutP ps lo hi) := by
  unfold cutD cutP
  rw [r.length]
  exact (r.drop _).take _
def slP (p : P) (lo hi : Option Int) : Option Tm := match p with
  | .str z => if z.length ≤ sizeLine then some (.v (.str (cutS z lo hi))) else none
  | .tup xs => some (.v (.tup (cutP xs lo hi)))
  | .lst xs => some (.o (.lst (cutP xs lo hi)))
  | .fz xs => some (.o (.lst (cutP xs lo hi)))
  | _ => none
theorem sl_ok {S : Sto} {F : Frs} {d : D} {p : P} {lo hi : Option Int} {t : Tm} (h1 : RV S F d p) (h : slP p lo hi = some t) : Prim S F (slD d lo hi S) t := by
  cases p with
  | str z =>
    have := h1.str; subst this
    simp only [slP] at h
    by_cases hl : z.length ≤ sizeLine
    · rw [if_pos hl] at h
      cases h
      simp only [slD, if_pos hl]
      exact .v (.str _)
    · rw [if_neg hl] at h; cases h
  | tup xs =>
    obtain ⟨ds, rfl, r⟩ := h1.tup
    cases h
    exact .v (.tup (cut_rel _ _ r))
  | lst xs =>
    obtain ⟨n, ds, rfl, e0, r⟩ := h1.lst
    cases h
    simp only [slD, e0]
    exact .o (.lst (cut_rel _ _ r))
  | fz xs =>
    obtain ⟨ds, rfl, r⟩ := h1.fz
    cases h
    exact .o (.lst (cut_rel _ _ r))
  | _ => cases h
abbrev POm := PEnv → PR (Option Int)
abbrev QO : RelP (Option Int) (Option Int) := fun _ _ _ _ _ a b => a = b
def pNoPart : POm := fun pe => .ok none pe
def intT : Tm → Option Int
  | .v (.int i) => some i
  | _ => none
theorem intT_ok {t : Tm} {k : Int} (h : intT t = some k) : t = .v (.int k) := by
  unfold intT at h
  split at h
  · cases h; rfl
  · cases h
def pPart (a : PEm) : POm := fun pe => (a pe).bind fun t pe => match intT t with
  | some i => .ok (some i) pe
  | none => .fail
theorem sim_noPart : Sim QO mNoPart pNoPart := fun base S F env pe hR => out_ok hR rfl
theorem sim_part {a : ME} {pa : PEm} (ha : Sim QD a pa) : Sim QO (mPart a) (pPart pa) := fun base S F env pe hR =>
  (ha base S F env pe hR).bind (Nat.le_refl _) fun d t S1 F1 pe1 R1 s1 q1 => by
    cases e : intT t with
    | none => trivial
    | some i =>
      rw [intT_ok e] at q1
      have z : d = .int i := RV.int (.inl q1)
      subst z
      exact out_ok R1 rfl
def pSl (a : PEm) (lo hi : POm) : PEm := fun pe => (a pe).bind fun t pe => (lo pe).bind fun l pe => (hi pe).bind fun h pe => match (der t pe).bind fun p => slP p l h with
  | some r => .ok r pe
  | none => .fail
theorem sim_sl {a : ME} {pa : PEm} {l h : MO} {pl ph : POm} (ha : Sim QD a pa) (hl : Sim QO l pl) (hh : Sim QO h ph) : Sim QD (mSl a l h) (pSl pa pl ph) := fun base S F env pe hR =>
  (ha base S F env pe hR).bind (Nat.le_refl _) fun d t S1 F1 pe1 R1 s1 q1 => (hl base S1 F1 env pe1 R1).bind s1.len fun x y S2 F2 pe2 R2 s2 q2 => (hh base S2 F2 env pe2 R2).bind (Nat.le_trans s1.len s2.len) fun z w S3 F3 pe3 R3 s3 q3 => by
    cases q2; cases q3
    have t2 := q1.mono (s1.lows hR.lo) (Nat.le_refl _) s2
    have t3 := t2.mono (s2.lows (s1.lows hR.lo)) (Nat.le_refl _) s3
    cases e : (der t pe3).bind (fun p => slP p x z) with
    | none => trivial
    | some r =>
      cases e1 : der t pe3 with
      | none => rw [e1] at e; cases e
      | some p =>
        rw [e1] at e
        exact out_prim R3 (Nat.le_trans s1.len (Nat.le_trans s2.len s3.len)) (sl_ok (der_rv R3 t3 e1) e)
def attrV (Ψ : PGe) (f : Str) : P → Option Tm
  | .ins c fs => if Ψ.cls c && Ψ.noa c f then (fs.lookup f).map .v else none
  | _ => none
theorem attr_ok (G : GSim Γ Ψ) (f : Str) : UnT (attrG Γ f) (lift1 (attrV Ψ f)) := lift1_ok fun S F d p t h1 h => by
  unfold attrV at h
  split at h
  · rename_i c fs
    obtain ⟨n, ds, rfl, e0, r0, r⟩ := h1.ins
    split at h
    · rename_i hc
      rcases lookup_rel (f := f) r0 r with ⟨_, z⟩ | ⟨d', p', z1, z2, z3⟩
      · rw [z] at h; cases h
      · rw [z2] at h; cases h
        have q0 : attrG Γ f (.ref n) S = .ok d' S := by
          simp only [attrG, e0, G.cls, G.noa, if_pos hc, z1]
        rw [q0]
        exact .v z3
    · cases h
  · cases h
end Bt.Pv

set_option Elab.async false
set_option linter.all false
set_option maxRecDepth 100000
set_option maxHeartbeats 2000000
namespace Bt.Pv
open PySem PySem.Spec PyProof.Rows L2 Bt
variable {Γ : GEnv} {Ψ : PGe}

/-! ### built-in functions -/
def Ar.tm : Ar → Tm
  | .sh p => .v p
  | .l i => .l i
theorem ArR.tm {S : Sto} {F : Frs} {env : Env} {pe : PEnv} {lo : Nat} {d : D} {a : Ar} (h : ArR S F env pe d a) : TmR S F env pe lo d (Ar.tm a) := by
  cases a with
  | sh p => exact h
  | l i => exact h
def BltT (gd : List D → Sto → Rs D) (gp : List Ar → PEnv → PR Tm) : Prop := ∀ base lo S F env pe ds as, R base S F env pe → lo ≤ S.length → Lo lo env pe → ArsR S F env pe ds as → Out QD base lo S F env pe (gd ds S) (gp as pe)
def lenV : P → Option Nat
  | .str z => if z.length ≤ sizeLine then some z.length else none
  | .tup xs => some xs.length
  | .lst xs => some xs.length
  | .dic kvs => some kvs.length
  | _ => none
theorem lenV_ok {S : Sto} {F : Frs} {d : D} {p : P} {k : Nat} (h : RV S F d p) (e : lenV p = some k) : lenP d S = some k := by
  cases p with
  | str z => rw [h.str]; exact e
  | tup xs => obtain ⟨ds, rfl, r⟩ := h.tup; simp only [lenP, seqD, r.length]; exact e
  | lst xs => obtain ⟨n, ds, rfl, e0, r⟩ := h.lst; simp only [lenP, seqD, e0, r.length]; exact e
  | dic xs =>
    obtain ⟨n, ds, rfl, e0, r0, r⟩ := h.dic
    have : ds.length = xs.length := by simpa using congrArg List.length r0
    simp only [lenP, seqD, e0, this]; exact e
  | _ => cases e
def lenQ (r : PR Tm) : PR Tm := r.bind fun t pe => match intT t with
  | some i => if 0 ≤ i ∧ i < 2 ^ 63 then .ok (.v (.int i)) pe else .fail
  | none => .fail
def lenT (Ψ : PGe) : List Ar → PEnv → PR Tm
  | [a], pe => (match der (Ar.tm a) pe with
    | some p => (match lenV p with
      | some k => .ok (.v (.int k)) pe
      | none => (match p with
        | .ins c _ => (match Ψ.met c "__len__" with
          | some f => (match pArg (f.mask.headD false) (Ar.tm a) pe with
            | some (x, pe) => lenQ (callP f [x] pe)
            | none => .fail)
          | none => .fail)
        | _ => .fail))
    | none => .fail)
  | _, _ => .fail
theorem lenT_ok (G : GSim Γ Ψ) : BltT (lenG Γ) (lenT Ψ) := by
  intro base lo S F env pe ds as hR hl hL ha
  unfold lenT
  split
  · rename_i a
    cases ha with
    | cons h1 h2 =>
      cases h2
      rename_i d
      cases e : der (Ar.tm a) pe with
      | none => trivial
      | some p =>
        dsimp only
        have tm : TmR S F env pe lo d (Ar.tm a) := ArR.tm h1
        have v := der_rv hR tm e
        cases e1 : lenV p with
        | some k =>
          have q : lenG Γ [d] S = .ok (.int k) S := by simp only [lenG, lenV_ok v e1]
          rw [q]
          exact out_ok hR (.int _)
        | none =>
          dsimp only
          cases p with
          | ins c fs =>
            dsimp only
            cases e2 : Ψ.met c "__len__" with
            | none => trivial
            | some f =>
              dsimp only
              cases e3 : pArg (f.mask.headD false) (Ar.tm a) pe with
              | none => trivial
              | some q =>
                obtain ⟨x, pe1⟩ := q
                dsimp only
                obtain ⟨F1, R1, s1, a1, _⟩ := arg_ok hR hL tm e3
                obtain ⟨g, g1, g2⟩ := G.met c _ f e2
                obtain ⟨n, ds, rfl, e4, _⟩ := v.ins
                have q : lenG Γ [.ref n] S = lenR (g [.ref n] S) := by
                  simp only [lenG, lenP, seqD, e4, g1]
                rw [q]
                refine Out.step s1 ((call_ok g2 R1 hl (.cons a1 .nil)).bind (Nat.le_refl _) fun z w S2 F2 pe2 R2 s2 q2 => ?_)
                cases e5 : intT w with
                | none => trivial
                | some i =>
                  rw [intT_ok e5] at q2
                  have z0 : z = .int i := RV.int (.inl q2)
                  subst z0
                  dsimp only
                  by_cases hi : 0 ≤ i ∧ i < 2 ^ 63
                  · rw [if_pos hi, if_pos hi]; exact out_ok R2 (.int _)
                  · rw [if_neg hi, if_neg hi]; trivial
          | _ => trivial
  · trivial
def isiT (Ψ : PGe) : List Ar → PEnv → PR Tm
  | [x, c], pe => (match der (Ar.tm x) pe, der (Ar.tm c) pe with
    | some p, some q => (match isiP Ψ p q with
      | some b => .ok (.v (.bl b)) pe
      | none => .fail)
    | _, _ => .fail)
  | _, _ => .fail
theorem isi_rel (G : GSim Γ Ψ) {S : Sto} {F : Frs} {x c : D} {p q : P} {b : Bool} (v1 : RV S F x p) (v2 : RV S F c q) (h : isiP Ψ p q = some b) : isiD Γ [x, c] S = .ok (.bl b) S := by
  have gen : (∀ ps, q ≠ .tup ps) → (match tyP Ψ p, tyCP q with
    | some t, some u => Ψ.isi t u
    | _, _ => none) = some b → isiD Γ [x, c] S = .ok (.bl b) S := by
    intro hq h
    have hc : ∀ ds, c ≠ .tup ds := by
      rintro ds rfl
      have t := tyC_ok v2
      cases q with
      | ty n => have := v2.ty; cases this
      | glo n => have := v2.glo; cases this
      | tup ps => exact hq ps rfl
      | _ => simp [tyCP] at h
    have e : isiD Γ [x, c] S = (match tyD Γ x S, tyC c with
      | some t, some u => match Γ.isi t u with
        | some b => .ok (.bl b) S
        | none => .fail
      | _, _ => .fail) := by
      cases c with
      | tup ds => exact absurd rfl (hc ds)
      | _ => rfl
    rw [e, ty_ok G v1, tyC_ok v2, G.isi]
    cases e1 : tyP Ψ p with
    | none => rw [e1] at h; cases h
    | some t =>
      cases e2 : tyCP q with
      | none => rw [e1, e2] at h; cases h
      | some u =>
        rw [e1, e2] at h
        dsimp only at h ⊢
        rw [h]
  cases q with
  | tup ps =>
    obtain ⟨ds, rfl, r⟩ := v2.tup
    simp only [isiP] at h
    cases e1 : tyP Ψ p with
    | none => rw [e1] at h; cases h
    | some t =>
      rw [e1] at h
      have h' : isAnyP Ψ t ps = some b := h
      simp only [isiD, ty_ok G v1, e1, isAny_ok G r, h']
  | non => exact gen (fun _ e => by cases e) h
  | bl b => exact gen (fun _ e => by cases e) h
  | int b => exact gen (fun _ e => by cases e) h
  | str b => exact gen (fun _ e => by cases e) h
  | glo b => exact gen (fun _ e => by cases e) h
  | ty b => exact gen (fun _ e => by cases e) h
  | fz ps => exact gen (fun _ e => by cases e) h
  | lst ps => exact gen (fun _ e => by cases e) h
  | dic ps => exact gen (fun _ e => by cases e) h
  | ins c ps => exact gen (fun _ e => by cases e) h
theorem isiT_ok (G : GSim Γ Ψ) : BltT (isiD Γ) (isiT Ψ) := by
  intro base lo S F env pe ds as hR hl hL ha
  unfold isiT
  split
  · rename_i x c
    cases ha with
    | cons h1 h2 =>
      cases h2 with
      | cons h2 h3 =>
        cases h3
        rename_i dx dc
        cases e : der (Ar.tm x) pe with
        | none => trivial
        | some p =>
          cases e' : der (Ar.tm c) pe with
          | none => trivial
          | some q =>
            dsimp only
            have v1 := der_rv hR (lo := lo) (ArR.tm h1) e
            have v2 := der_rv hR (lo := lo) (ArR.tm h2) e'
            cases e3 : isiP Ψ p q with
            | none => trivial
            | some b =>
              rw [isi_rel G v1 v2 e3]
              exact out_ok hR (.bl _)
  · trivial
/-- a built-in of one argument, by values -/
def blt1 (g : P → Option Tm) : List Ar → PEnv → PR Tm
  | [a], pe => (match (der (Ar.tm a) pe).bind g with
    | some t => .ok t pe
    | none => .fail)
  | _, _ => .fail
theorem blt1_ok {gd : List D → Sto → Rs D} {g : P → Option Tm} (h : ∀ S F d p t, RV S F d p → g p = some t → Prim S F (gd [d] S) t) : BltT gd (blt1 g) := by
  intro base lo S F env pe ds as hR hl hL ha
  unfold blt1
  split
  · rename_i a
    cases ha with
    | cons h1 h2 =>
      cases h2
      rename_i d
      cases e : der (Ar.tm a) pe with
      | none => trivial
      | some p =>
        cases e1 : g p with
        | none => simp only [Option.bind_some, e1]; trivial
        | some t =>
          simp only [Option.bind_some, e1]
          exact out_prim hR hl (h S F d p t (der_rv hR (lo := lo) (ArR.tm h1) e) e1)
  · trivial
def intV : P → Option Tm
  | .int i => some (.v (.int i))
  | .bl k => some (.v (.int (if k then 1 else 0)))
  | _ => none
theorem intV_ok : BltT intB (blt1 intV) := blt1_ok fun S F d p t h1 h => by
  cases p with
  | int i => rw [h1.int]; cases h; exact .v (.int _)
  | bl i => rw [h1.bl]; cases h; exact .v (.int _)
  | _ => cases h
def listV (p : P) : Option Tm := (seqP p).map fun xs => .o (.lst xs)
theorem listV_ok : BltT listB (blt1 listV) := blt1_ok fun S F d p t h1 h => by
  rcases seq_ok h1 with ⟨e1, e2⟩ | ⟨ds, ps, e1, e2, r⟩
  · unfold listV at h; rw [e1] at h; cases h
  · unfold listV at h; rw [e1] at h; cases h
    simp only [listB, e2]
    exact .o (.lst r)
def tupV (p : P) : Option Tm := (seqP p).map fun xs => .v (.tup xs)
theorem tupV_ok : BltT tupB (blt1 tupV) := blt1_ok fun S F d p t h1 h => by
  rcases seq_ok h1 with ⟨e1, e2⟩ | ⟨ds, ps, e1, e2, r⟩
  · unfold tupV at h; rw [e1] at h; cases h
  · unfold tupV at h; rw [e1] at h; cases h
    simp only [tupB, e2]
    exact .v (.tup r)
def bltP (Ψ : PGe) (f : Str) : Option (List Ar → PEnv → PR Tm) :=
  if f = "len" then some (lenT Ψ) else if f = "isinstance" then some (isiT Ψ) else if f = "int" then some (blt1 intV) else if f = "list" then some (blt1 listV) else if f = "tuple" then some (blt1 tupV) else none
theorem blt_ok (G : GSim Γ Ψ) {f : Str} {gp : List Ar → PEnv → PR Tm} (h : bltP Ψ f = some gp) : ∃ gd, bltD Γ f = some gd ∧ BltT gd gp := by
  unfold bltP at h
  unfold bltD
  split at h
  · rename_i e; cases h; rw [if_pos e]; exact ⟨_, rfl, lenT_ok G⟩
  · rename_i e; rw [if_neg e]
    split at h
    · rename_i e; cases h; rw [if_pos e]; exact ⟨_, rfl, isiT_ok G⟩
    · rename_i e; rw [if_neg e]
      split at h
      · rename_i e; cases h; rw [if_pos e]; exact ⟨_, rfl, intV_ok⟩
      · rename_i e; rw [if_neg e]
        split at h
        · rename_i e; cases h; rw [if_pos e]; exact ⟨_, rfl, listV_ok⟩
        · rename_i e; rw [if_neg e]
          split at h
          · rename_i e; cases h; rw [if_pos e]; exact ⟨_, rfl, tupV_ok⟩
          · cases h
/-! ### calls by name -/
abbrev bm : List Bool := [true, true, true, true]
def pCall (Ψ : PGe) (f : Str) (m : PAm) : PEm := fun pe => match Ψ.cal f with
  | some g => (m g.mask pe).bind fun as pe => callP g as pe
  | none => if Ψ.fre f then (match bltP Ψ f with
    | some g => (m bm pe).bind fun as pe => g as pe
    | none => .fail) else .fail
def pCall0 (Ψ : PGe) (f : Str) : PEm := fun pe => match Ψ.cal f with
  | some g => callP g [] pe
  | none => .fail
theorem sim_call (G : GSim Γ Ψ) {f : Str} {m : MA} {p : PAm} (h : SimA m p) : Sim QD (mCall Γ f m) (pCall Ψ f p) := by
  intro base S F env pe hR
  unfold pCall mCall calX
  cases e : Ψ.cal f with
  | some g =>
    obtain ⟨gd, h1, h2⟩ := G.cal f g e
    rw [h1]
    exact (h g.mask base S F env pe hR).bind (Nat.le_refl _) fun ds as S1 F1 pe1 R1 s1 q1 => call_ok h2 R1 s1.len q1
  | none =>
    rw [G.cal0 f e, G.fre]
    dsimp only
    cases e1 : Ψ.fre f with
    | false => trivial
    | true =>
      rw [if_pos rfl, if_pos rfl]
      cases e2 : bltP Ψ f with
      | none => trivial
      | some g =>
        obtain ⟨gd, h1, h2⟩ := blt_ok G e2
        rw [h1]
        exact (h bm base S F env pe hR).bind (Nat.le_refl _) fun ds as S1 F1 pe1 R1 s1 q1 => h2 base S.length S1 F1 env pe1 ds as R1 s1.len (s1.lows hR.lo) q1
theorem sim_call0 (G : GSim Γ Ψ) (f : Str) : Sim QD (mCall0 Γ f) (pCall0 Ψ f) := by
  intro base S F env pe hR
  unfold pCall0 mCall0
  cases e : Ψ.cal f with
  | some g =>
    obtain ⟨gd, h1, h2⟩ := G.cal f g e
    rw [h1]
    exact call_ok h2 hR (Nat.le_refl _) .nil
  | none => trivial
/-! ### an object of a slot is changed -/
section
variable {base lo : Nat} {S : Sto} {F : Frs} {env : Env} {pe : PEnv}
theorem frm_set {n : Nat} (hn : ¬ F n) (o : Ob) : FrM S F (S.set n o) F := fun m h => ⟨h, by rw [List.getElem?_set_ne]; rintro rfl; exact hn h⟩
theorem set_slot (hR : R base S F env pe) {i n : Nat} {b : Bool} {p p' : P} {o' : Ob} (h : pe[i]? = some (some (.li b false p))) (hn : env[i]? = some (some (.ref n))) (hc : CR S F o' p') :
    R base (S.set n o') F env (pe.set i (some (.li b false p'))) ∧ StE lo S F env pe (S.set n o') F (pe.set i (some (.li b false p'))) := by
  obtain ⟨m, o, e1, e2, e3, e4, e5⟩ := hR.li i b false p h
  rw [hn] at e1; cases e1
  have fm := frm_set (S := S) e2 o'
  refine ⟨⟨by simp [hR.len], fun m hm => by simpa using hR.fl m hm, by simpa using hR.bl, fun j q hj => ?_, fun j b' k' q hj => ?_, fun j hj => ?_, fun a c c1 c2 c3 c4 c5 c6 m ha hb h1 h2 => ?_⟩, ⟨by simp, fun m hm => hm, fun m _ hm => ?_, fun m hm => (fm m hm).2, fun m _ hm => .inl hm, by simp, fun j b' k' q hj => ?_, fun j k' q hj => ?_, fun j q hj => ?_⟩⟩
  · rcases set_get hj with ⟨rfl, z⟩ | ⟨_, z⟩
    · cases z
    · obtain ⟨d, z1, z2⟩ := hR.sh j q z
      exact ⟨d, z1, z2.mono fm⟩
  · rcases set_get hj with ⟨rfl, z⟩ | ⟨ne, z⟩
    · cases z
      exact ⟨n, o', hn, e2, by rw [List.getElem?_set_self (get_lt e3)], hc.mono fm, e5⟩
    · obtain ⟨m, o2, z1, z2, z3, z4, z5⟩ := hR.li j b' k' q z
      refine ⟨m, o2, z1, z2, ?_, z4.mono fm, z5⟩
      rw [List.getElem?_set_ne]
      · exact z3
      · rintro rfl
        exact ne (hR.nd i j _ _ _ _ _ _ n h z hn z1)
  · rcases set_get hj with ⟨rfl, z⟩ | ⟨ne, z⟩
    · cases z
    · exact hR.ex j z
  · have g1 : ∃ b k p, pe[a]? = some (some (.li b k p)) := by
      rcases set_get ha with ⟨rfl, z⟩ | ⟨_, z⟩
      · exact ⟨_, _, _, h⟩
      · exact ⟨_, _, _, z⟩
    have g2 : ∃ b k p, pe[c]? = some (some (.li b k p)) := by
      rcases set_get hb with ⟨rfl, z⟩ | ⟨_, z⟩
      · exact ⟨_, _, _, h⟩
      · exact ⟨_, _, _, z⟩
    obtain ⟨_, _, _, g1⟩ := g1
    obtain ⟨_, _, _, g2⟩ := g2
    exact hR.nd a c _ _ _ _ _ _ m g1 g2 h1 h2
  · rw [List.getElem?_set_ne]
    rintro rfl
    exact hm i b p h hn
  · rcases set_get hj with ⟨rfl, z⟩ | ⟨ne, z⟩
    · cases z; exact ⟨_, h⟩
    · exact ⟨_, z⟩
  · by_cases e : i = j
    · subst e
      rw [h] at hj; cases hj
      exact ⟨p', by rw [List.getElem?_set_self (get_lt h)]⟩
    · exact ⟨q, by rw [List.getElem?_set_ne e]; exact hj⟩
  · by_cases e : i = j
    · subst e; exact ⟨p', by rw [List.getElem?_set_self (get_lt h)]; rfl⟩
    · exact ⟨q, by rw [List.getElem?_set_ne e]; exact hj⟩
end
/-- a change of the object of a slot, giving a value -/
def mutP (i : Nat) (g : P → Option (P × P)) (pe : PEnv) : PR Tm := match pe[i]? with
  | some (some (.li b false p)) => (match g p with
    | some (r, p') => .ok (.v r) (pe.set i (some (.li b false p')))
    | none => .fail)
  | _ => .fail
theorem mut_ok {base lo : Nat} {S : Sto} {F : Frs} {env : Env} {pe : PEnv} {i : Nat} {d : D} {g : P → Option (P × P)} {gd : D → Sto → Rs D} (h : ∀ n o p r p', S[n]? = some o → CR S F o p → g p = some (r, p') → ∃ d o', gd (.ref n) S = .ok d (S.set n o') ∧ CR S F o' p' ∧ SV S F d r) (hR : R base S F env pe) (ht : TmR S F env pe lo d (.l i)) : Out QD base lo S F env pe (gd d S) (mutP i g pe) := by
  have aux : ∀ q, pe[i]? = q → Out QD base lo S F env pe (gd d S) (match q with
      | some (some (.li b false p)) => (match g p with
        | some (r, p') => .ok (.v r) (pe.set i (some (.li b false p')))
        | none => .fail)
      | _ => .fail) := by
    intro q hq
    match q, hq with
    | some (some (.li b false p)), hq =>
      obtain ⟨h1, _⟩ := ht
      obtain ⟨n, o, z1, z2, z3, z4, z5⟩ := hR.li i b false p hq
      have h2 := h1
      rw [z1] at h1; cases h1
      dsimp only
      cases e : g p with
      | none => trivial
      | some q =>
        obtain ⟨r, p'⟩ := q
        obtain ⟨d, o', g1, g2, g3⟩ := h n o p r p' z3 z4 e
        obtain ⟨r1, r2⟩ := set_slot (lo := lo) hR hq h2 g2
        exact ⟨d, _, _, g1, r1, r2, SV.mono r2.frm g3⟩
    | some (some (.li b true p)), _ => trivial
    | some (some (.sh p)), _ => trivial
    | some (some .ex), _ => trivial
    | some none, _ => trivial
    | none, _ => trivial
  exact aux _ rfl
def popP (as : List P) (xs : List P) : Option (P × List P) := match as with
  | [] => (xs[xs.length - 1]?).map fun y => (y, xs.dropLast)
  | [.int i] => if (0 ≤ i ∧ i < (xs.length : Int)) ∧ xs.length ≤ 16777216 then (xs[i.toNat]?).map fun y => (y, xs.eraseIdx i.toNat) else none
  | _ => none
/-- methods of lists, by the slot -/
def lmP (m : Str) : Option (List P → P → Option (P × P)) :=
  if m = "append" then some fun as p => match p, as with
    | .lst xs, [x] => if xs.length < sizeLine then some (.non, .lst (xs ++ [x])) else none
    | _, _ => none
  else if m = "reverse" then some fun as p => match p, as with
    | .lst xs, [] => some (.non, .lst xs.reverse)
    | _, _ => none
  else if m = "clear" then some fun as p => match p, as with
    | .lst xs, [] => some (.non, .lst [])
    | _, _ => none
  else if m = "pop" then some fun as p => match p with
    | .lst xs => (popP as xs).map fun q => (q.1, .lst q.2)
    | _ => none
  else none
theorem svs_erase {S : Sto} {F : Frs} : ∀ {ds : List D} {ps : List P} (i : Nat), SVs S F ds ps → SVs S F (ds.eraseIdx i) (ps.eraseIdx i)
  | _, _, _, .nil => .nil
  | _, _, 0, .cons _ t => t
  | _, _, i + 1, .cons q t => .cons q (svs_erase i t)
theorem lm_ok {m : Str} {g : List P → P → Option (P × P)} (h : lmP m = some g) : ∃ gd, lstM m = some gd ∧ ∀ (S : Sto) (F : Frs) (n : Nat) (o : Ob) (es : List D) (as : List P) (p r p' : P), S[n]? = some o → CR S F o p → SVs S F es as → g as p = some (r, p') → ∃ d o', gd (.ref n) es S = .ok d (S.set n o') ∧ CR S F o' p' ∧ SV S F d r := by
  unfold lmP at h
  unfold lstM
  split at h
  · rename_i e
    cases h
    rw [if_pos e]
    refine ⟨_, rfl, fun S F n o es as p r p' h1 h2 sv h3 => ?_⟩
    cases p with
    | lst ys =>
      cases sv with
      | nil => cases h3
      | cons sv1 sv2 =>
        cases sv2 with
        | cons _ _ => cases h3
        | nil =>
          cases h2 with
          | lst rr =>
            dsimp only at h3
            split at h3
            · rename_i hl
              cases h3
              dsimp only
              rw [h1]
              dsimp only
              rw [if_pos (by rw [rr.length]; exact hl)]
              exact ⟨_, _, rfl, .lst (rr.append (.cons sv1 .nil)), .non⟩
            · cases h3
    | _ => cases h3
  · rename_i e
    rw [if_neg e]
    split at h
    · rename_i e
      cases h
      rw [if_pos e]
      refine ⟨_, rfl, fun S F n o es as p r p' h1 h2 sv h3 => ?_⟩
      cases p with
      | lst ys =>
        cases sv with
        | cons _ _ => cases h3
        | nil =>
          cases h2 with
          | lst rr =>
            cases h3
            dsimp only
            rw [h1]
            exact ⟨_, _, rfl, .lst rr.reverse, .non⟩
      | _ => cases h3
    · rename_i e
      rw [if_neg e]
      split at h
      · rename_i e
        cases h
        rw [if_pos e]
        refine ⟨_, rfl, fun S F n o es as p r p' h1 h2 sv h3 => ?_⟩
        cases p with
        | lst ys =>
          cases sv with
          | cons _ _ => cases h3
          | nil =>
            cases h2 with
            | lst rr =>
              cases h3
              dsimp only
              rw [h1]
              exact ⟨_, _, rfl, .lst .nil, .non⟩
        | _ => cases h3
      · rename_i e
        rw [if_neg e]
        split at h
        · rename_i e
          cases h
          rw [if_pos e]
          refine ⟨_, rfl, fun S F n o es as p r p' h1 h2 sv h3 => ?_⟩
          cases p with
          | lst ys =>
            cases h2 with
            | lst rr =>
              rename_i xs
              dsimp only at h3 ⊢
              rw [h1]
              dsimp only
              cases hp : popP as ys with
              | none => rw [hp] at h3; cases h3
              | some q =>
                obtain ⟨y, zs⟩ := q
                rw [hp] at h3
                cases h3
                unfold popP at hp
                split at hp
                · cases sv
                  cases hy : ys[ys.length - 1]? with
                  | none => rw [hy] at hp; cases hp
                  | some z =>
                    rw [hy] at hp
                    cases hp
                    obtain ⟨d, g1, g2⟩ := rr.get hy
                    have e2 : popD [] xs = some (d, xs.dropLast) := by
                      simp only [popD]
                      rw [rr.length, g1]
                      rfl
                    rw [e2]
                    refine ⟨_, _, rfl, .lst ?_, g2⟩
                    rw [List.dropLast_eq_take, List.dropLast_eq_take, ← rr.length]
                    exact rr.take _
                · rename_i i
                  split at hp
                  · rename_i hi
                    cases hy : ys[i.toNat]? with
                    | none => rw [hy] at hp; cases hp
                    | some z =>
                      rw [hy] at hp
                      cases hp
                      obtain ⟨d, g1, g2⟩ := rr.get hy
                      cases sv with
                      | cons s1 s2 =>
                        cases s2
                        have : _ = D.int i := RV.int (.inl s1)
                        subst this
                        have e2 : popD [.int i] xs = some (d, xs.eraseIdx i.toNat) := by
                          simp only [popD]
                          rw [if_pos (by rw [rr.length]; exact hi), g1]
                          rfl
                        rw [e2]
                        exact ⟨_, _, rfl, .lst (svs_erase _ rr), g2⟩
                  · cases hp
                · cases hp
          | _ => cases h3
        · cases h
def strsP : List P → Option (List Str)
  | [] => some []
  | .str x :: r => (strsP r).map (x :: ·)
  | _ :: _ => none
theorem strs_rel {S : Sto} {F : Frs} : ∀ {ds : List D} {ps : List P} {ys : List Str}, SVs S F ds ps → strsP ps = some ys → strsD ds = some ys
  | _, _, _, .nil, h => by cases h; rfl
  | _, _, _, .cons (p := p) a b, h => by
    cases p with
    | str x =>
      have : _ = D.str x := RV.str (.inl a)
      subst this
      unfold strsP at h
      unfold strsD
      cases e : strsP _ with
      | none => rw [e] at h; cases h
      | some r => rw [e] at h; rw [strs_rel b e]; exact h
    | _ => cases h
def joinV (a : Str) (x : P) : Option Tm := match (seqP x).bind strsP with
  | some ys => if (ys.map (·.length)).sum + ys.length * a.length ≤ 16777216 then some (.v (.str (Txt.join a ys))) else none
  | none => none
def lmT (g : List P → P → Option (P × P)) (t : Tm) (as : List Ar) (pe : PEnv) : PR Tm := match t, shsA as with
  | .l i, some ps => mutP i (g ps) pe
  | _, _ => .fail
def pMeth (Ψ : PGe) (m : Str) (o : PEm) (args : PAm) : PEm := fun pe => (o pe).bind fun t pe => match der t pe with
  | some (.str z) => if m = "join" then (args bm pe).bind fun as pe => blt1 (joinV z) as pe else .fail
  | some (.lst _) => (match lmP m with
    | some g => (args [] pe).bind fun as pe => lmT g t as pe
    | none => .fail)
  | some (.ins c fs) => if (fs.lookup m).isNone then (match Ψ.met c m with
    | some f => (match pArg (f.mask.headD false) t pe with
      | some (a, pe) => (args f.mask.tail pe).bind fun as pe => callP f (a :: as) pe
      | none => .fail)
    | none => .fail) else .fail
  | _ => .fail
theorem sim_meth (G : GSim Γ Ψ) {m : Str} {o : ME} {po : PEm} {args : MA} {pargs : PAm} (ho : Sim QD o po) (ha : SimA args pargs) : Sim QD (mMeth Γ m o args) (pMeth Ψ m po pargs) := fun base S F env pe hR =>
  (ho base S F env pe hR).bind (Nat.le_refl _) fun d t S1 F1 pe1 R1 s1 q1 => by
    cases e : der t pe1 with
    | none => trivial
    | some p =>
      have v := der_rv R1 q1 e
      cases p with
      | str z =>
        dsimp only
        have := v.str
        subst this
        by_cases hm : m = "join"
        · subst hm
          rw [if_pos rfl]
          have e1 : preM Γ "join" (.str z) S1 = some .str := rfl
          have e2 : runM Γ "join" .str = strM "join" := rfl
          rw [e1]
          dsimp only
          rw [e2]
          unfold strM
          rw [if_pos rfl]
          dsimp only
          refine (ha bm base S1 F1 env pe1 R1).bind s1.len fun ds as S2 F2 pe2 R2 s2 q2 => ?_
          refine blt1_ok (gd := fun ds S => match D.str z, ds with
            | .str a, [x] => match seqD x S with
              | some xs => match strsD xs with
                | some ys => if (ys.map (·.length)).sum + ys.length * a.length ≤ 16777216 then .ok (.str (Txt.join a ys)) S else .fail
                | none => .fail
              | none => .fail
            | _, _ => .fail) (fun S F d p t h1 h => ?_) base S.length S2 F2 env pe2 ds as R2 (Nat.le_trans s1.len s2.len) (s2.lows (s1.lows hR.lo)) q2
          unfold joinV at h
          rcases seq_ok h1 with ⟨g1, g2⟩ | ⟨ds, ps, g1, g2, r⟩
          · rw [g1] at h; cases h
          · rw [g1] at h
            dsimp only
            rw [g2]
            cases g3 : strsP ps with
            | none => simp only [Option.bind_some, g3] at h; cases h
            | some ys =>
              simp only [Option.bind_some, g3] at h
              dsimp only
              rw [strs_rel r g3]
              dsimp only
              split at h
              · rename_i hl
                cases h
                rw [if_pos hl]
                exact .v (.str _)
              · cases h
        · rw [if_neg hm]; trivial
      | lst xs =>
        dsimp only
        obtain ⟨n, ds, rfl, e0, r⟩ := v.lst
        have e1 : preM Γ m (.ref n) S1 = some .lst := by simp only [preM, e0]
        cases e2 : lmP m with
        | none => trivial
        | some g =>
          dsimp only
          obtain ⟨gd, k1, k2⟩ := lm_ok e2
          rw [e1]
          have e3 : runM Γ m .lst = some gd := k1
          dsimp only
          rw [e3]
          dsimp only
          refine (ha [] base S1 F1 env pe1 R1).bind s1.len fun es as S2 F2 pe2 R2 s2 q2 => ?_
          have t2 := q1.mono (s1.lows hR.lo) (Nat.le_refl _) s2
          unfold lmT
          cases e4 : shsA as with
          | none => cases t <;> trivial
          | some ps =>
            have sv := shs_ok q2 e4
            cases t with
            | v p => trivial
            | o p => trivial
            | l i =>
              dsimp only
              exact mut_ok (gd := fun d S => gd d es S) (fun n o p r p' h1 h2 h3 => k2 S2 F2 n o es ps p r p' h1 h2 sv h3) R2 t2
      | ins c fs =>
        dsimp only
        obtain ⟨n, ds, rfl, e0, r0, r⟩ := v.ins
        by_cases hn : (fs.lookup m).isNone = true
        · rw [if_pos hn]
          cases e2 : Ψ.met c m with
          | none => trivial
          | some f =>
            dsimp only
            cases e3 : pArg (f.mask.headD false) t pe1 with
            | none => trivial
            | some q =>
              obtain ⟨a, pe2⟩ := q
              dsimp only
              obtain ⟨F2, R2, s2, a2, _⟩ := arg_ok R1 (s1.lows hR.lo) q1 e3
              obtain ⟨g, g1, g2⟩ := G.met c m f e2
              have hn' : (ds.lookup m).isNone = true := by
                rcases lookup_rel (f := m) r0 r with ⟨z, _⟩ | ⟨_, _, _, z, _⟩
                · rw [z]; rfl
                · rw [z] at hn; cases hn
              have e1 : preM Γ m (.ref n) S1 = some (.own c) := by simp only [preM, e0, if_pos hn']
              have e4 : runM Γ m (.own c) = some (fun d ds S => g (d :: ds) S) := by simp only [runM, g1, Option.map_some]
              rw [e1]
              dsimp only
              rw [e4]
              dsimp only
              refine Out.step s2 ((ha f.mask.tail base S1 F2 env pe2 R2).bind s1.len fun es as S3 F3 pe3 R3 s3 q3 => ?_)
              exact call_ok g2 R3 (Nat.le_trans s1.len s3.len) (.cons (a2.mono s3) q3)
        · rw [if_neg hn]; trivial
      | _ => trivial
/-! list(reversed(x)) -/
def revV : P → Option Tm
  | .lst xs => some (.o (.lst xs.reverse))
  | _ => none
def pRevL (a : PEm) : PEm := pUn (lift1 revV) a
theorem sim_revL {a : ME} {pa : PEm} (ha : Sim QD a pa) : Sim QD (mRevL a) (pRevL pa) := sim_un (gd := fun d S => match d with
  | .ref n => (match listAt n S with
    | some xs => .ok (.ref S.length) (S ++ [.lst xs.reverse])
    | none => .fail)
  | _ => .fail) ha (lift1_ok fun S F d p t h1 h => by
    cases p with
    | lst xs =>
      obtain ⟨n, ds, rfl, e0, r⟩ := h1.lst
      cases h
      simp only [listAt, e0]
      exact .o (.lst r.reverse)
    | _ => cases h)
/-! names of the top -/
def pGlob (Ψ : PGe) (x : Str) : PEm := fun pe => match Ψ.con x with
  | some p => .ok (.v p) pe
  | none => if Ψ.fre x then (match btyOf x with
    | some n => .ok (.v (.ty n)) pe
    | none => .fail) else .fail
theorem sim_glob (G : GSim Γ Ψ) (x : Str) : Sim QD (mGlob Γ x) (pGlob Ψ x) := by
  intro base S F env pe hR
  unfold pGlob mGlob
  cases e : Ψ.con x with
  | some p =>
    obtain ⟨d, h1, h2⟩ := G.con x p e
    rw [h1]
    exact out_ok hR (h2 S F)
  | none =>
    rw [G.con0 x e, G.fre]
    dsimp only
    cases e1 : Ψ.fre x with
    | false => trivial
    | true =>
      rw [if_pos rfl, if_pos rfl]
      cases e2 : btyOf x with
      | none => trivial
      | some n => exact out_ok hR (.ty n)
end Bt.Pv

set_option Elab.async false
set_option linter.all false
set_option maxRecDepth 100000
set_option maxHeartbeats 2000000
namespace Bt.Pv
open PySem PySem.Spec PyProof.Rows L2 Bt
variable {Γ : GEnv} {Ψ : PGe}

/-! ### statements -/
inductive PFl where
  | nx | rt (t : Tm) | bk | ct
abbrev PSm := PEnv → PR PFl
structure StS (lo : Nat) (S : Sto) (F : Frs) (env : Env) (pe : PEnv) (S' : Sto) (F' : Frs) (env' : Env) (pe' : PEnv) : Prop where
  len : S.length ≤ S'.length
  fr : ∀ n, F n → F' n
  fm : ∀ n, n < lo → (∀ (i : Nat) (b : Bool) (p : P), pe[i]? = some (some (.li b false p)) → env[i]? ≠ some (some (.ref n))) → S'[n]? = S[n]?
  fm2 : ∀ n, F n → S'[n]? = S[n]?
  fz : ∀ n, n < lo → F' n → F n ∨ ∃ (i : Nat) (k : Bool) (p : P), pe[i]? = some (some (.li false k p)) ∧ env[i]? = some (some (.ref n))
  pl : pe'.length = pe.length
  al : ∀ (i : Nat) (b k : Bool) (p : P) (n : Nat), pe'[i]? = some (some (.li b k p)) → env'[i]? = some (some (.ref n)) → (∃ q, pe[i]? = some (some (.li b k q)) ∧ env[i]? = some (some (.ref n))) ∨ (lo ≤ n ∧ b = false ∧ k = false)
  bo : ∀ (i : Nat) (k : Bool) (p : P), pe[i]? = some (some (.li true k p)) → ∃ q, pe'[i]? = some (some (.li true k q)) ∧ env'[i]? = env[i]?
section
variable {lo lo' base : Nat} {S S1 S2 S3 : Sto} {F F1 F2 F3 : Frs} {env env1 env2 env3 : Env} {pe pe1 pe2 pe3 : PEnv}
theorem StS.frm (s : StS lo S1 F1 env1 pe1 S2 F2 env2 pe2) : FrM S1 F1 S2 F2 := fun n h => ⟨s.fr n h, s.fm2 n h⟩
theorem StS.refl (lo : Nat) (S : Sto) (F : Frs) (env : Env) (pe : PEnv) : StS lo S F env pe S F env pe :=
  ⟨Nat.le_refl _, fun _ h => h, fun _ _ _ => rfl, fun _ _ => rfl, fun _ _ h => .inl h, rfl, fun _ _ _ _ _ h h' => .inl ⟨_, h, h'⟩, fun _ _ _ h => ⟨_, h, rfl⟩⟩
theorem _root_.Bt.StE.st (a : StE lo S1 F1 env pe1 S2 F2 pe2) : StS lo S1 F1 env pe1 S2 F2 env pe2 :=
  ⟨a.len, a.fr, a.fm, a.fm2, a.fz, a.pl, fun i b k p n h h' => by
    obtain ⟨q, e⟩ := a.al i b k p h
    exact .inl ⟨q, e, h'⟩, fun i k p h => by
    obtain ⟨q, e⟩ := a.bo i k p h
    exact ⟨q, e, rfl⟩⟩
theorem StS.trans (a : StS lo S1 F1 env1 pe1 S2 F2 env2 pe2) (b : StS lo S2 F2 env2 pe2 S3 F3 env3 pe3) : StS lo S1 F1 env1 pe1 S3 F3 env3 pe3 where
  len := Nat.le_trans a.len b.len
  fr := fun n h => b.fr n (a.fr n h)
  fm := fun n h1 h2 => (b.fm n h1 fun i c p e e' => by
    rcases a.al i c false p n e e' with ⟨q, g1, g2⟩ | ⟨g, _⟩
    · exact h2 i c q g1 g2
    · omega).trans (a.fm n h1 h2)
  fm2 := fun n h => (b.fm2 n (a.fr n h)).trans (a.fm2 n h)
  fz := fun n h1 h2 => by
    rcases b.fz n h1 h2 with h | ⟨i, k, p, e1, e2⟩
    · exact a.fz n h1 h
    · rcases a.al i false k p n e1 e2 with ⟨q, g1, g2⟩ | ⟨g, _⟩
      · exact .inr ⟨i, k, q, g1, g2⟩
      · omega
  pl := b.pl.trans a.pl
  al := fun i c k p n h h' => by
    rcases b.al i c k p n h h' with ⟨q, g1, g2⟩ | g
    · exact a.al i c k q n g1 g2
    · exact .inr g
  bo := fun i k p h => by
    obtain ⟨q, g1, g2⟩ := a.bo i k p h
    obtain ⟨q', g3, g4⟩ := b.bo i k q g1
    exact ⟨q', g3, g4.trans g2⟩
theorem StS.low (a : StS lo' S1 F1 env1 pe1 S2 F2 env2 pe2) (h : lo ≤ lo') : StS lo S1 F1 env1 pe1 S2 F2 env2 pe2 :=
  { a with
    fm := fun n h1 h2 => a.fm n (Nat.lt_of_lt_of_le h1 h) h2
    fz := fun n h1 h2 => a.fz n (Nat.lt_of_lt_of_le h1 h) h2
    al := fun i b k p n h1 h2 => (a.al i b k p n h1 h2).imp id fun ⟨g, g'⟩ => ⟨Nat.le_trans h g, g'⟩ }
end
def FlR (base : Nat) (S' : Sto) (F' : Frs) (env' : Env) (pe' : PEnv) (r : Rs Fl) : PFl → Prop
  | .nx => r = .ok (.nx env') S'
  | .bk => r = .ok (.bk env') S'
  | .ct => r = .ok (.ct env') S'
  | .rt t => ∃ d, r = .ok (.rt d) S' ∧ TmR S' F' env' pe' base d t
def OutS (base lo : Nat) (S : Sto) (F : Frs) (env : Env) (pe : PEnv) (r : Rs Fl) (q : PR PFl) : Prop := match q with
  | .ok fl pe' => ∃ env' S' F', R base S' F' env' pe' ∧ StS lo S F env pe S' F' env' pe' ∧ FlR base S' F' env' pe' r fl
  | .exc x pe' => ∃ env' S' F' y, r = .ok (.xc y env') S' ∧ R base S' F' env' pe' ∧ StS lo S F env pe S' F' env' pe' ∧ XR S' F' y x
  | .fail => True
def SimS (m : MS) (p : PSm) : Prop := ∀ base S F env pe, R base S F env pe → OutS base S.length S F env pe (m env S) (p pe)
section
variable {α β : Type} {Q : RelP α β} {base lo lo' : Nat} {S : Sto} {F : Frs} {env : Env} {pe : PEnv}
theorem OutS.step {S1 : Sto} {F1 : Frs} {env1 : Env} {pe1 : PEnv} {r : Rs Fl} {q : PR PFl} (s : StS lo S F env pe S1 F1 env1 pe1) (h : OutS base lo S1 F1 env1 pe1 r q) : OutS base lo S F env pe r q := by
  cases q with
  | ok b pe' => obtain ⟨e', S', F', h2, h3, h4⟩ := h; exact ⟨e', S', F', h2, s.trans h3, h4⟩
  | exc x pe' => obtain ⟨e', S', F', y, h1, h2, h3, h4⟩ := h; exact ⟨e', S', F', y, h1, h2, s.trans h3, h4⟩
  | fail => trivial
theorem OutS.low {r : Rs Fl} {q : PR PFl} (h : OutS base lo' S F env pe r q) (hl : lo ≤ lo') : OutS base lo S F env pe r q := by
  cases q with
  | ok b pe' => obtain ⟨e', S', F', h2, h3, h4⟩ := h; exact ⟨e', S', F', h2, h3.low hl, h4⟩
  | exc x pe' => obtain ⟨e', S', F', y, h1, h2, h3, h4⟩ := h; exact ⟨e', S', F', y, h1, h2, h3.low hl, h4⟩
  | fail => trivial
/-- an expression, then a statement's rest -/
theorem outE {r : Rs α} {q : PR β} {f : α → Sto → Rs Fl} {g : β → PEnv → PR PFl} (h1 : Out Q base lo' S F env pe r q) (hl : lo ≤ lo')
    (h2 : ∀ a b S' F' pe', R base S' F' env pe' → StE lo' S F env pe S' F' pe' → Q S' F' env pe' lo' a b → OutS base lo S' F' env pe' (f a S') (g b pe')) : OutS base lo S F env pe (seqE r env f) (q.bind g) := by
  cases q with
  | ok b pe' =>
    obtain ⟨a, S', F', e, e1, e2, e3⟩ := h1
    subst e
    exact OutS.step (e2.low hl).st (h2 a b S' F' pe' e1 e2 e3)
  | exc x pe' =>
    obtain ⟨y, S', F', e, e1, e2, e3⟩ := h1
    subst e
    exact ⟨env, S', F', y, rfl, e1, (e2.low hl).st, e3⟩
  | fail => trivial
theorem outS_nx (hR : R base S F env pe) : OutS base lo S F env pe (.ok (.nx env) S) (.ok .nx pe) := ⟨env, S, F, hR, StS.refl _ _ _ _ _, rfl⟩
end
def pNilS : PSm := fun pe => .ok .nx pe
def thenP (q : PR PFl) (b : PSm) : PR PFl := match q with
  | .ok .nx pe => b pe
  | q => q
def pSeq (a b : PSm) : PSm := fun pe => thenP (a pe) b
theorem sim_nilS : SimS sNil pNilS := fun base S F env pe hR => outS_nx hR
theorem outS_then {base lo : Nat} {S : Sto} {F : Frs} {env : Env} {pe : PEnv} {a : Rs Fl} {q : PR PFl} {b : MS} {pb : PSm} (ha : OutS base lo S F env pe a q) (hb : ∀ S1 F1 env1 pe1, R base S1 F1 env1 pe1 → StS lo S F env pe S1 F1 env1 pe1 → OutS base lo S1 F1 env1 pe1 (b env1 S1) (pb pe1)) : OutS base lo S F env pe (thenS a b) (thenP q pb) := by
  cases q with
  | ok fl pe' =>
    obtain ⟨e', S', F', h2, h3, h4⟩ := ha
    cases fl with
    | nx =>
      have : a = .ok (.nx e') S' := h4
      subst this
      exact OutS.step h3 (hb S' F' e' pe' h2 h3)
    | bk => have : a = .ok (.bk e') S' := h4; subst this; exact ⟨e', S', F', h2, h3, rfl⟩
    | ct => have : a = .ok (.ct e') S' := h4; subst this; exact ⟨e', S', F', h2, h3, rfl⟩
    | rt t => obtain ⟨d, rfl, h5⟩ := h4; exact ⟨e', S', F', h2, h3, d, rfl, h5⟩
  | exc x pe' => obtain ⟨e', S', F', y, rfl, h2, h3, h4⟩ := ha; exact ⟨e', S', F', y, rfl, h2, h3, h4⟩
  | fail => trivial
theorem sim_seq {a b : MS} {pa pb : PSm} (ha : SimS a pa) (hb : SimS b pb) : SimS (sSeq a b) (pSeq pa pb) := fun base S F env pe hR =>
  outS_then (ha base S F env pe hR) fun S1 F1 env1 pe1 R1 s1 => (hb base S1 F1 env1 pe1 R1).low s1.len
section
variable {m : ME} {p : PEm} {t : MT} {pt : PTm} {a b : MS} {pa pb : PSm}
def pExpr (m : PEm) : PSm := fun pe => (m pe).bind fun _ pe => .ok .nx pe
def pRet (m : PEm) : PSm := fun pe => (m pe).bind fun t pe => .ok (.rt t) pe
def pRetN : PSm := fun pe => .ok (.rt (.v .non)) pe
def pIf (t : PTm) (a b : PSm) : PSm := fun pe => (t pe).bind fun k pe => if k then a pe else b pe
def pBrk : PSm := fun pe => .ok .bk pe
def pCnt : PSm := fun pe => .ok .ct pe
theorem sim_expr (h : Sim QD m p) : SimS (sExpr m) (pExpr p) := fun base S F env pe hR =>
  outE (h base S F env pe hR) (Nat.le_refl _) fun d t S1 F1 pe1 R1 s1 q1 => outS_nx R1
theorem sim_ret (h : Sim QD m p) : SimS (sRet m) (pRet p) := fun base S F env pe hR =>
  outE (h base S F env pe hR) (Nat.le_refl _) fun d t S1 F1 pe1 R1 s1 q1 => ⟨env, S1, F1, R1, StS.refl _ _ _ _ _, d, rfl, q1.low hR.bl⟩
theorem sim_retN : SimS sRetN pRetN := fun base S F env pe hR => ⟨env, S, F, hR, StS.refl _ _ _ _ _, .non, rfl, .non⟩
theorem sim_if (ht : Sim QB t pt) (ha : SimS a pa) (hb : SimS b pb) : SimS (sIf t a b) (pIf pt pa pb) := fun base S F env pe hR =>
  outE (ht base S F env pe hR) (Nat.le_refl _) fun k k' S1 F1 pe1 R1 s1 q1 => by
    cases q1
    cases k with
    | true => exact (ha base S1 F1 env pe1 R1).low s1.len
    | false => exact (hb base S1 F1 env pe1 R1).low s1.len
theorem sim_brk : SimS sBrk pBrk := fun base S F env pe hR => ⟨env, S, F, hR, StS.refl _ _ _ _ _, rfl⟩
theorem sim_cnt : SimS sCnt pCnt := fun base S F env pe hR => ⟨env, S, F, hR, StS.refl _ _ _ _ _, rfl⟩
end
/-! ### targets -/
abbrev PGm := Tm → PEnv → PR PFl
def SimG (g : MG) (p : PGm) : Prop := ∀ base lo S F env pe d t, R base S F env pe → base ≤ lo → lo ≤ S.length → Lo lo env pe → TmR S F env pe lo d t → OutS base lo S F env pe (g d env S) (p t pe)
/-- a slot that may be stored: its object is not borrowed -/
def asgOk : Option (Option Sl) → Bool
  | some (some (.li true _ _)) => false
  | _ => true
def pNam (i : Nat) : PGm := fun t pe => match t with
  | .v p => if asgOk pe[i]? then .ok .nx (pe.set i (some (.sh p))) else .fail
  | .o p => if asgOk pe[i]? then .ok .nx (pe.set i (some (.li false false p))) else .fail
  | .l j => (match frz (.l j) pe with
    | some (p, pe) => if asgOk pe[i]? then .ok .nx (pe.set i (some (.sh p))) else .fail
    | none => .fail)
section
variable {base lo : Nat} {S : Sto} {F : Frs} {env : Env} {pe : PEnv}
theorem set_getD {env : Env} {i j : Nat} {s x : Option D} (h : (env.set i s)[j]? = some x) : (i = j ∧ x = s) ∨ (i ≠ j ∧ env[j]? = some x) := by
  by_cases e : i = j
  · subst e
    have hl : i < env.length := by have := get_lt h; simpa using this
    rw [List.getElem?_set_self hl] at h
    cases h
    exact .inl ⟨rfl, rfl⟩
  · rw [List.getElem?_set_ne e] at h
    exact .inr ⟨e, h⟩
theorem store_sh (hR : R base S F env pe) {i : Nat} {d : D} {p : P} (hv : SV S F d p) (hi : asgOk pe[i]? = true) :
    R base S F (env.set i (some d)) (pe.set i (some (.sh p))) ∧ StS lo S F env pe S F (env.set i (some d)) (pe.set i (some (.sh p))) := by
  have oth : ∀ (j : Nat) (x : Sl), (pe.set i (some (.sh p)))[j]? = some (some x) → (∀ p, x ≠ .sh p) → i ≠ j ∧ pe[j]? = some (some x) := by
    intro j x h hx
    rcases set_get h with ⟨rfl, z⟩ | z
    · cases z; exact absurd rfl (hx p)
    · exact z
  refine ⟨⟨by simp [hR.len], hR.fl, hR.bl, fun j q hj => ?_, fun j b k q hj => ?_, fun j hj => ?_, fun a c c1 c2 c3 c4 c5 c6 m ha hb h1 h2 => ?_⟩, ⟨Nat.le_refl _, fun _ h => h, fun _ _ _ => rfl, fun _ _ => rfl, fun _ _ h => .inl h, by simp, fun j b k q n hj he => ?_, fun j k q hj => ?_⟩⟩
  · rcases set_get hj with ⟨rfl, z⟩ | ⟨ne, z⟩
    · cases z
      have hl : i < env.length := by rw [hR.len]; have := get_lt hj; simpa using this
      exact ⟨d, by rw [List.getElem?_set_self hl], hv⟩
    · obtain ⟨d', z1, z2⟩ := hR.sh j q z
      exact ⟨d', by rw [List.getElem?_set_ne ne]; exact z1, z2⟩
  · obtain ⟨ne, z⟩ := oth j _ hj (fun _ e => by cases e)
    rw [List.getElem?_set_ne ne]
    exact hR.li j b k q z
  · obtain ⟨ne, z⟩ := oth j _ hj (fun _ e => by cases e)
    rw [List.getElem?_set_ne ne]
    exact hR.ex j z
  · obtain ⟨ne, za⟩ := oth a _ ha (fun _ e => by cases e)
    obtain ⟨ne', zb⟩ := oth c _ hb (fun _ e => by cases e)
    rw [List.getElem?_set_ne ne] at h1
    rw [List.getElem?_set_ne ne'] at h2
    exact hR.nd a c _ _ _ _ _ _ m za zb h1 h2
  · obtain ⟨ne, z⟩ := oth j _ hj (fun _ e => by cases e)
    rw [List.getElem?_set_ne ne] at he
    exact .inl ⟨q, z, he⟩
  · have ne : i ≠ j := by
      rintro rfl
      rw [hj] at hi; cases hi
    exact ⟨q, by rw [List.getElem?_set_ne ne]; exact hj, by rw [List.getElem?_set_ne ne]⟩
theorem store_new (hR : R base S F env pe) (hL : Lo lo env pe) (hb : base ≤ lo) {i n : Nat} {o : Ob} {p : P} (hn : lo ≤ n) (hf : ¬ F n) (ho : S[n]? = some o) (hc : CR S F o p) (hi : asgOk pe[i]? = true) :
    R base S F (env.set i (some (.ref n))) (pe.set i (some (.li false false p))) ∧ StS lo S F env pe S F (env.set i (some (.ref n))) (pe.set i (some (.li false false p))) := by
  refine ⟨⟨by simp [hR.len], hR.fl, hR.bl, fun j q hj => ?_, fun j b k q hj => ?_, fun j hj => ?_, fun a c c1 c2 c3 c4 c5 c6 m ha hb h1 h2 => ?_⟩, ⟨Nat.le_refl _, fun _ h => h, fun _ _ _ => rfl, fun _ _ => rfl, fun _ _ h => .inl h, by simp, fun j b k q m hj he => ?_, fun j k q hj => ?_⟩⟩
  · rcases set_get hj with ⟨rfl, z⟩ | ⟨ne, z⟩
    · cases z
    · rw [List.getElem?_set_ne ne]; exact hR.sh j q z
  · rcases set_get hj with ⟨rfl, z⟩ | ⟨ne, z⟩
    · cases z
      have hl : i < env.length := by rw [hR.len]; have := get_lt hj; simpa using this
      exact ⟨n, o, by rw [List.getElem?_set_self hl], hf, ho, hc, fun _ => Nat.le_trans hb hn⟩
    · rw [List.getElem?_set_ne ne]; exact hR.li j b k q z
  · rcases set_get hj with ⟨rfl, z⟩ | ⟨ne, z⟩
    · cases z
    · rw [List.getElem?_set_ne ne]; exact hR.ex j z
  · rcases set_get ha with ⟨e1, z⟩ | ⟨ne, za⟩
    · rcases set_get hb with ⟨e2, z⟩ | ⟨ne', zb⟩
      · exact e1.symm.trans e2
      · subst e1
        rw [List.getElem?_set_ne ne'] at h2
        rcases set_getD h1 with ⟨_, e⟩ | ⟨q, _⟩
        · cases e
          exact absurd (hL c c4 c5 c6 n zb h2) (Nat.not_lt.mpr hn)
        · exact absurd rfl q
    · rcases set_get hb with ⟨e2, z⟩ | ⟨ne', zb⟩
      · subst e2
        rw [List.getElem?_set_ne ne] at h1
        rcases set_getD h2 with ⟨_, e⟩ | ⟨q, _⟩
        · cases e
          exact absurd (hL a c1 c2 c3 n za h1) (Nat.not_lt.mpr hn)
        · exact absurd rfl q
      · rw [List.getElem?_set_ne ne] at h1
        rw [List.getElem?_set_ne ne'] at h2
        exact hR.nd a c _ _ _ _ _ _ m za zb h1 h2
  · rcases set_get hj with ⟨rfl, z⟩ | ⟨ne, z⟩
    · cases z
      rcases set_getD he with ⟨_, e⟩ | ⟨q, _⟩
      · cases e; exact .inr ⟨hn, rfl, rfl⟩
      · exact absurd rfl q
    · rw [List.getElem?_set_ne ne] at he
      exact .inl ⟨q, z, he⟩
  · have ne : i ≠ j := by
      rintro rfl
      rw [hj] at hi; cases hi
    exact ⟨q, by rw [List.getElem?_set_ne ne]; exact hj, by rw [List.getElem?_set_ne ne]⟩
end
theorem sim_nam (i : Nat) : SimG (gNam i) (pNam i) := by
  intro base lo S F env pe d t hR hb hl hL ht
  unfold pNam gNam
  cases t with
  | v p =>
    dsimp only
    by_cases hi : asgOk pe[i]? = true
    · rw [if_pos hi]
      obtain ⟨r, s⟩ := store_sh (lo := lo) hR ht hi
      exact ⟨_, _, _, r, s, rfl⟩
    · rw [if_neg hi]; trivial
  | o p =>
    dsimp only
    by_cases hi : asgOk pe[i]? = true
    · rw [if_pos hi]
      obtain ⟨n, o, rfl, h1, h2, h3, h4⟩ := ht
      obtain ⟨r, s⟩ := store_new hR hL hb h1 h2 h3 h4 hi
      exact ⟨_, _, _, r, s, rfl⟩
    · rw [if_neg hi]; trivial
  | l j =>
    dsimp only
    cases e : frz (.l j) pe with
    | none => trivial
    | some q =>
      obtain ⟨p, pe1⟩ := q
      dsimp only
      obtain ⟨F1, R1, s1, v1⟩ := frz_ok hR hL ht e
      by_cases hi : asgOk pe1[i]? = true
      · rw [if_pos hi]
        obtain ⟨r, s⟩ := store_sh (lo := lo) R1 v1 hi
        exact ⟨_, _, _, r, s1.st.trans s, rfl⟩
      · rw [if_neg hi]; trivial
abbrev PGsm := List P → PEnv → PR PFl
def SimGs (g : MGs) (p : PGsm) : Prop := ∀ base lo S F env pe ds ps, R base S F env pe → base ≤ lo → lo ≤ S.length → Lo lo env pe → SVs S F ds ps → OutS base lo S F env pe (g ds env S) (p ps pe)
/-- the names of a tuple target -/
def pNams : List Nat → PGsm
  | [], [], pe => .ok .nx pe
  | i :: is, p :: ps, pe => thenP (pNam i (.v p) pe) fun pe => pNams is ps pe
  | _, _, _ => .fail
theorem sim_nams : ∀ is, SimGs (gNs is) (pNams is)
  | [] => by
    intro base lo S F env pe ds ps hR hb hl hL h
    cases h with
    | nil => exact outS_nx hR
    | cons _ _ => trivial
  | i :: is => by
    intro base lo S F env pe ds ps hR hb hl hL h
    cases h with
    | nil => trivial
    | cons h1 h2 =>
      rename_i d p ds ps
      show OutS base lo S F env pe (sSeq (gNam i d) (gNs is ds) env S) (thenP (pNam i (.v p) pe) _)
      have hg := sim_nam i base lo S F env pe d (.v p) hR hb hl hL h1
      cases e : pNam i (.v p) pe with
      | fail => trivial
      | exc x pe1 => unfold pNam at e; dsimp only at e; split at e <;> cases e
      | ok fl pe1 =>
        unfold pNam at e
        dsimp only at e
        split at e
        · rename_i hi
          cases e
          obtain ⟨r, s⟩ := store_sh (lo := lo) hR h1 hi
          refine OutS.step s ?_
          show OutS base lo S F (env.set i (some d)) (pe.set i (some (.sh p))) (gNs is ds (env.set i (some d)) S) (pNams is ps _)
          refine sim_nams is base lo S F _ _ ds ps r hb hl (fun j b k q n g1 g2 => ?_) h2
          rcases set_get g1 with ⟨_, z⟩ | ⟨ne, z⟩
          · cases z
          · rw [List.getElem?_set_ne ne] at g2
            exact hL j b k q n z g2
        · cases e
def tupT (t : Tm) (pe : PEnv) : Option (List P) := match der t pe with
  | some (.tup ps) => some ps
  | _ => none
theorem tupT_ok {t : Tm} {pe : PEnv} {ps : List P} (h : tupT t pe = some ps) : der t pe = some (.tup ps) := by
  unfold tupT at h
  split at h
  · cases h; assumption
  · cases h
def pTupG (is : List Nat) : PGm := fun t pe => match tupT t pe with
  | some ps => if ps.length = is.length then pNams is ps pe else .fail
  | none => .fail
theorem sim_tupG (is : List Nat) : SimG (gTup' is.length (gNs is)) (pTupG is) := by
  intro base lo S F env pe d t hR hb hl hL ht
  unfold pTupG
  cases e : tupT t pe with
  | none => trivial
  | some ps =>
    obtain ⟨ds, rfl, r⟩ := (der_rv hR ht (tupT_ok e)).tup
    dsimp only
    by_cases hi : ps.length = is.length
    · rw [if_pos hi]
      unfold gTup'
      dsimp only
      rw [if_pos (r.length.trans hi)]
      exact sim_nams is base lo S F env pe ds ps hR hb hl hL r
    · rw [if_neg hi]; trivial
/-- a change of the object of a slot -/
def mutS (i : Nat) (g : P → Option P) (pe : PEnv) : PR PFl := match pe[i]? with
  | some (some (.li b false p)) => (match g p with
    | some p' => .ok .nx (pe.set i (some (.li b false p')))
    | none => .fail)
  | _ => .fail
theorem mutS_ok {base lo : Nat} {S : Sto} {F : Frs} {env : Env} {pe : PEnv} {i : Nat} {d : D} {g : P → Option P} {gd : D → Sto → Rs Fl} (h : ∀ n o p p', S[n]? = some o → CR S F o p → g p = some p' → ∃ o', gd (.ref n) S = .ok (.nx env) (S.set n o') ∧ CR S F o' p') (hR : R base S F env pe) (ht : TmR S F env pe lo d (.l i)) : OutS base lo S F env pe (gd d S) (mutS i g pe) := by
  have aux : ∀ q, pe[i]? = q → OutS base lo S F env pe (gd d S) (match q with
      | some (some (.li b false p)) => (match g p with
        | some p' => .ok .nx (pe.set i (some (.li b false p')))
        | none => .fail)
      | _ => .fail) := by
    intro q hq
    match q, hq with
    | some (some (.li b false p)), hq =>
      obtain ⟨h1, _⟩ := ht
      obtain ⟨n, o, z1, z2, z3, z4, z5⟩ := hR.li i b false p hq
      have h2 := h1
      rw [z1] at h1; cases h1
      dsimp only
      cases e : g p with
      | none => trivial
      | some p' =>
        obtain ⟨o', g1, g2⟩ := h n o p p' z3 z4 e
        obtain ⟨r1, r2⟩ := set_slot (lo := lo) hR hq h2 g2
        exact ⟨env, _, _, r1, r2.st, g1⟩
    | some (some (.li b true p)), _ => trivial
    | some (some (.sh p)), _ => trivial
    | some (some .ex), _ => trivial
    | some none, _ => trivial
    | none, _ => trivial
  exact aux _ rfl
def setV (q x : P) : P → Option P
  | .lst xs => (match q with
    | .int k => (ixN xs.length k).map fun j => .lst (xs.set j x)
    | _ => none)
  | _ => none
def pSub (mo mi : PEm) : PGm := fun t pe => match frz t pe with
  | some (x, pe) => (mo pe).bind fun o pe => (mi pe).bind fun i pe => (match o, der i pe with
    | .l j, some q => mutS j (setV q x) pe
    | _, _ => .fail)
  | none => .fail
theorem sim_sub {mo mi : ME} {po pi : PEm} (ho : Sim QD mo po) (hi : Sim QD mi pi) : SimG (gSub' mo mi) (pSub po pi) := by
  intro base lo S F env pe d t hR hb hl hL ht
  unfold pSub
  cases e : frz t pe with
  | none => trivial
  | some q =>
    obtain ⟨x, pe1⟩ := q
    obtain ⟨F1, R1, s1, v1⟩ := frz_ok hR hL ht e
    refine OutS.step s1.st (outE (ho base S F1 env pe1 R1) hl fun o to S2 F2 pe2 R2 s2 q2 => outE (hi base S2 F2 env pe2 R2) (Nat.le_trans hl s2.len) fun k tk S3 F3 pe3 R3 s3 q3 => ?_)
    have q2' := q2.mono (s2.lows R1.lo) (Nat.le_refl _) s3
    cases to with
    | v p => trivial
    | o p => trivial
    | l j =>
      cases e3 : der tk pe3 with
      | none => trivial
      | some q =>
        dsimp only
        have vk := der_rv R3 q3 e3
        have vx := SV.mono s3.frm (SV.mono s2.frm v1)
        refine mutS_ok (gd := fun o S => match setD o k d S with
          | some S' => .ok (.nx env) S'
          | none => .fail) (fun n ob p p' h1 h2 h3 => ?_) R3 (q2'.low (lo := lo) hl)
        cases p with
        | lst xs =>
          cases q with
          | int i =>
            have := vk.int
            subst this
            cases h2 with
            | lst rr =>
              rename_i ys
              simp only [setV] at h3
              cases e5 : ixN xs.length i with
              | none => rw [e5] at h3; cases h3
              | some m =>
                rw [e5] at h3
                cases h3
                refine ⟨.lst (ys.set m d), ?_, .lst (SVs.set vx m rr)⟩
                simp only [setD, h1, rr.length, e5]
          | _ => cases h3
        | _ => cases h3
def pAsg (m : PEm) (g : PGm) : PSm := fun pe => (m pe).bind fun t pe => g t pe
theorem sim_asg {m : ME} {p : PEm} {g : MG} {pg : PGm} (hm : Sim QD m p) (hg : SimG g pg) : SimS (sAsg m g) (pAsg p pg) := fun base S F env pe hR =>
  outE (hm base S F env pe hR) (Nat.le_refl _) fun d t S1 F1 pe1 R1 s1 q1 => hg base S.length S1 F1 env pe1 d t R1 hR.bl s1.len (s1.lows hR.lo) q1
def putP (f : Str) (v : P) : List (Str × P) → List (Str × P)
  | [] => [(f, v)]
  | (g, w) :: r => if g = f then (g, v) :: r else (g, w) :: putP f v r
theorem put_rel {S : Sto} {F : Frs} {f : Str} {d : D} {p : P} (h : SV S F d p) : ∀ {fs : List (Str × D)} {gs : List (Str × P)}, fs.map (·.1) = gs.map (·.1) → SVs S F (fs.map (·.2)) (gs.map (·.2)) → (putFD f d fs).map (·.1) = (putP f p gs).map (·.1) ∧ SVs S F ((putFD f d fs).map (·.2)) ((putP f p gs).map (·.2))
  | [], [], _, _ => ⟨rfl, .cons h .nil⟩
  | [], _ :: _, e, _ => by cases e
  | _ :: _, [], e, _ => by cases e
  | (a, x) :: fs, (b, y) :: gs, e, r => by
    cases r with
    | cons r1 r2 =>
      have e1 : a = b := by simpa using congrArg List.head? e
      subst e1
      have e2 : fs.map (·.1) = gs.map (·.1) := by simpa using e
      unfold putFD putP
      by_cases z : a = f
      · rw [if_pos z, if_pos z]
        exact ⟨by simpa using e2, .cons h r2⟩
      · rw [if_neg z, if_neg z]
        obtain ⟨g1, g2⟩ := put_rel (f := f) h e2 r2
        exact ⟨by simpa using g1, .cons r1 g2⟩
def fldV (Ψ : PGe) (f : Str) (x : P) : P → Option P
  | .ins c fs => if Ψ.cls c && Ψ.noa c f && decide (fs.length < 1000) then some (.ins c (putP f x fs)) else none
  | _ => none
def pFld (Ψ : PGe) (f : Str) (m o : PEm) : PSm := fun pe => (m pe).bind fun t pe => (match frz t pe with
  | some (x, pe) => (o pe).bind fun w pe => (match w with
    | .l j => mutS j (fldV Ψ f x) pe
    | _ => .fail)
  | none => .fail)
theorem sim_fld (G : GSim Γ Ψ) {f : Str} {m o : ME} {pm po : PEm} (hm : Sim QD m pm) (ho : Sim QD o po) : SimS (sFldD Γ f m o) (pFld Ψ f pm po) := fun base S F env pe hR =>
  outE (hm base S F env pe hR) (Nat.le_refl _) fun d t S1 F1 pe1 R1 s1 q1 => by
    cases e : frz t pe1 with
    | none => trivial
    | some q =>
      obtain ⟨x, pe2⟩ := q
      obtain ⟨F2, R2, s2, v2⟩ := frz_ok R1 (s1.lows hR.lo) q1 e
      refine OutS.step s2.st (outE (ho base S1 F2 env pe2 R2) s1.len fun y w S3 F3 pe3 R3 s3 q3 => ?_)
      cases w with
      | v p => trivial
      | o p => trivial
      | l j =>
        dsimp only
        refine mutS_ok (gd := fun x S => match x with
          | .ref n => match S[n]? with
            | some (.ins c fs) => if Γ.cls c && Γ.noa c f && decide (fs.length < 1000) then .ok (.nx env) (S.set n (.ins c (putFD f d fs))) else .fail
            | _ => .fail
          | _ => .fail) (fun n ob p p' h1 h2 h3 => ?_) R3 (q3.low (lo := S.length) s1.len)
        cases p with
        | ins c fs =>
          cases h2 with
          | ins r0 r =>
            rename_i gs
            simp only [fldV] at h3
            split at h3
            · rename_i hc
              cases h3
              have hl : gs.length = fs.length := by simpa using congrArg List.length r0
              obtain ⟨g1, g2⟩ := put_rel (f := f) (SV.mono s3.frm v2) r0 r
              refine ⟨_, ?_, .ins g1 g2⟩
              simp only [h1, G.cls, G.noa, hl]
              rw [if_pos hc]
            · cases h3
        | _ => cases h3
end Bt.Pv

set_option Elab.async false
set_option linter.all false
set_option maxRecDepth 100000
set_option maxHeartbeats 2000000
namespace Bt.Pv
open PySem PySem.Spec PyProof.Rows L2 Bt
variable {Γ : GEnv} {Ψ : PGe}

/-! ### what is walked -/
inductive Itm where
  | items (ps : List P) | slot (i : Nat)
abbrev PIm := PEnv → PR Itm
/-- no slot may change the object -/
def NoU (n : Nat) (env : Env) (pe : PEnv) : Prop := ∀ (i : Nat) (b : Bool) (p : P), pe[i]? = some (some (.li b false p)) → env[i]? ≠ some (some (.ref n))
def QI : RelP Sq Itm := fun S F env pe lo s it => match it with
  | .items ps => (match s with
    | .items ds => SVs S F ds ps
    | .live n => ∃ ds, S[n]? = some (.lst ds) ∧ SVs S F ds ps ∧ NoU n env pe)
  | .slot i => ∃ n ps b k, s = .live n ∧ env[i]? = some (some (.ref n)) ∧ pe[i]? = some (some (.li b k (.lst ps)))
def signsP (z : Str) : List P := z.cps.toList.map fun c => .str ⟨#[c]⟩
def iterT (t : Tm) (pe : PEnv) : Option Itm := match t with
  | .v p => (match p with
    | .tup ps => some (.items ps)
    | .lst ps => some (.items ps)
    | .str z => some (.items (signsP z))
    | _ => none)
  | .o p => (match p with
    | .lst ps => some (.items ps)
    | _ => none)
  | .l i => (match pe[i]? with
    | some (some (.li _ _ (.lst _))) => some (.slot i)
    | some (some (.sh (.lst ps))) => some (.items ps)
    | _ => none)
def pIter (m : PEm) : PIm := fun pe => (m pe).bind fun t pe => match iterT t pe with
  | some q => .ok q pe
  | none => .fail
theorem signs_rel (S : Sto) (F : Frs) (z : Str) : SVs S F (signsD z) (signsP z) := by
  unfold signsD signsP
  induction z.cps.toList with
  | nil => exact .nil
  | cons c r ih => exact .cons (.str _) ih
section
variable {base lo : Nat} {S : Sto} {F : Frs} {env : Env} {pe : PEnv}
theorem iter_sv {base : Nat} (hR : R base S F env pe) {d : D} {p : P} (h : SV S F d p) {q : Itm} (e : iterT (.v p) pe = some q) : ∃ s, iterD d S = .ok s S ∧ QI S F env pe lo s q := by
  cases p with
  | tup ps => cases e; obtain ⟨ds, rfl, r⟩ := RV.tup (.inl h); exact ⟨_, rfl, r⟩
  | str z => cases e; have := RV.str (.inl h); subst this; exact ⟨_, rfl, signs_rel S F z⟩
  | lst ps =>
    cases e
    cases h with
    | ref f e1 c =>
      cases c with
      | lst r =>
        refine ⟨.live _, by simp only [iterD, listAt, e1], _, e1, r, fun i b p g1 g2 => ?_⟩
        obtain ⟨m, o, z1, z2, _⟩ := hR.li i b false p g1
        rw [g2] at z1; cases z1
        exact z2 f
  | _ => cases e
theorem iter_rel (hR : R base S F env pe) (hL : Lo lo env pe) {d : D} {t : Tm} (h : TmR S F env pe lo d t) {q : Itm} (e : iterT t pe = some q) : ∃ s, iterD d S = .ok s S ∧ QI S F env pe lo s q := by
  cases t with
  | v p => exact iter_sv hR h e
  | o p =>
    obtain ⟨n, o, rfl, h1, h2, h3, h4⟩ := h
    cases p with
    | lst ps =>
      cases e
      cases h4 with
      | lst r =>
        refine ⟨.live n, by simp only [iterD, listAt, h3], _, h3, r, fun i b p g1 g2 => ?_⟩
        exact absurd (hL i b false p n g1 g2) (Nat.not_lt.mpr h1)
    | _ => cases e
  | l i =>
    obtain ⟨h1, h2⟩ := h
    clear h2
    simp only [iterT] at e
    split at e
    · rename_i b k ps g
      cases e
      obtain ⟨n, o, z1, z2, z3, z4, _⟩ := hR.li i b k _ g
      have h1' := h1
      rw [z1] at h1; cases h1
      cases z4 with
      | lst r => exact ⟨.live n, by simp only [iterD, listAt, z3], n, ps, b, k, rfl, h1', g⟩
    · rename_i ps g
      cases e
      obtain ⟨d', z1, z2⟩ := hR.sh i _ g
      rw [h1] at z1; cases z1
      exact iter_sv hR z2 rfl
    · cases e
end
theorem sim_iter {m : ME} {p : PEm} (h : Sim QD m p) : Sim QI (mIter m) (pIter p) := fun base S F env pe hR =>
  (h base S F env pe hR).bind (Nat.le_refl _) fun d t S1 F1 pe1 R1 s1 q1 => by
    cases e : iterT t pe1 with
    | none => trivial
    | some q =>
      obtain ⟨s, h1, h2⟩ := iter_rel R1 (s1.lows hR.lo) q1 e
      rw [h1]
      exact out_ok R1 h2
def rangeP (lo : Int) (k : Nat) : List P := (List.range k).map fun i => .int (lo + (i : Nat))
theorem range_rel (S : Sto) (F : Frs) (lo : Int) (k : Nat) : SVs S F (rangeD lo k) (rangeP lo k) := by
  unfold rangeD rangeP
  induction List.range k with
  | nil => exact .nil
  | cons c r ih => exact .cons (.int _) ih
def pRange1 (m : PEm) : PIm := fun pe => (m pe).bind fun t pe => match intT t with
  | some j => if -(2 ^ 62) ≤ j ∧ j < 2 ^ 62 then .ok (.items (rangeP 0 j.toNat)) pe else .fail
  | none => .fail
def pRange2 (m m' : PEm) : PIm := fun pe => (m pe).bind fun t pe => (m' pe).bind fun u pe => match intT t, intT u with
  | some i, some j => if -(2 ^ 62) ≤ i ∧ i < 2 ^ 62 ∧ -(2 ^ 62) ≤ j ∧ j < 2 ^ 62 then .ok (.items (rangeP i (j - i).toNat)) pe else .fail
  | _, _ => .fail
theorem sim_range1 {m : ME} {p : PEm} (h : Sim QD m p) : Sim QI (mRange1 m) (pRange1 p) := fun base S F env pe hR =>
  (h base S F env pe hR).bind (Nat.le_refl _) fun d t S1 F1 pe1 R1 s1 q1 => by
    cases e : intT t with
    | none => trivial
    | some j =>
      rw [intT_ok e] at q1
      have z : d = .int j := RV.int (.inl q1)
      subst z
      dsimp only
      by_cases hj : -(2 ^ 62) ≤ j ∧ j < 2 ^ 62
      · rw [if_pos hj, if_pos hj]; exact out_ok R1 (range_rel _ _ _ _)
      · rw [if_neg hj, if_neg hj]; trivial
theorem sim_range2 {m m' : ME} {p p' : PEm} (h : Sim QD m p) (h' : Sim QD m' p') : Sim QI (mRange2 m m') (pRange2 p p') := fun base S F env pe hR =>
  (h base S F env pe hR).bind (Nat.le_refl _) fun d t S1 F1 pe1 R1 s1 q1 => (h' base S1 F1 env pe1 R1).bind s1.len fun e u S2 F2 pe2 R2 s2 q2 => by
    cases e1 : intT t with
    | none => trivial
    | some i =>
      cases e2 : intT u with
      | none => trivial
      | some j =>
        rw [intT_ok e1] at q1
        rw [intT_ok e2] at q2
        have z : d = .int i := RV.int (.inl q1)
        have z' : e = .int j := RV.int (.inl q2)
        subst z z'
        dsimp only
        by_cases hj : -(2 ^ 62) ≤ i ∧ i < 2 ^ 62 ∧ -(2 ^ 62) ≤ j ∧ j < 2 ^ 62
        · rw [if_pos hj, if_pos hj]; exact out_ok R2 (range_rel _ _ _ _)
        · rw [if_neg hj, if_neg hj]; trivial
/-! ### loops -/
def turnP (g : PGm) (body : PSm) (p : P) (k : PSm) : PSm := fun pe => match g (.v p) pe with
  | .ok .nx pe => (match body pe with
    | .ok .nx pe => k pe
    | .ok .ct pe => k pe
    | .ok .bk pe => .ok .nx pe
    | q => q)
  | q => q
def forP (g : PGm) (body : PSm) : List P → PSm
  | [] => pNilS
  | p :: r => turnP g body p (forP g body r)
section
variable {base lo : Nat} {S : Sto} {F : Frs} {env : Env} {pe : PEnv} {g : MG} {pg : PGm} {body : MS} {pb : PSm}
theorem OutS.fl {r : Rs Fl} {fl : PFl} {pe' : PEnv} (h : OutS base lo S F env pe r (.ok fl pe')) : ∃ env' S' F', R base S' F' env' pe' ∧ StS lo S F env pe S' F' env' pe' ∧ FlR base S' F' env' pe' r fl := h
theorem turn_ok (hg : SimG g pg) (hb : SimS body pb) (hR : R base S F env pe) (hl : lo ≤ S.length) {d : D} {p : P} (hv : SV S F d p) {k : MS} {pk : PSm}
    (hk : ∀ S1 F1 env1 pe1, R base S1 F1 env1 pe1 → StS S.length S F env pe S1 F1 env1 pe1 → OutS base lo S1 F1 env1 pe1 (k env1 S1) (pk pe1)) : OutS base lo S F env pe (turn g body d k env S) (turnP pg pb p pk pe) := by
  have h1 := hg base S.length S F env pe d (.v p) hR hR.bl (Nat.le_refl _) hR.lo hv
  unfold turnP turn
  cases e : pg (.v p) pe with
  | fail => trivial
  | exc x pe1 =>
    rw [e] at h1
    obtain ⟨e', S', F', y, g0, g1, g2, g3⟩ := h1
    rw [g0]
    exact ⟨e', S', F', y, rfl, g1, g2.low hl, g3⟩
  | ok fl pe1 =>
    rw [e] at h1
    obtain ⟨e1, S1, F1, R1, s1, f1⟩ := h1
    cases fl with
    | bk => have z : g d env S = .ok (.bk e1) S1 := f1; rw [z]; exact ⟨e1, S1, F1, R1, s1.low hl, rfl⟩
    | ct => have z : g d env S = .ok (.ct e1) S1 := f1; rw [z]; exact ⟨e1, S1, F1, R1, s1.low hl, rfl⟩
    | rt t => obtain ⟨d', z, f1⟩ := f1; rw [z]; exact ⟨e1, S1, F1, R1, s1.low hl, d', rfl, f1⟩
    | nx =>
      have z : g d env S = .ok (.nx e1) S1 := f1
      rw [z]
      dsimp only
      have h2 := (hb base S1 F1 e1 pe1 R1).low s1.len
      cases e' : pb pe1 with
      | fail => trivial
      | exc x pe2 =>
        rw [e'] at h2
        obtain ⟨e2, S2, F2, y, g0, g1, g2, g3⟩ := h2
        rw [g0]
        exact ⟨e2, S2, F2, y, rfl, g1, (s1.trans g2).low hl, g3⟩
      | ok fl pe2 =>
        rw [e'] at h2
        obtain ⟨e2, S2, F2, R2, s2, f2⟩ := h2
        have s12 := s1.trans s2
        cases fl with
        | nx => have z : body e1 S1 = .ok (.nx e2) S2 := f2; rw [z]; exact OutS.step (s12.low hl) (hk S2 F2 e2 pe2 R2 s12)
        | ct => have z : body e1 S1 = .ok (.ct e2) S2 := f2; rw [z]; exact OutS.step (s12.low hl) (hk S2 F2 e2 pe2 R2 s12)
        | bk => have z : body e1 S1 = .ok (.bk e2) S2 := f2; rw [z]; exact ⟨e2, S2, F2, R2, s12.low hl, rfl⟩
        | rt t => obtain ⟨d', z, f2⟩ := f2; rw [z]; exact ⟨e2, S2, F2, R2, s12.low hl, d', rfl, f2⟩
theorem forL_ok (hg : SimG g pg) (hb : SimS body pb) : ∀ {ds : List D} {ps : List P} {S : Sto} {F : Frs} {env : Env} {pe : PEnv}, R base S F env pe → lo ≤ S.length → SVs S F ds ps → OutS base lo S F env pe (forL g body ds env S) (forP pg pb ps pe)
  | _, _, S, F, env, pe, hR, hl, .nil => outS_nx hR
  | _, _, S, F, env, pe, hR, hl, .cons a b => turn_ok hg hb hR hl a fun S1 F1 env1 pe1 R1 s1 => forL_ok hg hb R1 (Nat.le_trans hl s1.len) (b.mono s1.frm)
theorem NoU.step {n : Nat} {S1 : Sto} {F1 : Frs} {env1 : Env} {pe1 : PEnv} (h : NoU n env pe) (hn : n < lo) (s : StS lo S F env pe S1 F1 env1 pe1) : NoU n env1 pe1 := fun i b p g1 g2 => by
  rcases s.al i b false p n g1 g2 with ⟨q, z1, z2⟩ | ⟨z, _⟩
  · exact h i b q z1 z2
  · omega
theorem forR_ok (hg : SimG g pg) (hb : SimS body pb) {n : Nat} {ds : List D} {ps : List P} : ∀ (m i : Nat) {S : Sto} {F : Frs} {env : Env} {pe : PEnv}, i + m = ds.length → R base S F env pe → lo ≤ S.length → S[n]? = some (.lst ds) → NoU n env pe → SVs S F ds ps → OutS base lo S F env pe (forR g body n m i env S) (forP pg pb (ps.drop i) pe)
  | 0, i, S, F, env, pe, hi, hR, hl, hn, hu, hv => by
    have e : forR g body n 0 i env S = .ok (.nx env) S := by
      simp only [forR, listAt, hn]
      rw [if_pos (by omega)]
    rw [e, List.drop_eq_nil_of_le (by rw [← hv.length]; omega)]
    exact outS_nx hR
  | m + 1, i, S, F, env, pe, hi, hR, hl, hn, hu, hv => by
    have hlt : i < ps.length := by rw [← hv.length]; omega
    obtain ⟨d, hd, sv⟩ := hv.get (i := i) (p := ps[i]) (by simp [hlt])
    have e : forR g body n (m + 1) i env S = turn g body d (forR g body n m (i + 1)) env S := by
      conv => lhs; unfold forR
      simp only [listAt, hn, hd]
    rw [e, List.drop_eq_getElem_cons hlt]
    refine turn_ok hg hb hR hl sv fun S1 F1 env1 pe1 R1 s1 => ?_
    exact forR_ok hg hb m (i + 1) (by omega) R1 (Nat.le_trans hl s1.len) ((s1.fm n (get_lt hn) hu).trans hn) (hu.step (get_lt hn) s1) (hv.mono s1.frm)
end
/-! locks -/
def lckQ : Itm → PEnv → Option (List P × PEnv)
  | .items ps, pe => some (ps, pe)
  | .slot i, pe => (match pe[i]? with
    | some (some (.li b _ (.lst ps))) => some (ps, pe.set i (some (.li b true (.lst ps))))
    | _ => none)
def unl (i : Nat) (pe : PEnv) : PEnv := match pe[i]? with
  | some (some (.li b true p)) => pe.set i (some (.li b false p))
  | _ => pe
/-- the lock is taken off if it was put on -/
def unlQ (q : Itm) (pe0 pe : PEnv) : PEnv := match q with
  | .items _ => pe
  | .slot i => (match pe0[i]? with
    | some (some (.li _ false _)) => unl i pe
    | _ => pe)
def unlR {α : Type} (q : Itm) (pe0 : PEnv) : PR α → PR α
  | .ok a pe => .ok a (unlQ q pe0 pe)
  | .exc x pe => .exc x (unlQ q pe0 pe)
  | .fail => .fail
def pFor (m : PIm) (g : PGm) (body : PSm) : PSm := fun pe => (m pe).bind fun q pe => match lckQ q pe with
  | some (ps, pe1) => unlR q pe (forP g body ps pe1)
  | none => .fail
section
variable {base lo : Nat} {S : Sto} {F : Frs} {env : Env} {pe : PEnv}
/-- only a lock is changed -/
theorem _root_.Bt.R.lock (hR : R base S F env pe) {i : Nat} {b k : Bool} {p : P} (h : pe[i]? = some (some (.li b k p))) (k' : Bool) : R base S F env (pe.set i (some (.li b k' p))) where
  len := by simp [hR.len]
  fl := hR.fl
  bl := hR.bl
  sh := fun j q hj => by
    rcases set_get hj with ⟨rfl, z⟩ | ⟨_, z⟩
    · cases z
    · exact hR.sh j q z
  li := fun j b' k2 q hj => by
    rcases set_get hj with ⟨rfl, z⟩ | ⟨_, z⟩
    · cases z; exact hR.li _ _ _ _ h
    · exact hR.li j b' k2 q z
  ex := fun j hj => by
    rcases set_get hj with ⟨rfl, z⟩ | ⟨_, z⟩
    · cases z
    · exact hR.ex j z
  nd := fun a c c1 c2 c3 c4 c5 c6 m ha hb h1 h2 => by
    have g1 : ∃ b k p, pe[a]? = some (some (.li b k p)) := by
      rcases set_get ha with ⟨rfl, z⟩ | ⟨_, z⟩
      · exact ⟨_, _, _, h⟩
      · exact ⟨_, _, _, z⟩
    have g2 : ∃ b k p, pe[c]? = some (some (.li b k p)) := by
      rcases set_get hb with ⟨rfl, z⟩ | ⟨_, z⟩
      · exact ⟨_, _, _, h⟩
      · exact ⟨_, _, _, z⟩
    obtain ⟨_, _, _, g1⟩ := g1
    obtain ⟨_, _, _, g2⟩ := g2
    exact hR.nd a c _ _ _ _ _ _ m g1 g2 h1 h2
theorem unl_cases (i : Nat) (pe : PEnv) : unl i pe = pe ∨ ∃ b p, pe[i]? = some (some (.li b true p)) ∧ unl i pe = pe.set i (some (.li b false p)) := by
  unfold unl
  split
  · rename_i b p h; exact .inr ⟨b, p, h, rfl⟩
  · exact .inl rfl
theorem _root_.Bt.R.unl (hR : R base S F env pe) (i : Nat) : R base S F env (unl i pe) := by
  rcases unl_cases i pe with e | ⟨b, p, h, e⟩
  · rw [e]; exact hR
  · rw [e]; exact hR.lock h false
theorem unl_get {i j : Nat} {x : Option Sl} (h : (unl i pe)[j]? = some x) : pe[j]? = some x ∨ (i = j ∧ ∃ b p, pe[i]? = some (some (.li b true p)) ∧ x = some (.li b false p)) := by
  rcases unl_cases i pe with e | ⟨b, p, h1, e⟩
  · rw [e] at h; exact .inl h
  · rw [e] at h
    rcases set_get h with ⟨rfl, z⟩ | ⟨_, z⟩
    · exact .inr ⟨rfl, b, p, h1, z⟩
    · exact .inl z
theorem unl_at {i j : Nat} {x : Option Sl} (h : pe[j]? = some x) : (unl i pe)[j]? = some x ∨ (i = j ∧ ∃ b p, x = some (.li b true p) ∧ (unl i pe)[j]? = some (some (.li b false p))) := by
  rcases unl_cases i pe with e | ⟨b, p, h1, e⟩
  · rw [e]; exact .inl h
  · rw [e]
    by_cases z : i = j
    · subst z
      rw [h1] at h; cases h
      exact .inr ⟨rfl, b, p, rfl, by rw [List.getElem?_set_self (get_lt h1)]⟩
    · rw [List.getElem?_set_ne z]; exact .inl h
theorem unl_len (i : Nat) : (unl i pe).length = pe.length := by
  rcases unl_cases i pe with e | ⟨b, p, h1, e⟩ <;> rw [e]
  simp
/-- a step of the locked slots, seen from outside -/
theorem lock_step {i : Nat} {b : Bool} {p : P} (h : pe[i]? = some (some (.li b false p))) {S' : Sto} {F' : Frs} {env' : Env} {pe' : PEnv} (s : StS lo S F env (pe.set i (some (.li b true p))) S' F' env' pe') : StS lo S F env pe S' F' env' (unl i pe') where
  len := s.len
  fr := s.fr
  fm := fun n h1 h2 => s.fm n h1 fun j c q g1 g2 => by
    rcases set_get g1 with ⟨rfl, z⟩ | ⟨_, z⟩
    · cases z
    · exact h2 j c q z g2
  fm2 := s.fm2
  fz := fun n h1 h2 => by
    rcases s.fz n h1 h2 with z | ⟨j, k, q, g1, g2⟩
    · exact .inl z
    · rcases set_get g1 with ⟨rfl, z⟩ | ⟨_, z⟩
      · cases z; exact .inr ⟨_, _, _, h, g2⟩
      · exact .inr ⟨j, k, q, z, g2⟩
  pl := by rw [unl_len, s.pl]; simp
  al := fun j c k q n g1 g2 => by
    rcases unl_get g1 with z | ⟨rfl, c', p', z1, z2⟩
    · rcases s.al j c k q n z g2 with ⟨q', y1, y2⟩ | y
      · rcases set_get y1 with ⟨rfl, w⟩ | ⟨_, w⟩
        · cases w
          -- locked at the end: unlocked by now
          exfalso
          have : (unl i pe')[i]? = some (some (.li b false q)) := by
            unfold unl
            rw [z]
            dsimp only
            rw [List.getElem?_set_self (get_lt z)]
          rw [g1] at this; cases this
        · exact .inl ⟨q', w, y2⟩
      · exact .inr y
    · cases z2
      rcases s.al i c true q n z1 g2 with ⟨q', y1, y2⟩ | ⟨_, _, y⟩
      · rcases set_get y1 with ⟨_, w⟩ | ⟨ne, _⟩
        · cases w; exact .inl ⟨_, h, y2⟩
        · exact absurd rfl ne
      · cases y
  bo := fun j k q g => by
    by_cases e : i = j
    · subst e
      rw [h] at g; cases g
      obtain ⟨q', y1, y2⟩ := s.bo i true p (by rw [List.getElem?_set_self (get_lt h)])
      refine ⟨q', ?_, y2⟩
      unfold unl
      rw [y1]
      dsimp only
      rw [List.getElem?_set_self (get_lt y1)]
    · obtain ⟨q', y1, y2⟩ := s.bo j k q (by rw [List.getElem?_set_ne e]; exact g)
      refine ⟨q', ?_, y2⟩
      rcases unl_at (i := i) y1 with z | ⟨z, _⟩
      · exact z
      · exact absurd z e
theorem slV_unl {i j : Nat} {p : P} (h : slV pe[j]? = some p) : slV (unl i pe)[j]? = some p := by
  rcases slV_cases h with e | ⟨b, k, e⟩
  · rcases unl_at (i := i) e with z | ⟨_, _, _, z, _⟩
    · rw [z]; rfl
    · cases z
  · rcases unl_at (i := i) e with z | ⟨_, _, _, z, z'⟩
    · rw [z]; rfl
    · cases z; rw [z']; rfl
theorem _root_.Bt.TmR.unl {i : Nat} {d : D} {t : Tm} (h : TmR S F env pe lo d t) : TmR S F env (unl i pe) lo d t := by
  cases t with
  | v p => exact h
  | o p => exact h
  | l j => obtain ⟨h1, p, h2⟩ := h; exact ⟨h1, p, slV_unl h2⟩
def unlF {α : Type} (i : Nat) : PR α → PR α
  | .ok a pe => .ok a (unl i pe)
  | .exc x pe => .exc x (unl i pe)
  | .fail => .fail
theorem lock_out {i : Nat} {b : Bool} {p : P} (h : pe[i]? = some (some (.li b false p))) {r : Rs Fl} {q : PR PFl} (o : OutS base lo S F env (pe.set i (some (.li b true p))) r q) : OutS base lo S F env pe r (unlF i q) := by
  cases q with
  | ok fl pe' =>
    obtain ⟨e', S', F', h1, h2, h3⟩ := o
    refine ⟨e', S', F', h1.unl i, lock_step h h2, ?_⟩
    cases fl with
    | nx => exact h3
    | bk => exact h3
    | ct => exact h3
    | rt t => obtain ⟨d, g1, g2⟩ := h3; exact ⟨d, g1, TmR.unl g2⟩
  | exc x pe' =>
    obtain ⟨e', S', F', y, h0, h1, h2, h3⟩ := o
    exact ⟨e', S', F', y, h0, h1.unl i, lock_step h h2, h3⟩
  | fail => trivial
end
theorem sim_for {m : MI} {p : PIm} {g : MG} {pg : PGm} {body : MS} {pb : PSm} (hm : Sim QI m p) (hg : SimG g pg) (hb : SimS body pb) : SimS (sFor m g body) (pFor p pg pb) := fun base S F env pe hR =>
  outE (hm base S F env pe hR) (Nat.le_refl _) fun s q S1 F1 pe1 R1 s1 q1 => by
    cases q with
    | items ps =>
      show OutS base S.length S1 F1 env pe1 _ (unlR (.items ps) pe1 (forP pg pb ps pe1))
      have e : unlR (.items ps) pe1 (forP pg pb ps pe1) = forP pg pb ps pe1 := by
        cases forP pg pb ps pe1 <;> rfl
      rw [e]
      cases s with
      | items ds => exact forL_ok hg hb R1 s1.len q1
      | live n =>
        obtain ⟨ds, h1, h2, h3⟩ := q1
        dsimp only
        have e1 : listAt n S1 = some ds := by simp only [listAt, h1]
        rw [e1]
        dsimp only
        have := forR_ok (lo := S.length) hg hb (ps := ps) ds.length 0 (by simp) R1 s1.len h1 h3 h2
        simpa using this
    | slot i =>
      obtain ⟨n, ps, b, k, rfl, h1, h2⟩ := q1
      obtain ⟨n', o, z1, z2, z3, z4, _⟩ := R1.li i b k _ h2
      rw [h1] at z1; cases z1
      cases z4 with
      | lst r =>
        rename_i ds
        have e1 : listAt n S1 = some ds := by simp only [listAt, z3]
        have lk : lckQ (.slot i) pe1 = some (ps, pe1.set i (some (.li b true (.lst ps)))) := by simp only [lckQ, h2]
        show OutS base S.length S1 F1 env pe1 (match listAt n S1 with
          | some xs => forR g body n xs.length 0 env S1
          | none => .fail) (match lckQ (.slot i) pe1 with
            | some (ps, pe') => unlR (.slot i) pe1 (forP pg pb ps pe')
            | none => .fail)
        rw [e1, lk]
        dsimp only
        have R2 := R1.lock h2 true
        have nu : NoU n env (pe1.set i (some (.li b true (.lst ps)))) := fun j c q g1 g2 => by
          rcases set_get g1 with ⟨_, z⟩ | ⟨ne, z⟩
          · cases z
          · exact ne (R1.nd i j _ _ _ _ _ _ n h2 z h1 g2)
        have o := forR_ok (lo := S.length) hg hb (ps := ps) ds.length 0 (by simp) R2 s1.len z3 nu r
        rw [List.drop_zero] at o
        cases k with
        | false =>
          have z := lock_out h2 o
          have e2 : unlR (.slot i) pe1 (forP pg pb ps (pe1.set i (some (.li b true (.lst ps))))) = unlF i (forP pg pb ps (pe1.set i (some (.li b true (.lst ps))))) := by
            cases forP pg pb ps (pe1.set i (some (.li b true (.lst ps)))) <;> simp only [unlR, unlQ, unlF, h2]
          rw [e2]
          exact z
        | true =>
          have e3 : pe1.set i (some (.li b true (.lst ps))) = pe1 := by
            apply List.ext_getElem?
            intro j
            by_cases e : i = j
            · subst e; rw [List.getElem?_set_self (get_lt h2), h2]
            · rw [List.getElem?_set_ne e]
          rw [e3] at o ⊢
          have e2 : unlR (.slot i) pe1 (forP pg pb ps pe1) = forP pg pb ps pe1 := by
            cases forP pg pb ps pe1 <;> simp only [unlR, unlQ, h2]
          rw [e2]
          exact o
/-! while -/
def whileP (t : PTm) (body : PSm) : Nat → PSm
  | 0 => fun _ => .fail
  | k + 1 => fun pe => (t pe).bind fun b pe => if b then (match body pe with
    | .ok .nx pe => whileP t body k pe
    | .ok .ct pe => whileP t body k pe
    | .ok .bk pe => .ok .nx pe
    | q => q) else .ok .nx pe
theorem sim_while {t : MT} {pt : PTm} {body : MS} {pb : PSm} (ht : Sim QB t pt) (hb : SimS body pb) : ∀ k, SimS (whileF t body k) (whileP pt pb k)
  | 0 => fun base S F env pe hR => trivial
  | k + 1 => fun base S F env pe hR => outE (ht base S F env pe hR) (Nat.le_refl _) fun b b' S1 F1 pe1 R1 s1 q1 => by
    cases q1
    cases b with
    | false => exact outS_nx R1
    | true =>
      rw [if_pos rfl, if_pos rfl]
      have h2 := (hb base S1 F1 env pe1 R1).low s1.len
      cases e' : pb pe1 with
      | fail => trivial
      | exc x pe2 =>
        rw [e'] at h2
        obtain ⟨e2, S2, F2, y, g0, g1, g2, g3⟩ := h2
        rw [g0]
        exact ⟨e2, S2, F2, y, rfl, g1, g2, g3⟩
      | ok fl pe2 =>
        rw [e'] at h2
        obtain ⟨e2, S2, F2, R2, s2, f2⟩ := h2
        have ih := (sim_while ht hb k base S2 F2 e2 pe2 R2).low (lo := S.length) (Nat.le_trans s1.len s2.len)
        cases fl with
        | nx => have z : body env S1 = .ok (.nx e2) S2 := f2; rw [z]; exact OutS.step s2 ih
        | ct => have z : body env S1 = .ok (.ct e2) S2 := f2; rw [z]; exact OutS.step s2 ih
        | bk => have z : body env S1 = .ok (.bk e2) S2 := f2; rw [z]; exact ⟨e2, S2, F2, R2, s2, rfl⟩
        | rt t => obtain ⟨d', z, f2⟩ := f2; rw [z]; exact ⟨e2, S2, F2, R2, s2, d', rfl, f2⟩
end Bt.Pv

set_option Elab.async false
set_option linter.all false
set_option maxRecDepth 100000
set_option maxHeartbeats 2000000
namespace Bt.Pv
open PySem PySem.Spec PyProof.Rows L2 Bt
variable {Γ : GEnv} {Ψ : PGe}

/-! ### comprehensions -/
def setsP : PEnv → List Nat → List P → PEnv
  | pe, i :: is, p :: ps => setsP (pe.set i (some (.sh p))) is ps
  | pe, _, _ => pe
def bindP (t : CTg) (p : P) (pe : PEnv) : Option PEnv := match t with
  | .one i => some (pe.set i (some (.sh p)))
  | .tup is => (match p with
    | .tup ps => if ps.length = is.length then some (setsP pe is ps) else none
    | _ => none)
def wipeP (pe : PEnv) : List Nat → PEnv
  | [] => pe
  | v :: vs => (wipeP pe vs).set v none
def restP (pe0 pe : PEnv) : List Nat → PEnv
  | [] => pe
  | v :: vs => (restP pe0 pe vs).set v (pe0.getD v none)
def noLive : Option (Option Sl) → Bool
  | some (some (.li _ _ _)) => false
  | some (some .ex) => false
  | _ => true
def lcTurnP (own : List Nat) (t : CTg) (ts : PTm) (e : PEm) (p : P) (acc : List P) (pe : PEnv) : Option (List P × PEnv) := match bindP t p pe with
  | none => none
  | some pe2 => (match ts pe2 with
    | .ok true pe3 => (match e pe3 with
      | .ok tm pe4 => (match frz tm pe4 with
        | some (y, pe5) => if acc.length < sizeLine then some (acc ++ [y], wipeP pe5 own) else none
        | none => none)
      | _ => none)
    | .ok false pe3 => some (acc, wipeP pe3 own)
    | _ => none)
def lcP (own : List Nat) (t : CTg) (ts : PTm) (e : PEm) : List P → List P → PEnv → Option (List P × PEnv)
  | [], acc, pe => some (acc, pe)
  | p :: r, acc, pe => (match lcTurnP own t ts e p acc pe with
    | some (acc', pe') => lcP own t ts e r acc' pe'
    | none => none)
def pLc (it : PIm) (own : List Nat) (t : CTg) (ts : PTm) (e : PEm) : PEm := fun pe => (it pe).bind fun q pe => match lckQ q pe with
  | some (ps, pl) => if own.all (fun v => noLive pe[v]?) then (match lcP own t ts e ps [] (wipeP pl own) with
    | some (acc, pe') => .ok (.o (.lst acc)) (unlQ q pe (restP pe pe' own))
    | none => .fail) else .fail
  | none => .fail
section
variable {pe : PEnv} {env : Env}
theorem wipeP_len : ∀ (own : List Nat), (wipeP pe own).length = pe.length
  | [] => rfl
  | v :: vs => by simp [wipeP, wipeP_len vs]
theorem wipeE_len : ∀ (own : List Nat), (wipeE env own).length = env.length
  | [] => rfl
  | v :: vs => by simp [wipeE, wipeE_len vs]
theorem wipeP_ne {i : Nat} : ∀ {own : List Nat}, i ∉ own → (wipeP pe own)[i]? = pe[i]?
  | [], _ => rfl
  | v :: vs, h => by
    simp at h
    show ((wipeP pe vs).set v none)[i]? = _
    rw [List.getElem?_set_ne (Ne.symm h.1), wipeP_ne h.2]
theorem wipeE_ne {i : Nat} : ∀ {own : List Nat}, i ∉ own → (wipeE env own)[i]? = env[i]?
  | [], _ => rfl
  | v :: vs, h => by
    simp at h
    show ((wipeE env vs).set v none)[i]? = _
    rw [List.getElem?_set_ne (Ne.symm h.1), wipeE_ne h.2]
theorem wipeP_in {i : Nat} {s : Sl} : ∀ {own : List Nat}, i ∈ own → (wipeP pe own)[i]? ≠ some (some s)
  | [], h => by cases h
  | v :: vs, h => by
    intro e
    show False
    have e' : ((wipeP pe vs).set v none)[i]? = some (some s) := e
    rcases set_get e' with ⟨_, z⟩ | ⟨ne, z⟩
    · cases z
    · rcases List.mem_cons.mp h with rfl | h
      · exact ne rfl
      · exact wipeP_in h z
theorem wipeP_get {i : Nat} {s : Sl} {own : List Nat} (h : (wipeP pe own)[i]? = some (some s)) : i ∉ own ∧ pe[i]? = some (some s) := by
  by_cases hi : i ∈ own
  · exact absurd h (wipeP_in hi)
  · rw [wipeP_ne hi] at h; exact ⟨hi, h⟩
theorem restP_len (pe0 : PEnv) : ∀ (own : List Nat), (restP pe0 pe own).length = pe.length
  | [] => rfl
  | v :: vs => by simp [restP, restP_len pe0 vs]
theorem restP_ne (pe0 : PEnv) {i : Nat} : ∀ {own : List Nat}, i ∉ own → (restP pe0 pe own)[i]? = pe[i]?
  | [], _ => rfl
  | v :: vs, h => by
    simp at h
    show ((restP pe0 pe vs).set v _)[i]? = _
    rw [List.getElem?_set_ne (Ne.symm h.1), restP_ne pe0 h.2]
theorem restP_in (pe0 : PEnv) (hl : pe0.length = pe.length) {i : Nat} : ∀ {own : List Nat}, i ∈ own → (restP pe0 pe own)[i]? = pe0[i]?
  | [], h => by cases h
  | v :: vs, h => by
    show ((restP pe0 pe vs).set v (pe0.getD v none))[i]? = _
    by_cases e : v = i
    · subst e
      by_cases hv : v < pe0.length
      · rw [List.getElem?_set_self (by rw [restP_len, ← hl]; exact hv)]
        simp [List.getD, hv]
      · rw [List.getElem?_eq_none (by simp [restP_len, ← hl]; omega), List.getElem?_eq_none (by omega)]
    · rw [List.getElem?_set_ne e]
      rcases List.mem_cons.mp h with rfl | h
      · exact absurd rfl e
      · exact restP_in pe0 hl h
end
section
variable {base lo : Nat} {S : Sto} {F : Frs} {env env' : Env} {pe pe' : PEnv}
/-- fewer slots -/
theorem _root_.Bt.R.sub (hR : R base S F env pe) (hl : env'.length = pe'.length) (h : ∀ (i : Nat) (s : Sl), pe'[i]? = some (some s) → pe[i]? = some (some s) ∧ env'[i]? = env[i]?) : R base S F env' pe' where
  len := hl
  fl := hR.fl
  bl := hR.bl
  sh := fun i p e => by obtain ⟨h1, h2⟩ := h i _ e; rw [h2]; exact hR.sh i p h1
  li := fun i b k p e => by obtain ⟨h1, h2⟩ := h i _ e; rw [h2]; exact hR.li i b k p h1
  ex := fun i e => by obtain ⟨h1, h2⟩ := h i _ e; rw [h2]; exact hR.ex i h1
  nd := fun i j b k p b' k' p' n e1 e2 e3 e4 => by
    obtain ⟨h1, h2⟩ := h i _ e1
    obtain ⟨h3, h4⟩ := h j _ e2
    rw [h2] at e3
    rw [h4] at e4
    exact hR.nd i j _ _ _ _ _ _ n h1 h3 e3 e4
/-- a cell of nobody is changed -/
theorem _root_.Bt.R.cell (hR : R base S F env pe) {k : Nat} (hk : ¬ F k) (hL : Lo k env pe) (o : Ob) : R base (S.set k o) F env pe where
  len := hR.len
  fl := fun n h => by simpa using hR.fl n h
  bl := by simpa using hR.bl
  sh := fun i p h => by obtain ⟨d, e, v⟩ := hR.sh i p h; exact ⟨d, e, v.mono (frm_set hk o)⟩
  li := fun i b k' p h => by
    obtain ⟨n, o', e1, e2, e3, e4, e5⟩ := hR.li i b k' p h
    refine ⟨n, o', e1, e2, ?_, e4.mono (frm_set hk o), e5⟩
    rw [List.getElem?_set_ne]
    · exact e3
    · rintro rfl
      exact Nat.lt_irrefl _ (hL i b k' p _ h e1)
  ex := hR.ex
  nd := hR.nd
def NL (own : List Nat) (pe : PEnv) : Prop := ∀ v ∈ own, ∀ b k p, pe[v]? ≠ some (some (.li b k p))
theorem NL.wipe (own : List Nat) (pe : PEnv) : NL own (wipeP pe own) := fun v hv b k p => wipeP_in hv
theorem NL.asg {own : List Nat} (h : NL own pe) {i : Nat} (hi : i ∈ own) : asgOk pe[i]? = true := by
  unfold asgOk
  split
  · rename_i k p e; exact absurd e (h i hi _ _ _)
  · rfl
theorem bind_set (hR : R base S F env pe) {own : List Nat} (hn : NL own pe) {i : Nat} (hi : i ∈ own) {d : D} {p : P} (hv : SV S F d p) :
    R base S F (env.set i (some d)) (pe.set i (some (.sh p))) ∧ NL own (pe.set i (some (.sh p))) ∧ ∀ j, j ∉ own → (env.set i (some d))[j]? = env[j]? ∧ (pe.set i (some (.sh p)))[j]? = pe[j]? := by
  refine ⟨(store_sh (lo := 0) hR hv (hn.asg hi)).1, fun v hv' b k q e => ?_, fun j hj => ?_⟩
  · rcases set_get e with ⟨_, z⟩ | ⟨_, z⟩
    · cases z
    · exact hn v hv' b k q z
  · have ne : i ≠ j := by rintro rfl; exact hj hi
    exact ⟨List.getElem?_set_ne ne, List.getElem?_set_ne ne⟩
theorem sets_ok {own : List Nat} : ∀ {is : List Nat} {ds : List D} {ps : List P} {env : Env} {pe : PEnv}, (∀ i ∈ is, i ∈ own) → SVs S F ds ps → R base S F env pe → NL own pe →
    R base S F (setsE env is ds) (setsP pe is ps) ∧ NL own (setsP pe is ps) ∧ ∀ j, j ∉ own → (setsE env is ds)[j]? = env[j]? ∧ (setsP pe is ps)[j]? = pe[j]?
  | [], _, _, env, pe, _, .nil, hR, hn => ⟨hR, hn, fun _ _ => ⟨rfl, rfl⟩⟩
  | [], _, _, env, pe, _, .cons _ _, hR, hn => ⟨hR, hn, fun _ _ => ⟨rfl, rfl⟩⟩
  | _ :: _, _, _, env, pe, _, .nil, hR, hn => ⟨hR, hn, fun _ _ => ⟨rfl, rfl⟩⟩
  | i :: is, _, _, env, pe, hw, .cons (d := d) (p := p) a b, hR, hn => by
    obtain ⟨r1, n1, o1⟩ := bind_set hR hn (hw i (by simp)) a
    obtain ⟨r2, n2, o2⟩ := sets_ok (is := is) (fun j hj => hw j (List.mem_cons_of_mem _ hj)) b r1 n1
    exact ⟨r2, n2, fun j hj => ⟨(o2 j hj).1.trans (o1 j hj).1, (o2 j hj).2.trans (o1 j hj).2⟩⟩
theorem bind_ok {own : List Nat} {t : CTg} (hw : t.within own) (hR : R base S F env pe) (hn : NL own pe) {d : D} {p : P} (hv : SV S F d p) {pe2 : PEnv} (e : bindP t p pe = some pe2) :
    ∃ env2, bindC t d env = some env2 ∧ R base S F env2 pe2 ∧ NL own pe2 ∧ ∀ j, j ∉ own → env2[j]? = env[j]? ∧ pe2[j]? = pe[j]? := by
  cases t with
  | one i =>
    cases e
    exact ⟨_, rfl, bind_set hR hn hw hv⟩
  | tup is =>
    cases p with
    | tup ps =>
      simp only [bindP] at e
      split at e
      · rename_i hl
        cases e
        obtain ⟨ds, rfl, r⟩ := RV.tup (.inl hv)
        refine ⟨setsE env is ds, ?_, sets_ok hw r hR hn⟩
        simp only [bindC]
        rw [if_pos (r.length.trans hl)]
      · cases e
    | _ => cases e
theorem setsE_len : ∀ (is : List Nat) (ds : List D) (env : Env), (setsE env is ds).length = env.length
  | [], ds, env => by cases ds <;> rfl
  | i :: is, [], env => rfl
  | i :: is, d :: ds, env => by simp [setsE, setsE_len is ds]
theorem setsP_len : ∀ (is : List Nat) (ds : List P) (env : PEnv), (setsP env is ds).length = env.length
  | [], ds, env => by cases ds <;> rfl
  | i :: is, [], env => rfl
  | i :: is, d :: ds, env => by simp [setsP, setsP_len is ds]
theorem bindC_len {t : CTg} {d : D} {env2 : Env} (h : bindC t d env = some env2) : env2.length = env.length := by
  cases t with
  | one i => cases h; simp
  | tup is =>
    cases d with
    | tup ds =>
      simp only [bindC] at h
      split at h
      · cases h; exact setsE_len _ _ _
      · cases h
    | _ => cases h
theorem bindP_len {t : CTg} {p : P} {pe2 : PEnv} (h : bindP t p pe = some pe2) : pe2.length = pe.length := by
  cases t with
  | one i => cases h; simp
  | tup is =>
    cases p with
    | tup ps =>
      simp only [bindP] at h
      split at h
      · cases h; exact setsP_len _ _ _
      · cases h
    | _ => cases h
/-- nothing stands in these slots -/
def NW (own : List Nat) (pe : PEnv) : Prop := ∀ v ∈ own, ∀ s, pe[v]? ≠ some (some s)
theorem NW.nl {own : List Nat} (h : NW own pe) : NL own pe := fun v hv b k p => h v hv _
theorem NW.wipe (own : List Nat) (pe : PEnv) : NW own (wipeP pe own) := fun v hv s => wipeP_in hv
/-- a step inside, seen from outside -/
theorem lc_in {own : List Nat} {k : Nat} {env2 : Env} {pe2 pe3 : PEnv} {S' : Sto} {F' : Frs} {acc : List D} (hn : NW own pe) (hL : Lo k env pe) (hk : S[k]? = some (.lst acc)) (hkf : ¬ F k) (hle : env2.length = env.length) (hlp : pe2.length = pe.length) (n2 : NL own pe2) (o2 : ∀ j, j ∉ own → env2[j]? = env[j]? ∧ pe2[j]? = pe[j]?)
    (R3 : R base S' F' env2 pe3) (s3 : StE S.length S F env2 pe2 S' F' pe3) : (S'[k]? = some (.lst acc) ∧ ¬ F' k) ∧ R base S' F' env (wipeP pe3 own) ∧ StE k S F env pe S' F' (wipeP pe3 own) := by
  have kl : k < S.length := get_lt hk
  have L2 : Lo k env2 pe2 := fun i b k' q n g1 g2 => by
    by_cases hi : i ∈ own
    · exact absurd g1 (n2 i hi _ _ _)
    · rw [(o2 i hi).1] at g2; rw [(o2 i hi).2] at g1; exact hL i b k' q n g1 g2
  refine ⟨⟨(s3.fm k kl fun i b q g1 g2 => ?_).trans hk, fun hf => ?_⟩, R3.sub ?_ ?_, ⟨s3.len, s3.fr, fun n h1 h2 => ?_, s3.fm2, fun n h1 h2 => ?_, ?_, fun i b k' q g => ?_, fun i k' q g => ?_, fun i q g => ?_⟩⟩
  · exact Nat.lt_irrefl _ (L2 i b false q k g1 g2)
  · rcases s3.fz k kl hf with z | ⟨i, k', q, g1, g2⟩
    · exact hkf z
    · exact Nat.lt_irrefl _ (L2 i false k' q k g1 g2)
  · rw [wipeP_len, ← R3.len, hle]
  · intro i s g
    obtain ⟨g1, g2⟩ := wipeP_get g
    exact ⟨g2, (o2 i g1).1.symm⟩
  · refine s3.fm n (Nat.lt_trans h1 kl) fun i b q g1 g2 => ?_
    by_cases hi : i ∈ own
    · exact n2 i hi _ _ _ g1
    · rw [(o2 i hi).1] at g2; rw [(o2 i hi).2] at g1; exact h2 i b q g1 g2
  · rcases s3.fz n (Nat.lt_trans h1 kl) h2 with z | ⟨i, k', q, g1, g2⟩
    · exact .inl z
    · by_cases hi : i ∈ own
      · exact absurd g1 (n2 i hi _ _ _)
      · rw [(o2 i hi).1] at g2; rw [(o2 i hi).2] at g1; exact .inr ⟨i, k', q, g1, g2⟩
  · rw [wipeP_len, s3.pl, hlp]
  · obtain ⟨g1, g2⟩ := wipeP_get g
    obtain ⟨q', g3⟩ := s3.al i b k' q g2
    rw [(o2 i g1).2] at g3
    exact ⟨q', g3⟩
  · have hi : i ∉ own := fun hi => hn i hi _ g
    obtain ⟨q', g3⟩ := s3.bo i k' q (by rw [(o2 i hi).2]; exact g)
    exact ⟨q', by rw [wipeP_ne hi]; exact g3⟩
  · have hi : i ∉ own := fun hi => by
      rcases slV_cases g with z | ⟨_, _, z⟩
      · exact hn i hi _ z
      · exact hn i hi _ z
    obtain ⟨q', g3⟩ := s3.vs i q (by rw [(o2 i hi).2]; exact g)
    exact ⟨q', by rw [wipeP_ne hi]; exact g3⟩
/-- one turn -/
theorem lcTurn_ok {own : List Nat} {t : CTg} (hw : t.within own) {ts : MT} {pts : PTm} {e : ME} {pm : PEm} (hts : Sim QB ts pts) (he : Sim QD e pm) {k : Nat} (hR : R base S F env pe) (hn : NW own pe) (hL : Lo k env pe) {acc : List D} {pacc : List P} (hk : S[k]? = some (.lst acc)) (hkf : ¬ F k) (ha : SVs S F acc pacc)
    {d : D} {p : P} (hv : SV S F d p) {pacc' : List P} {pe' : PEnv} (h : lcTurnP own t pts pm p pacc pe = some (pacc', pe')) :
    ∃ S' F' acc', (∀ next, lcTurn k t ts e d env S next = next S') ∧ R base S' F' env pe' ∧ NW own pe' ∧ S'[k]? = some (.lst acc') ∧ SVs S' F' acc' pacc' ∧ ¬ F' k ∧ StE k S F env pe S' F' pe' := by
  unfold lcTurnP at h
  cases e1 : bindP t p pe with
  | none => rw [e1] at h; cases h
  | some pe2 =>
    rw [e1] at h
    dsimp only at h
    obtain ⟨env2, b1, R2, n2, o2⟩ := bind_ok hw hR hn.nl hv e1
    have o1 := hts base S F env2 pe2 R2
    cases e2 : pts pe2 with
    | fail => rw [e2] at h; cases h
    | exc x pe3 => rw [e2] at h; cases h
    | ok b pe3 =>
      rw [e2] at h o1
      obtain ⟨a, S3, F3, g1, R3, s3, qb⟩ := o1
      cases qb
      cases b with
      | false =>
        cases h
        obtain ⟨⟨k1, k2⟩, R4, s4⟩ := lc_in hn hL hk hkf (bindC_len b1) (bindP_len e1) n2 o2 R3 s3
        exact ⟨S3, F3, acc, fun next => by simp only [lcTurn, b1, g1], R4, NW.wipe _ _, k1, ha.mono s4.frm, k2, s4⟩
      | true =>
        dsimp only at h
        have o3 := he base S3 F3 env2 pe3 R3
        cases e3 : pm pe3 with
        | fail => rw [e3] at h; cases h
        | exc x pe4 => rw [e3] at h; cases h
        | ok tm pe4 =>
          rw [e3] at h o3
          dsimp only at h
          obtain ⟨y, S4, F4, g2, R4, s4, qd⟩ := o3
          cases e4 : frz tm pe4 with
          | none => rw [e4] at h; cases h
          | some q =>
            obtain ⟨yp, pe5⟩ := q
            rw [e4] at h
            dsimp only at h
            split at h
            · rename_i hl
              cases h
              obtain ⟨F5, R5, s5, v5⟩ := frz_ok R4 (s4.lows R3.lo) qd e4
              have st := s3.trans ((s4.trans s5).low s3.len)
              obtain ⟨⟨k1, k2⟩, R6, s6⟩ := lc_in hn hL hk hkf (bindC_len b1) (bindP_len e1) n2 o2 R5 st
              have hL6 := s6.lows hL
              have fm6 : FrM S4 F5 (S4.set k (.lst (acc ++ [y]))) F5 := frm_set k2 _
              refine ⟨S4.set k (.lst (acc ++ [y])), F5, acc ++ [y], fun next => ?_, R6.cell k2 hL6 _, NW.wipe _ _, ?_, ?_, k2, ?_⟩
              · simp only [lcTurn, b1, g1, g2, appD, k1]
                rw [if_pos (by rw [ha.length]; exact hl)]
              · rw [List.getElem?_set_self (get_lt k1)]
              · exact ((ha.mono s6.frm).append (.cons v5 .nil)).mono fm6
              · refine { s6 with len := by simpa using s6.len, fm := fun n h1 h2 => ?_, fm2 := fun n h1 => ?_ }
                · rw [List.getElem?_set_ne (by omega)]; exact s6.fm n h1 h2
                · rw [List.getElem?_set_ne (by rintro rfl; exact hkf h1)]; exact s6.fm2 n h1
            · cases h
theorem lcL_ok {own : List Nat} {t : CTg} (hw : t.within own) {ts : MT} {pts : PTm} {e : ME} {pm : PEm} (hts : Sim QB ts pts) (he : Sim QD e pm) {k : Nat} :
    ∀ {ds : List D} {ps : List P} {S : Sto} {F : Frs} {pe : PEnv} {acc : List D} {pacc pacc' : List P} {pe' : PEnv}, SVs S F ds ps → R base S F env pe → NW own pe → Lo k env pe → S[k]? = some (.lst acc) → ¬ F k → SVs S F acc pacc → lcP own t pts pm ps pacc pe = some (pacc', pe') →
    ∃ S' F' acc', lcL k t ts e env ds S = .ok () S' ∧ R base S' F' env pe' ∧ NW own pe' ∧ S'[k]? = some (.lst acc') ∧ SVs S' F' acc' pacc' ∧ ¬ F' k ∧ StE k S F env pe S' F' pe'
  | _, _, S, F, pe, acc, _, _, _, .nil, hR, hn, hL, hk, hf, ha, h => by
    cases h
    exact ⟨S, F, acc, rfl, hR, hn, hk, ha, hf, StE.refl _ _ _ _ _⟩
  | _, _, S, F, pe, acc, pacc, pacc', pe', .cons (p := p) a b, hR, hn, hL, hk, hf, ha, h => by
    unfold lcP at h
    cases e1 : lcTurnP own t pts pm p pacc pe with
    | none => rw [e1] at h; cases h
    | some q =>
      obtain ⟨acc1, pe1⟩ := q
      rw [e1] at h
      dsimp only at h
      obtain ⟨S1, F1, acc2, g1, R1, n1, k1, a1, f1, s1⟩ := lcTurn_ok hw hts he hR hn hL hk hf ha a e1
      obtain ⟨S2, F2, acc3, g2, R2, n2, k2, a2, f2, s2⟩ := lcL_ok hw hts he (b.mono s1.frm) R1 n1 (s1.lows hL) k1 f1 a1 h
      exact ⟨S2, F2, acc3, by show lcTurn _ _ _ _ _ _ _ _ = _; rw [g1]; exact g2, R2, n2, k2, a2, f2, s1.trans s2⟩
theorem NoU.stepE {n lo : Nat} {S1 : Sto} {F1 : Frs} {pe1 : PEnv} (h : NoU n env pe) (s : StE lo S F env pe S1 F1 pe1) : NoU n env pe1 := fun i b p g1 g2 => by
  obtain ⟨q, z⟩ := s.al i b false p g1
  exact h i b q z g2
theorem lcR_ok {own : List Nat} {t : CTg} (hw : t.within own) {ts : MT} {pts : PTm} {e : ME} {pm : PEm} (hts : Sim QB ts pts) (he : Sim QD e pm) {k n : Nat} (hnk : n < k) {ds : List D} {ps : List P} :
    ∀ (m i : Nat) {S : Sto} {F : Frs} {pe : PEnv} {acc : List D} {pacc pacc' : List P} {pe' : PEnv}, i + m = ds.length → SVs S F ds ps → S[n]? = some (.lst ds) → NoU n env pe → R base S F env pe → NW own pe → Lo k env pe → S[k]? = some (.lst acc) → ¬ F k → SVs S F acc pacc → lcP own t pts pm (ps.drop i) pacc pe = some (pacc', pe') →
    ∃ S' F' acc', lcR k t ts e env n m i S = .ok () S' ∧ R base S' F' env pe' ∧ NW own pe' ∧ S'[k]? = some (.lst acc') ∧ SVs S' F' acc' pacc' ∧ ¬ F' k ∧ StE k S F env pe S' F' pe'
  | 0, i, S, F, pe, acc, _, _, _, hi, hv, hd, hu, hR, hn, hL, hk, hf, ha, h => by
    rw [List.drop_eq_nil_of_le (by rw [← hv.length]; omega)] at h
    cases h
    refine ⟨S, F, acc, ?_, hR, hn, hk, ha, hf, StE.refl _ _ _ _ _⟩
    simp only [lcR, listAt, hd]
    rw [if_pos (by omega)]
  | m + 1, i, S, F, pe, acc, pacc, pacc', pe', hi, hv, hd, hu, hR, hn, hL, hk, hf, ha, h => by
    have hlt : i < ps.length := by rw [← hv.length]; omega
    obtain ⟨d, hd', sv⟩ := hv.get (i := i) (p := ps[i]) (by simp [hlt])
    rw [List.drop_eq_getElem_cons hlt] at h
    unfold lcP at h
    cases e1 : lcTurnP own t pts pm ps[i] pacc pe with
    | none => rw [e1] at h; cases h
    | some q =>
      obtain ⟨acc1, pe1⟩ := q
      rw [e1] at h
      dsimp only at h
      obtain ⟨S1, F1, acc2, g1, R1, n1, k1, a1, f1, s1⟩ := lcTurn_ok hw hts he hR hn hL hk hf ha sv e1
      obtain ⟨S2, F2, acc3, g2, R2, n2, k2, a2, f2, s2⟩ := lcR_ok hw hts he hnk m (i + 1) (by omega) (hv.mono s1.frm) ((s1.fm n hnk hu).trans hd) (hu.stepE s1) R1 n1 (s1.lows hL) k1 f1 a1 h
      refine ⟨S2, F2, acc3, ?_, R2, n2, k2, a2, f2, s1.trans s2⟩
      have ee : lcR k t ts e env n (m + 1) i S = lcTurn k t ts e d env S (lcR k t ts e env n m (i + 1)) := by
        conv => lhs; unfold lcR
        simp only [listAt, hd, hd']
      rw [ee, g1]
      exact g2
/-- a comprehension over what does not change -/
theorem lc_core {own : List Nat} {t : CTg} (hw : t.within own) {ts : MT} {pts : PTm} {e : ME} {pm : PEm} (hts : Sim QB ts pts) (he : Sim QD e pm) (hR : R base S F env pe) (hl : lo ≤ S.length) {s : Sq} {ps : List P} (hq : QI S F env pe lo s (.items ps)) (ho : own.all (fun v => noLive pe[v]?) = true)
    {acc : List P} {pe1 : PEnv} (h : lcP own t pts pm ps [] (wipeP pe own) = some (acc, pe1)) :
    ∃ S' F', (match (match s with
        | .items ds => lcL S.length t ts e (wipeE env own) ds (S ++ [.lst []])
        | .live n => match listAt n S with
          | some xs => lcR S.length t ts e (wipeE env own) n xs.length 0 (S ++ [.lst []])
          | none => .fail : Rs Unit) with
      | .ok _ S' => .ok (.ref S.length) S'
      | _ => .fail) = (.ok (.ref S.length) S' : Rs D) ∧ R base S' F' env (restP pe pe1 own) ∧ StE lo S F env pe S' F' (restP pe pe1 own) ∧ TmR S' F' env (restP pe pe1 own) lo (.ref S.length) (.o (.lst acc)) := by
  have hle : (wipeE env own).length = (wipeP pe own).length := by rw [wipeE_len, wipeP_len]; exact hR.len
  have R1 : R base (S ++ [.lst []]) F (wipeE env own) (wipeP pe own) := (hR.app _).sub hle fun i x g => by
    obtain ⟨g1, g2⟩ := wipeP_get g
    exact ⟨g2, wipeE_ne g1⟩
  have L1 : Lo S.length (wipeE env own) (wipeP pe own) := fun i b k p n g1 g2 => by
    obtain ⟨z1, z2⟩ := wipeP_get g1
    rw [wipeE_ne z1] at g2
    exact hR.lo i b k p n z2 g2
  have k1 : (S ++ [Ob.lst []])[S.length]? = some (.lst []) := app_new
  have f1 : ¬ F S.length := fun hf => Nat.lt_irrefl _ (hR.fl _ hf)
  have fa := frm_app S [.lst []] F hR.fl
  have main : ∀ (r : Rs Unit), (∃ S' F' acc', r = .ok () S' ∧ R base S' F' (wipeE env own) pe1 ∧ NW own pe1 ∧ S'[S.length]? = some (.lst acc') ∧ SVs S' F' acc' acc ∧ ¬ F' S.length ∧ StE S.length (S ++ [.lst []]) F (wipeE env own) (wipeP pe own) S' F' pe1) →
      ∃ S' F', (match r with
      | .ok _ S' => .ok (.ref S.length) S'
      | _ => .fail) = (.ok (.ref S.length) S' : Rs D) ∧ R base S' F' env (restP pe pe1 own) ∧ StE lo S F env pe S' F' (restP pe pe1 own) ∧ TmR S' F' env (restP pe pe1 own) lo (.ref S.length) (.o (.lst acc)) := by
    rintro r ⟨S', F', acc', rfl, R2, n2, k2, a2, f2, s2⟩
    have hpl : pe.length = pe1.length := by rw [s2.pl, wipeP_len]
    have fr2 : FrM S F S' F' := fa.trans s2.frm
    have nl : ∀ (i : Nat) (b k : Bool) (p : P), pe[i]? = some (some (.li b k p)) → i ∉ own := fun i b k p g hi => by
      have := List.all_eq_true.mp ho i hi
      rw [g] at this; cases this
    have nx : ∀ (i : Nat), pe[i]? = some (some .ex) → i ∉ own := fun i g hi => by
      have := List.all_eq_true.mp ho i hi
      rw [g] at this; cases this
    have at_ : ∀ (i : Nat) (x : Sl), (restP pe pe1 own)[i]? = some (some x) → (i ∈ own ∧ pe[i]? = some (some x)) ∨ (i ∉ own ∧ pe1[i]? = some (some x)) := fun i x g => by
      by_cases hi : i ∈ own
      · rw [restP_in pe hpl hi] at g; exact .inl ⟨hi, g⟩
      · rw [restP_ne pe hi] at g; exact .inr ⟨hi, g⟩
    refine ⟨S', F', rfl, ⟨by rw [restP_len, ← hpl]; exact hR.len, R2.fl, R2.bl, fun i p g => ?_, fun i b k p g => ?_, fun i g => ?_, fun i j b k p b' k' p' n g1 g2 g3 g4 => ?_⟩, ⟨?_, fun n h => s2.fr n h, fun n h1 h2 => ?_, fun n h1 => (fr2 n h1).2, fun n h1 h2 => ?_, by rw [restP_len, ← hpl], fun i b k p g => ?_, fun i k p g => ?_, fun i p g => ?_⟩, _, _, rfl, hl, f2, k2, .lst a2⟩
    · rcases at_ i _ g with ⟨hi, z⟩ | ⟨hi, z⟩
      · obtain ⟨d, y1, y2⟩ := hR.sh i p z
        exact ⟨d, y1, y2.mono fr2⟩
      · obtain ⟨d, y1, y2⟩ := R2.sh i p z
        rw [wipeE_ne hi] at y1
        exact ⟨d, y1, y2⟩
    · rcases at_ i _ g with ⟨hi, z⟩ | ⟨hi, z⟩
      · exact absurd hi (nl i _ _ _ z)
      · obtain ⟨n, o, y1, y2⟩ := R2.li i b k p z
        rw [wipeE_ne hi] at y1
        exact ⟨n, o, y1, y2⟩
    · rcases at_ i _ g with ⟨hi, z⟩ | ⟨hi, z⟩
      · exact absurd hi (nx i z)
      · have := R2.ex i z
        rw [wipeE_ne hi] at this
        exact this
    · rcases at_ i _ g1 with ⟨hi, z⟩ | ⟨hi, z⟩
      · exact absurd hi (nl i _ _ _ z)
      · rcases at_ j _ g2 with ⟨hj, z'⟩ | ⟨hj, z'⟩
        · exact absurd hj (nl j _ _ _ z')
        · exact R2.nd i j _ _ _ _ _ _ n z z' (by rw [wipeE_ne hi]; exact g3) (by rw [wipeE_ne hj]; exact g4)
    · have := s2.len
      simp at this
      omega
    · rw [s2.fm n (Nat.lt_of_lt_of_le h1 hl) fun i b p g1 g2 => ?_]
      · exact List.getElem?_append_left (Nat.lt_of_lt_of_le h1 hl)
      · obtain ⟨z1, z2⟩ := wipeP_get g1
        rw [wipeE_ne z1] at g2
        exact h2 i b p z2 g2
    · rcases s2.fz n (Nat.lt_of_lt_of_le h1 hl) h2 with z | ⟨i, k, p, g1, g2⟩
      · exact .inl z
      · obtain ⟨z1, z2⟩ := wipeP_get g1
        rw [wipeE_ne z1] at g2
        exact .inr ⟨i, k, p, z2, g2⟩
    · rcases at_ i _ g with ⟨hi, z⟩ | ⟨hi, z⟩
      · exact ⟨_, z⟩
      · obtain ⟨q, y⟩ := s2.al i b k p z
        rw [wipeP_ne hi] at y
        exact ⟨q, y⟩
    · have hi := nl i _ _ _ g
      obtain ⟨q, y⟩ := s2.bo i k p (by rw [wipeP_ne hi]; exact g)
      exact ⟨q, by rw [restP_ne pe hi]; exact y⟩
    · by_cases hi : i ∈ own
      · exact ⟨p, by rw [restP_in pe hpl hi]; exact g⟩
      · obtain ⟨q, y⟩ := s2.vs i p (by rw [wipeP_ne hi]; exact g)
        exact ⟨q, by rw [restP_ne pe hi]; exact y⟩
  cases s with
  | items ds =>
    have hv : SVs S F ds ps := hq
    exact main _ (lcL_ok hw hts he (hv.mono fa) R1 (NW.wipe _ _) L1 k1 f1 .nil h)
  | live n =>
    obtain ⟨ds, z1, z2, z3⟩ := hq
    have e1 : listAt n S = some ds := by simp only [listAt, z1]
    dsimp only
    rw [e1]
    dsimp only
    refine main _ (lcR_ok hw hts he (get_lt z1) ds.length 0 (by simp) (z2.mono fa) (app_at z1) (fun i b p g1 g2 => ?_) R1 (NW.wipe _ _) L1 k1 f1 .nil (by rw [List.drop_zero]; exact h))
    obtain ⟨y1, y2⟩ := wipeP_get g1
    rw [wipeE_ne y1] at g2
    exact z3 i b p y2 g2
theorem lock_stepE {i : Nat} {b : Bool} {p : P} (h : pe[i]? = some (some (.li b false p))) {S' : Sto} {F' : Frs} {pe' : PEnv} (s : StE lo S F env (pe.set i (some (.li b true p))) S' F' pe') : StE lo S F env pe S' F' (unl i pe') where
  len := s.len
  fr := s.fr
  fm := fun n h1 h2 => s.fm n h1 fun j c q g1 g2 => by
    rcases set_get g1 with ⟨rfl, z⟩ | ⟨_, z⟩
    · cases z
    · exact h2 j c q z g2
  fm2 := s.fm2
  fz := fun n h1 h2 => by
    rcases s.fz n h1 h2 with z | ⟨j, k, q, g1, g2⟩
    · exact .inl z
    · rcases set_get g1 with ⟨rfl, z⟩ | ⟨_, z⟩
      · cases z; exact .inr ⟨_, _, _, h, g2⟩
      · exact .inr ⟨j, k, q, z, g2⟩
  pl := by rw [unl_len, s.pl]; simp
  al := fun j c k q g1 => by
    rcases unl_get g1 with z | ⟨rfl, c', p', z1, z2⟩
    · obtain ⟨q', y1⟩ := s.al j c k q z
      rcases set_get y1 with ⟨rfl, w⟩ | ⟨_, w⟩
      · cases w
        exfalso
        have : (unl i pe')[i]? = some (some (.li b false q)) := by
          unfold unl
          rw [z]
          dsimp only
          rw [List.getElem?_set_self (get_lt z)]
        rw [g1] at this; cases this
      · exact ⟨q', w⟩
    · cases z2
      obtain ⟨q', y1⟩ := s.al i c true q z1
      rcases set_get y1 with ⟨_, w⟩ | ⟨ne, _⟩
      · cases w; exact ⟨_, h⟩
      · exact absurd rfl ne
  bo := fun j k q g => by
    by_cases e : i = j
    · subst e
      rw [h] at g; cases g
      obtain ⟨q', y1⟩ := s.bo i true p (by rw [List.getElem?_set_self (get_lt h)])
      refine ⟨q', ?_⟩
      unfold unl
      rw [y1]
      dsimp only
      rw [List.getElem?_set_self (get_lt y1)]
    · obtain ⟨q', y1⟩ := s.bo j k q (by rw [List.getElem?_set_ne e]; exact g)
      refine ⟨q', ?_⟩
      rcases unl_at (i := i) y1 with z | ⟨z, _⟩
      · exact z
      · exact absurd z e
  vs := fun j q g => by
    have : ∃ q, slV (pe.set i (some (.li b true p)))[j]? = some q := by
      by_cases e : i = j
      · subst e; exact ⟨p, by rw [List.getElem?_set_self (get_lt h)]; rfl⟩
      · exact ⟨q, by rw [List.getElem?_set_ne e]; exact g⟩
    obtain ⟨q1, g1⟩ := this
    obtain ⟨q2, g2⟩ := s.vs j q1 g1
    exact ⟨q2, slV_unl g2⟩
end
theorem sim_lc {it : MI} {pit : PIm} {own : List Nat} {t : CTg} (hw : t.within own) {ts : MT} {pts : PTm} {e : ME} {pm : PEm} (hi : Sim QI it pit) (hts : Sim QB ts pts) (he : Sim QD e pm) : Sim QD (mLc it own t ts e) (pLc pit own t pts pm) := fun base S F env pe hR =>
  (hi base S F env pe hR).bind (Nat.le_refl _) fun s q S1 F1 pe1 R1 s1 q1 => by
    cases q with
    | items ps =>
      show Out QD base S.length S1 F1 env pe1 _ (if own.all (fun v => noLive pe1[v]?) then _ else _)
      by_cases ho : own.all (fun v => noLive pe1[v]?) = true
      · rw [if_pos ho]
        cases h : lcP own t pts pm ps [] (wipeP pe1 own) with
        | none => trivial
        | some r =>
          obtain ⟨acc, pe2⟩ := r
          obtain ⟨S', F', g1, g2, g3, g4⟩ := lc_core hw hts he R1 s1.len q1 ho h
          exact ⟨_, S', F', g1, g2, g3, g4⟩
      · rw [if_neg ho]; trivial
    | slot i =>
      obtain ⟨n, ps, b, k, rfl, h1, h2⟩ := q1
      have lk : lckQ (.slot i) pe1 = some (ps, pe1.set i (some (.li b true (.lst ps)))) := by simp only [lckQ, h2]
      simp only [lk]
      by_cases ho : own.all (fun v => noLive pe1[v]?) = true
      · rw [if_pos ho]
        cases h : lcP own t pts pm ps [] (wipeP (pe1.set i (some (.li b true (.lst ps)))) own) with
        | none => trivial
        | some r =>
          obtain ⟨acc, pe2⟩ := r
          have hio : i ∉ own := fun hi => by
            have := List.all_eq_true.mp ho i hi
            rw [h2] at this; cases this
          have ho' : own.all (fun v => noLive (pe1.set i (some (.li b true (.lst ps))))[v]?) = true := by
            rw [List.all_eq_true] at ho ⊢
            intro v hv
            rw [List.getElem?_set_ne (by rintro rfl; exact hio hv)]
            exact ho v hv
          obtain ⟨n', o, z1, z2, z3, z4, _⟩ := R1.li i b k _ h2
          rw [h1] at z1; cases z1
          cases z4 with
          | lst rr =>
            rename_i ds
            have R2 := R1.lock h2 true
            have qi : QI S1 F1 env (pe1.set i (some (.li b true (.lst ps)))) S.length (.live n) (.items ps) := ⟨ds, z3, rr, fun j c q g1 g2 => by
              rcases set_get g1 with ⟨_, z⟩ | ⟨ne, z⟩
              · cases z
              · exact ne (R1.nd i j _ _ _ _ _ _ n h2 z h1 g2)⟩
            obtain ⟨S', F', g1, g2, g3, g4⟩ := lc_core hw hts he R2 s1.len qi ho' h
            have er : restP (pe1.set i (some (.li b true (.lst ps)))) pe2 own = restP pe1 pe2 own := by
              have gen : ∀ own : List Nat, i ∉ own → restP (pe1.set i (some (.li b true (.lst ps)))) pe2 own = restP pe1 pe2 own := by
                intro own
                induction own with
                | nil => intro _; rfl
                | cons v vs ih =>
                  intro hv
                  simp at hv
                  show (restP _ pe2 vs).set v _ = (restP pe1 pe2 vs).set v _
                  rw [ih hv.2]
                  congr 1
                  simp only [List.getD]
                  rw [List.getElem?_set_ne hv.1]
              exact gen own hio
            rw [er] at g2 g3 g4
            cases k with
            | false =>
              have eu : unlQ (.slot i) pe1 (restP pe1 pe2 own) = unl i (restP pe1 pe2 own) := by simp only [unlQ, h2]
              dsimp only
              rw [eu]
              exact ⟨_, S', F', g1, g2.unl i, lock_stepE h2 g3, g4.unl⟩
            | true =>
              have eu : unlQ (.slot i) pe1 (restP pe1 pe2 own) = restP pe1 pe2 own := by simp only [unlQ, h2]
              have e3 : pe1.set i (some (.li b true (.lst ps))) = pe1 := by
                apply List.ext_getElem?
                intro j
                by_cases e : i = j
                · subst e; rw [List.getElem?_set_self (get_lt h2), h2]
                · rw [List.getElem?_set_ne e]
              rw [e3] at g3
              dsimp only
              rw [eu]
              exact ⟨_, S', F', g1, g2, g3, g4⟩
      · rw [if_neg ho]; trivial
end Bt.Pv

set_option Elab.async false
set_option linter.all false
set_option maxRecDepth 100000
set_option maxHeartbeats 2000000
namespace Bt.Pv
open PySem PySem.Spec PyProof.Rows L2 Bt
variable {Γ : GEnv} {Ψ : PGe}

/-! ### raise -/
theorem zip_rel {S : Sto} {F : Frs} : ∀ {ns : List Str} {ds : List D} {ps : List P}, SVs S F ds ps → (ns.zip ds).map (·.1) = (ns.zip ps).map (·.1) ∧ SVs S F ((ns.zip ds).map (·.2)) ((ns.zip ps).map (·.2))
  | [], _, _, _ => ⟨rfl, .nil⟩
  | n :: ns, _, _, .nil => ⟨rfl, .nil⟩
  | n :: ns, _, _, .cons a b => by
    obtain ⟨h1, h2⟩ := zip_rel (ns := ns) b
    exact ⟨by simpa using h1, .cons a h2⟩
def pRaise (c : Str) (ns : List Str) (m : PAm) : PSm := fun pe => (m [] pe).bind fun as pe => match shsA as with
  | some ps => if ps.length = ns.length then .exc ⟨c, (ns.zip ps).reverse⟩ pe else .fail
  | none => .fail
def pRaiseT (c : Str) : PSm := fun pe => .exc ⟨c, []⟩ pe
theorem seqA_eq (r : Rs (List D)) (env : Env) (f : List D → Sto → Rs Fl) : seqA r env f = seqE r env f := by cases r <;> rfl
theorem sim_raise {c : Str} {ns : List Str} {m : MA} {p : PAm} (h : SimA m p) : SimS (sRaise c ns m) (pRaise c ns p) := fun base S F env pe hR => by
  unfold sRaise
  rw [seqA_eq]
  refine outE (h [] base S F env pe hR) (Nat.le_refl _) fun ds as S1 F1 pe1 R1 s1 q1 => ?_
  cases e : shsA as with
  | none => trivial
  | some ps =>
    have r := shs_ok q1 e
    dsimp only
    by_cases hl : ps.length = ns.length
    · rw [if_pos hl, if_pos (r.length.trans hl)]
      obtain ⟨h1, h2⟩ := zip_rel (ns := ns) r
      refine ⟨env, S1, F1, _, rfl, R1, StS.refl _ _ _ _ _, rfl, ?_, ?_⟩
      · simpa using h1
      · simpa using h2.reverse
    · rw [if_neg hl]; trivial
theorem sim_raiseT (c : Str) : SimS (sRaiseT c) (pRaiseT c) := fun base S F env pe hR => ⟨env, S, F, _, rfl, hR, StS.refl _ _ _ _ _, rfl, rfl, .nil⟩
/-! ### try -/
section
variable {base lo : Nat} {S : Sto} {F : Frs} {env : Env} {pe : PEnv}
theorem store_ex (hR : R base S F env pe) {i : Nat} (hi : asgOk pe[i]? = true) : R base S F (env.set i (some .exc)) (pe.set i (some .ex)) ∧ StS lo S F env pe S F (env.set i (some .exc)) (pe.set i (some .ex)) := by
  have oth : ∀ (j : Nat) (x : Sl), (pe.set i (some .ex))[j]? = some (some x) → x ≠ .ex → i ≠ j ∧ pe[j]? = some (some x) := by
    intro j x h hx
    rcases set_get h with ⟨rfl, z⟩ | z
    · cases z; exact absurd rfl hx
    · exact z
  refine ⟨⟨by simp [hR.len], hR.fl, hR.bl, fun j q hj => ?_, fun j b k q hj => ?_, fun j hj => ?_, fun a c c1 c2 c3 c4 c5 c6 m ha hb h1 h2 => ?_⟩, ⟨Nat.le_refl _, fun _ h => h, fun _ _ _ => rfl, fun _ _ => rfl, fun _ _ h => .inl h, by simp, fun j b k q n hj he => ?_, fun j k q hj => ?_⟩⟩
  · obtain ⟨ne, z⟩ := oth j _ hj (fun e => by cases e)
    rw [List.getElem?_set_ne ne]; exact hR.sh j q z
  · obtain ⟨ne, z⟩ := oth j _ hj (fun e => by cases e)
    rw [List.getElem?_set_ne ne]; exact hR.li j b k q z
  · rcases set_get hj with ⟨rfl, _⟩ | ⟨ne, z⟩
    · have hl : i < env.length := by rw [hR.len]; have := get_lt hj; simpa using this
      rw [List.getElem?_set_self hl]
    · rw [List.getElem?_set_ne ne]; exact hR.ex j z
  · obtain ⟨ne, za⟩ := oth a _ ha (fun e => by cases e)
    obtain ⟨ne', zb⟩ := oth c _ hb (fun e => by cases e)
    rw [List.getElem?_set_ne ne] at h1
    rw [List.getElem?_set_ne ne'] at h2
    exact hR.nd a c _ _ _ _ _ _ m za zb h1 h2
  · obtain ⟨ne, z⟩ := oth j _ hj (fun e => by cases e)
    rw [List.getElem?_set_ne ne] at he
    exact .inl ⟨q, z, he⟩
  · have ne : i ≠ j := by
      rintro rfl
      rw [hj] at hi; cases hi
    exact ⟨q, by rw [List.getElem?_set_ne ne]; exact hj, by rw [List.getElem?_set_ne ne]⟩
theorem store_none (hR : R base S F env pe) {i : Nat} (hi : asgOk pe[i]? = true) : R base S F (env.set i none) (pe.set i none) ∧ StS lo S F env pe S F (env.set i none) (pe.set i none) := by
  have oth : ∀ (j : Nat) (x : Sl), (pe.set i none)[j]? = some (some x) → i ≠ j ∧ pe[j]? = some (some x) := by
    intro j x h
    rcases set_get h with ⟨rfl, z⟩ | z
    · cases z
    · exact z
  refine ⟨hR.sub (by simp [hR.len]) fun j x g => ?_, ⟨Nat.le_refl _, fun _ h => h, fun _ _ _ => rfl, fun _ _ => rfl, fun _ _ h => .inl h, by simp, fun j b k q n hj he => ?_, fun j k q hj => ?_⟩⟩
  · obtain ⟨ne, z⟩ := oth j x g
    exact ⟨z, by rw [List.getElem?_set_ne ne]⟩
  · obtain ⟨ne, z⟩ := oth j _ hj
    rw [List.getElem?_set_ne ne] at he
    exact .inl ⟨q, z, he⟩
  · have ne : i ≠ j := by
      rintro rfl
      rw [hj] at hi; cases hi
    exact ⟨q, by rw [List.getElem?_set_ne ne]; exact hj, by rw [List.getElem?_set_ne ne]⟩
end
def wipeQ (i : Nat) : PR PFl → PR PFl
  | .ok (.rt t) pe => .ok (.rt t) pe
  | .ok .nx pe => if asgOk pe[i]? then .ok .nx (pe.set i none) else .fail
  | .ok .bk pe => if asgOk pe[i]? then .ok .bk (pe.set i none) else .fail
  | .ok .ct pe => if asgOk pe[i]? then .ok .ct (pe.set i none) else .fail
  | _ => .fail
def pTryAs (mt : Str → Option Bool) (i : Nat) (body : PSm) (suite : PX → PSm) : PSm := fun pe => match body pe with
  | .exc x pe' => (match mt x.c with
    | some true => if asgOk pe'[i]? then wipeQ i (suite x (pe'.set i (some .ex))) else .fail
    | some false => .exc x pe'
    | none => .fail)
  | q => q
def noXq : PR PFl → PR PFl
  | .exc _ _ => .fail
  | q => q
def pTry (mt : Str → Option Bool) (body : PSm) (suite : PX → PSm) : PSm := fun pe => match body pe with
  | .exc x pe' => (match mt x.c with
    | some true => noXq (suite x pe')
    | some false => .exc x pe'
    | none => .fail)
  | q => q
def SimSX (x : Exc) (y : PX) (m : MS) (p : PSm) : Prop := ∀ base S F env pe, R base S F env pe → XR S F x y → OutS base S.length S F env pe (m env S) (p pe)
def SimEX {α β : Type} (x : Exc) (y : PX) (Q : RelP α β) (m : Env → Sto → Rs α) (p : PEnv → PR β) : Prop := ∀ base S F env pe, R base S F env pe → XR S F x y → Out Q base S.length S F env pe (m env S) (p pe)
theorem wipe_out {base lo : Nat} {S : Sto} {F : Frs} {env : Env} {pe : PEnv} {i : Nat} {r : Rs Fl} {q : PR PFl} (h : OutS base lo S F env pe r q) : OutS base lo S F env pe (wipeR i r) (wipeQ i q) := by
  cases q with
  | fail => trivial
  | exc x pe' => trivial
  | ok fl pe' =>
    obtain ⟨e', S', F', h1, h2, h3⟩ := h
    cases fl with
    | rt t => obtain ⟨d, rfl, h4⟩ := h3; exact ⟨e', S', F', h1, h2, d, rfl, h4⟩
    | nx =>
      have : r = .ok (.nx e') S' := h3
      subst this
      unfold wipeQ
      dsimp only
      by_cases hi : asgOk pe'[i]? = true
      · rw [if_pos hi]
        obtain ⟨r1, s1⟩ := store_none (lo := lo) h1 hi
        exact ⟨_, _, _, r1, h2.trans s1, rfl⟩
      · rw [if_neg hi]; trivial
    | bk =>
      have : r = .ok (.bk e') S' := h3
      subst this
      unfold wipeQ
      dsimp only
      by_cases hi : asgOk pe'[i]? = true
      · rw [if_pos hi]
        obtain ⟨r1, s1⟩ := store_none (lo := lo) h1 hi
        exact ⟨_, _, _, r1, h2.trans s1, rfl⟩
      · rw [if_neg hi]; trivial
    | ct =>
      have : r = .ok (.ct e') S' := h3
      subst this
      unfold wipeQ
      dsimp only
      by_cases hi : asgOk pe'[i]? = true
      · rw [if_pos hi]
        obtain ⟨r1, s1⟩ := store_none (lo := lo) h1 hi
        exact ⟨_, _, _, r1, h2.trans s1, rfl⟩
      · rw [if_neg hi]; trivial
theorem sim_tryAs {mt : Str → Option Bool} {i : Nat} {body : MS} {pb : PSm} {suite : Exc → MS} {ps : PX → PSm} (hb : SimS body pb) (hs : ∀ x y, SimSX x y (suite x) (ps y)) : SimS (sTryAs mt i body suite) (pTryAs mt i pb ps) := fun base S F env pe hR => by
  have h := hb base S F env pe hR
  unfold sTryAs pTryAs
  cases e : pb pe with
  | fail => trivial
  | ok fl pe' =>
    rw [e] at h
    obtain ⟨e', S', F', h1, h2, h3⟩ := h
    cases fl with
    | nx => have z : body env S = .ok (.nx e') S' := h3; rw [z]; exact ⟨e', S', F', h1, h2, rfl⟩
    | bk => have z : body env S = .ok (.bk e') S' := h3; rw [z]; exact ⟨e', S', F', h1, h2, rfl⟩
    | ct => have z : body env S = .ok (.ct e') S' := h3; rw [z]; exact ⟨e', S', F', h1, h2, rfl⟩
    | rt t => obtain ⟨d, z, h4⟩ := h3; rw [z]; exact ⟨e', S', F', h1, h2, d, rfl, h4⟩
  | exc x pe' =>
    rw [e] at h
    obtain ⟨e', S', F', y, z, h1, h2, h3⟩ := h
    rw [z]
    dsimp only
    rw [h3.1]
    cases e1 : mt x.c with
    | none => trivial
    | some b =>
      cases b with
      | false => exact ⟨e', S', F', y, rfl, h1, h2, h3⟩
      | true =>
        dsimp only
        by_cases hi : asgOk pe'[i]? = true
        · rw [if_pos hi]
          obtain ⟨r1, s1⟩ := store_ex (lo := S.length) h1 hi
          exact OutS.step (h2.trans s1) (wipe_out ((hs y x base S' F' _ _ r1 h3).low h2.len))
        · rw [if_neg hi]; trivial
theorem noX_out {base lo : Nat} {S : Sto} {F : Frs} {env : Env} {pe : PEnv} {r : Rs Fl} {q : PR PFl} (h : OutS base lo S F env pe r q) : OutS base lo S F env pe (noXc r) (noXq q) := by
  cases q with
  | fail => trivial
  | exc x pe' => trivial
  | ok fl pe' =>
    obtain ⟨e', S', F', h1, h2, h3⟩ := h
    cases fl with
    | rt t => obtain ⟨d, rfl, h4⟩ := h3; exact ⟨e', S', F', h1, h2, d, rfl, h4⟩
    | nx => have : r = .ok (.nx e') S' := h3; subst this; exact ⟨_, _, _, h1, h2, rfl⟩
    | bk => have : r = .ok (.bk e') S' := h3; subst this; exact ⟨_, _, _, h1, h2, rfl⟩
    | ct => have : r = .ok (.ct e') S' := h3; subst this; exact ⟨_, _, _, h1, h2, rfl⟩
theorem sim_try {mt : Str → Option Bool} {body : MS} {pb : PSm} {suite : Exc → MS} {ps : PX → PSm} (hb : SimS body pb) (hs : ∀ x y, SimSX x y (suite x) (ps y)) : SimS (sTry mt body suite) (pTry mt pb ps) := fun base S F env pe hR => by
  have h := hb base S F env pe hR
  unfold sTry pTry
  cases e : pb pe with
  | fail => trivial
  | ok fl pe' =>
    rw [e] at h
    obtain ⟨e', S', F', h1, h2, h3⟩ := h
    cases fl with
    | nx => have z : body env S = .ok (.nx e') S' := h3; rw [z]; exact ⟨e', S', F', h1, h2, rfl⟩
    | bk => have z : body env S = .ok (.bk e') S' := h3; rw [z]; exact ⟨e', S', F', h1, h2, rfl⟩
    | ct => have z : body env S = .ok (.ct e') S' := h3; rw [z]; exact ⟨e', S', F', h1, h2, rfl⟩
    | rt t => obtain ⟨d, z, h4⟩ := h3; rw [z]; exact ⟨e', S', F', h1, h2, d, rfl, h4⟩
  | exc x pe' =>
    rw [e] at h
    obtain ⟨e', S', F', y, z, h1, h2, h3⟩ := h
    rw [z]
    dsimp only
    rw [h3.1]
    cases e1 : mt x.c with
    | none => trivial
    | some b =>
      cases b with
      | false => exact ⟨e', S', F', y, rfl, h1, h2, h3⟩
      | true => exact OutS.step h2 (noX_out ((hs y x base S' F' _ _ h1 h3).low h2.len))
/-! ### in a suite -/
section
variable {x : Exc} {y : PX} {a b : ME} {pa pb : PEm}
theorem Sim.ex {α β : Type} {Q : RelP α β} {m : Env → Sto → Rs α} {p : PEnv → PR β} (h : Sim Q m p) : SimEX x y Q m p := fun base S F env pe hR _ => h base S F env pe hR
theorem simX_op {gd : D → D → Sto → Rs D} {gp : Tm → Tm → PEnv → PR Tm} (ha : SimEX x y QD a pa) (hb : SimEX x y QD b pb) (h : OpT gd gp) : SimEX x y QD (mOp gd a b) (pOp gp pa pb) := fun base S F env pe hR hx =>
  (ha base S F env pe hR hx).bind (Nat.le_refl _) fun d t S1 F1 pe1 R1 s1 q1 => (hb base S1 F1 env pe1 R1 (hx.mono s1.frm)).bind s1.len fun e u S2 F2 pe2 R2 s2 q2 => by
    obtain ⟨h1, h2, h3, h4, h5⟩ := two_temps hR s1 q1 s2 q2
    exact h base S.length S2 F2 env pe2 d e t u R2 h4 h5 h1 h2 h3
abbrev SimAX (x : Exc) (y : PX) (m : MA) (p : PAm) : Prop := ∀ k, SimEX x y QA m (p k)
theorem simX_nil : SimAX x y mNil pNil := fun k base S F env pe hR _ => out_ok hR .nil
theorem simX_cons {r : MA} {pr : PAm} (ha : SimEX x y QD a pa) (hr : SimAX x y r pr) : SimAX x y (mCons a r) (pCons pa pr) := fun k base S F env pe hR hx =>
  (ha base S F env pe hR hx).bind (Nat.le_refl _) fun d t S1 F1 pe1 R1 s1 q1 => by
    cases e : pArg (k.headD false) t pe1 with
    | none => trivial
    | some q =>
      obtain ⟨z, pe2⟩ := q
      obtain ⟨F2, R2, s2, a2, _⟩ := arg_ok R1 (s1.lows hR.lo) q1 e
      refine Out.step s2 ((hr k.tail base S1 F2 env pe2 R2 ((hx.mono s1.frm).mono s2.frm)).bind s1.len fun ds xs S3 F3 pe3 R3 s3 q3 => ?_)
      exact out_ok R3 (.cons (a2.mono s3) q3)
theorem simX_tup {m : MA} {p : PAm} (h : SimAX x y m p) : SimEX x y QD (mTup m) (pTup p) := fun base S F env pe hR hx =>
  (h [] base S F env pe hR hx).bind (Nat.le_refl _) fun ds as S1 F1 pe1 R1 s1 q1 => by
    cases e : shsA as with
    | none => trivial
    | some ps =>
      have r := shs_ok q1 e
      dsimp only
      by_cases hl : ps.length ≤ sizeLine
      · rw [if_pos hl, if_pos (by rw [r.length]; exact hl)]
        exact out_prim R1 s1.len (.v (.tup r))
      · rw [if_neg hl]; trivial
theorem simX_lst {m : MA} {p : PAm} (h : SimAX x y m p) : SimEX x y QD (mLst m) (pLst p) := fun base S F env pe hR hx =>
  (h [] base S F env pe hR hx).bind (Nat.le_refl _) fun ds as S1 F1 pe1 R1 s1 q1 => by
    cases e : shsA as with
    | none => trivial
    | some ps =>
      have r := shs_ok q1 e
      dsimp only
      by_cases hl : ps.length ≤ sizeLine
      · rw [if_pos hl, if_pos (by rw [r.length]; exact hl)]
        exact out_prim R1 s1.len (.o (.lst r))
      · rw [if_neg hl]; trivial
def isEx : Option (Option Sl) → Bool
  | some (some .ex) => true
  | _ => false
theorem isEx_ok {o : Option (Option Sl)} (h : isEx o = true) : o = some (some .ex) := by
  unfold isEx at h
  split at h
  · rfl
  · cases h
def pErrF (xf : Str → Str → Bool) (i : Nat) (y : PX) (f : Str) : PEm := fun pe => if isEx pe[i]? && xf y.c f then (match y.fs.lookup f with
  | some p => .ok (.v p) pe
  | none => .fail) else .fail
theorem simX_errF (xf : Str → Str → Bool) (i : Nat) (f : Str) : SimEX x y QD (mErrF xf i x f) (pErrF xf i y f) := fun base S F env pe hR hx => by
  unfold pErrF
  by_cases h : (isEx pe[i]? && xf y.c f) = true
  · rw [if_pos h]
    obtain ⟨h1, h2⟩ := Bool.and_eq_true_iff.mp h
    have e := hR.ex i (isEx_ok h1)
    unfold mErrF
    rw [e]
    dsimp only
    rw [hx.1, if_pos h2]
    rcases lookup_rel (f := f) hx.2.1 hx.2.2 with ⟨z1, z2⟩ | ⟨d, p, z1, z2, z3⟩
    · rw [z2]; trivial
    · rw [z1, z2]; exact out_ok hR z3
  · rw [if_neg h]; trivial
def pErrI (Ψ : PGe) (xi : Str → Bool) (i : Nat) (y : PX) (c : PEm) : PEm := fun pe => if isEx pe[i]? && xi y.c then (c pe).bind fun t pe => (match (der t pe).bind tyCP with
    | some u => (match Ψ.isi (.o y.c) u with
      | some b => .ok (.v (.bl b)) pe
      | none => .fail)
    | none => .fail) else .fail
theorem simX_errI (G : GSim Γ Ψ) (xi : Str → Bool) (i : Nat) {c : ME} {pc : PEm} (hc : SimEX x y QD c pc) : SimEX x y QD (mErrI Γ xi i x c) (pErrI Ψ xi i y pc) := fun base S F env pe hR hx => by
  unfold pErrI
  by_cases h : (isEx pe[i]? && xi y.c) = true
  · rw [if_pos h]
    obtain ⟨h1, h2⟩ := Bool.and_eq_true_iff.mp h
    have e := hR.ex i (isEx_ok h1)
    unfold mErrI
    rw [e]
    dsimp only
    refine (hc base S F env pe hR hx).bind (Nat.le_refl _) fun d t S1 F1 pe1 R1 s1 q1 => ?_
    rw [hx.1, if_pos h2]
    cases e1 : der t pe1 with
    | none => trivial
    | some p =>
      have v := der_rv R1 q1 e1
      cases e2 : tyCP p with
      | none => simp only [Option.bind_some, e2]; trivial
      | some u =>
        simp only [Option.bind_some, e2]
        rw [tyC_ok v, e2, G.isi]
        dsimp only
        cases e3 : Ψ.isi (.o y.c) u with
        | none => trivial
        | some b => exact out_ok R1 (.bl b)
  · rw [if_neg h]; trivial
theorem simX_nilS : SimSX x y sNil pNilS := fun base S F env pe hR _ => outS_nx hR
theorem simX_seq {a b : MS} {pa pb : PSm} (ha : SimSX x y a pa) (hb : SimSX x y b pb) : SimSX x y (sSeq a b) (pSeq pa pb) := fun base S F env pe hR hx =>
  outS_then (ha base S F env pe hR hx) fun S1 F1 env1 pe1 R1 s1 => (hb base S1 F1 env1 pe1 R1 (hx.mono s1.frm)).low s1.len
theorem simX_ret (h : SimEX x y QD a pa) : SimSX x y (sRet a) (pRet pa) := fun base S F env pe hR hx =>
  outE (h base S F env pe hR hx) (Nat.le_refl _) fun d t S1 F1 pe1 R1 s1 q1 => ⟨env, S1, F1, R1, StS.refl _ _ _ _ _, d, rfl, q1.low hR.bl⟩
theorem simX_asg {g : MG} {pg : PGm} (hm : SimEX x y QD a pa) (hg : SimG g pg) : SimSX x y (sAsg a g) (pAsg pa pg) := fun base S F env pe hR hx =>
  outE (hm base S F env pe hR hx) (Nat.le_refl _) fun d t S1 F1 pe1 R1 s1 q1 => hg base S.length S1 F1 env pe1 d t R1 hR.bl s1.len (s1.lows hR.lo) q1
end
end Bt.Pv

set_option Elab.async false
set_option linter.all false
set_option maxRecDepth 100000
set_option maxHeartbeats 2000000
namespace Bt.Pv
open PySem PySem.Spec PyProof.Rows L2 Bt

/-! ### the evaluator without a store -/
structure GP where
  Ψ : PGe
  er : Str → Option (Option (List Str))
  xf : Str → Str → Bool
  xi : Str → Bool
  mt : Str → Str → Option Bool
structure ASim (G : GA) (H : GP) : Prop where
  gs : GSim G.Γ H.Ψ
  er : G.er = H.er
  xf : G.xf = H.xf
  xi : G.xi = H.xi
  mt : G.mt = H.mt
def pBad {α : Type} : PEnv → PR α := fun _ => .fail
def pgBad : PGm := fun _ _ => .fail
def paBad : PAm := fun _ _ => .fail
structure EvP where
  E : SC → Expr → PEm
  T : SC → Expr → PTm
  S : SC → Stmt → PSm
structure ESim (r : Ev) (q : EvP) : Prop where
  E : ∀ s e, Sim QD (r.E s e) (q.E s e)
  T : ∀ s e, Sim QB (r.T s e) (q.T s e)
  S : ∀ s e, SimS (r.S s e) (q.S s e)
theorem sim_bad {α β : Type} {Q : RelP α β} {m : Env → Sto → Rs α} : Sim Q m pBad := fun _ _ _ _ _ _ => trivial
theorem simS_bad {m : MS} : SimS m pBad := fun _ _ _ _ _ _ => trivial
theorem simG_bad {g : MG} : SimG g pgBad := fun _ _ _ _ _ _ _ _ _ _ _ _ _ => trivial
def namePM (H : GP) (s : SC) (x : Str) : PEm := if visB s.sc x && okN x then (match s.ix x with
  | some i => pVar i
  | none => pBad) else if gloB s.sc x && okN x then pGlob H.Ψ x else pBad
def binPM : Operator → Option (Tm → Tm → PEnv → PR Tm)
  | .Add => some (lift2 addP)
  | .Sub => some (lift2 (intP (fun _ _ => true) (fun i j => i - j)))
  | .Mult => some (lift2 (intP (fun i j => decide (CMul i j)) (fun i j => i * j)))
  | .FloorDiv => some (lift2 (intP (fun i j => decide (CDiv i j)) (fun i j => i / j)))
  | .Mod => some (lift2 (intP (fun _ j => decide (0 < j)) (fun i j => i % j)))
  | .Pow => some (lift2 (intP (fun i j => decide (CPow i j)) (fun i j => i ^ j.toNat)))
  | .LShift => some (lift2 (intP (fun i j => decide (CPow i j)) (fun i j => i * 2 ^ j.toNat)))
  | .RShift => some (lift2 (intP (fun _ j => decide (0 ≤ j)) (fun i j => i / 2 ^ j.toNat)))
  | .BitAnd => some (lift2 (intP (fun _ _ => true) (fun i j => Builtin.bitAnd i j)))
  | _ => none
theorem bin_ok {op : Operator} {gp : Tm → Tm → PEnv → PR Tm} (h : binPM op = some gp) : ∃ gd, binM op = some gd ∧ OpT gd gp := by
  cases op <;> first | (cases h; done) | (cases h; exact ⟨_, rfl, add_ok⟩) | (cases h; exact ⟨_, rfl, int_ok _ _⟩)
section
variable (H : GP) (q : EvP)
def evAP (s : SC) : List Expr → PAm
  | [] => pNil
  | e :: es => pCons (q.E s e) (evAP s es)
def andVP (s : SC) : List Expr → PEm
  | [] => pBad
  | a :: es => match es with
    | [] => q.E s a
    | _ :: _ => pAndV (q.E s a) (andVP s es)
def orVP (s : SC) : List Expr → PEm
  | [] => pBad
  | a :: es => match es with
    | [] => q.E s a
    | _ :: _ => pOrV (q.E s a) (orVP s es)
def andTP (s : SC) : List Expr → PTm
  | [] => pBad
  | a :: es => match es with
    | [] => q.T s a
    | _ :: _ => pAndT (q.T s a) (andTP s es)
def orTP (s : SC) : List Expr → PTm
  | [] => pBad
  | a :: es => match es with
    | [] => q.T s a
    | _ :: _ => pOrT (q.T s a) (orTP s es)
def evOP (s : SC) : Option Expr → POm
  | none => pNoPart
  | some e => pPart (q.E s e)
def evIP (s : SC) (e : Expr) : PIm := match e with
  | .Call (.Name f p) es [] k => if f = "range" then (match es with
    | [a] => if noStar [a] && gloB s.sc "range" && H.Ψ.fre "range" then pRange1 (q.E s a) else pBad
    | [a, b] => if noStar [a, b] && gloB s.sc "range" && H.Ψ.fre "range" then pRange2 (q.E s a) (q.E s b) else pBad
    | _ => pBad) else pIter (q.E s (.Call (.Name f p) es [] k))
  | e => pIter (q.E s e)
def evLcP (s : SC) (elt tg iter : Expr) (ifs : List Expr) (scope : Scope) : PEm :=
  let own := ownN s.N scope.names
  let s' : SC := ⟨s.N, relS scope s.sc, false⟩
  match tgC s' tg with
  | some t => if blkC s.N s.sc scope own && withinB (own.map (·.2)) t && noSet iter then (match ifs with
    | [] => pLc (evIP H q s iter) (own.map (·.2)) t (fun pe => .ok true pe) (q.E s' elt)
    | [c] => pLc (evIP H q s iter) (own.map (·.2)) t (q.T s' c) (q.E s' elt)
    | _ => pBad) else pBad
  | none => pBad
def stepEP (s : SC) (e : Expr) : PEm := match e with
  | .Name x _ => namePM H s x
  | .Constant (.int i) _ _ => pC (.int i)
  | .Constant (.bool i) _ _ => pC (.bl i)
  | .Constant (.str i) _ _ => pC (.str i)
  | .Constant .none _ _ => pC .non
  | .BinOp a op b _ => (match binPM op with
    | some g => pOp g (q.E s a) (q.E s b)
    | none => pBad)
  | .UnaryOp .USub a _ => pUn (lift1 negP) (q.E s a)
  | .UnaryOp .Not a _ => pNotV (q.E s a)
  | .BoolOp .And es _ => andVP q s es
  | .BoolOp .Or es _ => orVP q s es
  | .IfExp c a b _ => pIfE (q.T s c) (q.E s a) (q.E s b)
  | .Compare a [op] [b] _ => if behindInMarks op b then pBad else pOp (cmpT H.Ψ op) (q.E s a) (q.E s b)
  | .Compare a [op, op'] [b, c] _ => if lastMarks [op, op'] [b, c] then pBad else pChain (cmpT H.Ψ op) (cmpT H.Ψ op') (q.E s a) (q.E s b) (q.E s c)
  | .List es _ => if noStar es then pLst (evAP q s es) else pBad
  | .Tuple es _ _ => if noStar es then pTup (evAP q s es) else pBad
  | .Subscript a (.Slice lo hi none _) _ => pSl (q.E s a) (evOP q s lo) (evOP q s hi)
  | .Subscript a b _ => if noSlice b then pOp (lift2 ixV) (q.E s a) (q.E s b) else pBad
  | .Attribute a f _ => if attrB a then pUn (lift1 (attrV H.Ψ f)) (q.E s a) else pBad
  | .Call (.Name f _) es [] _ => if gloB s.sc f && okN f && noStar es then (match revArg f es with
    | some a => if noStar [a] && gloB s.sc "reversed" && H.Ψ.fre "list" && H.Ψ.fre "reversed" then pRevL (q.E s a) else pBad
    | none => (match es with
      | [] => pCall0 H.Ψ f
      | _ :: _ => pCall H.Ψ f (evAP q s es))) else pBad
  | .Call (.Attribute o m apos) es [] pos => if attrB o && noStar es && (apos.endLine == pos.line) && decide (es.length < 29) then pMeth H.Ψ m (q.E s o) (evAP q s es) else pBad
  | .ListComp elt [⟨tg, iter, ifs, 0⟩] scope _ => evLcP H q s elt tg iter ifs scope
  | .Dict [] [] _ => pDic0
  | _ => pBad
def stepTP (s : SC) (e : Expr) : PTm := match e with
  | .UnaryOp .Not a _ => pNotT (q.T s a)
  | .BoolOp .And es _ => andTP q s es
  | .BoolOp .Or es _ => orTP q s es
  | .Compare a [op] [b] _ => if behindInMarks op b then pBad else pTest (pOp (cmpT H.Ψ op) (q.E s a) (q.E s b))
  | .Compare a [op, op'] [b, c] _ => if lastMarks [op, op'] [b, c] then pBad else pTest (pChain (cmpT H.Ψ op) (cmpT H.Ψ op') (q.E s a) (q.E s b) (q.E s c))
  | e => if plainB e then pTru (q.E s e) else pBad
def evSsP (s : SC) : List Stmt → PSm
  | [] => pNilS
  | st :: t => pSeq (q.S s st) (evSsP s t)
def evGP (s : SC) (tg : Expr) : PGm := match tg with
  | .Name x _ => if s.stB x then (match s.ix x with
    | some i => pNam i
    | none => pgBad) else pgBad
  | .Tuple es _ _ => (match tgIs s es with
    | some is => pTupG is
    | none => pgBad)
  | .Subscript o i _ => if noSlice i then pSub (q.E s o) (q.E s i) else pgBad
  | _ => pgBad
def evXP (s : SC) (i : Option Nat) (n : Str) (y : PX) : Nat → Expr → PEm
  | 0, _ => pBad
  | k + 1, e => match e with
    | .Name z _ => if z = n then pBad else namePM H s z
    | .Constant (.int i) _ _ => pC (.int i)
    | .Constant (.bool i) _ _ => pC (.bl i)
    | .Constant (.str i) _ _ => pC (.str i)
    | .Constant .none _ _ => pC .non
    | .BinOp a .Add b _ => pOp (lift2 addP) (evXP s i n y k a) (evXP s i n y k b)
    | .List es _ => if noStar es then pLst (es.foldr (fun e m => pCons (evXP s i n y k e) m) pNil) else pBad
    | .Tuple es _ _ => if noStar es then pTup (es.foldr (fun e m => pCons (evXP s i n y k e) m) pNil) else pBad
    | .Attribute (.Name z _) f _ => (match i with
      | some j => if decide (z = n) && (visB s.sc n && okN n && decide (s.ix n = some j)) then pErrF H.xf j y f else pBad
      | none => pBad)
    | .Call (.Name f _) [.Name z p, c] [] _ => (match i with
      | some j => if decide (f = "isinstance") && decide (z = n) && (visB s.sc n && okN n && decide (s.ix n = some j)) && (gloB s.sc "isinstance" && H.Ψ.fre "isinstance" && noStar [.Name z p, c]) then pErrI H.Ψ H.xi j y (evXP s i n y k c) else pBad
      | none => pBad)
    | _ => pBad
def evX1P (s : SC) (i : Option Nat) (n : Str) (y : PX) (st : Stmt) : PSm := match st with
    | .Return (some e) _ => pRet (evXP H s i n y 12 e)
    | .Assign [.Name z _] e _ => if s.stB z && noComp e then (match s.ix z with
      | some j => pAsg (evXP H s i n y 12 e) (pNam j)
      | none => pBad) else pBad
    | .Pass _ => pNilS
    | _ => pBad
def evXsP (s : SC) (i : Option Nat) (n : Str) (y : PX) : List Stmt → PSm
  | [] => pNilS
  | st :: t => pSeq (evX1P H s i n y st) (evXsP s i n y t)
def raisePM (s : SC) (x : Str) (es : List Expr) : PSm := if gloB s.sc x && okN x && noStar es then (match H.er x with
  | some (some ns) => (match es with
    | _ :: _ => pRaise x ns (evAP q s es)
    | [] => pBad)
  | some none => (match es with
    | [.Constant (.str _) _ _] => pRaiseT x
    | _ => pBad)
  | none => pBad) else pBad
def asg1P (s : SC) (i : Nat) (value : Expr) : PSm := match value with
  | .ListComp elt [⟨tg, iter, ifs, 0⟩] scope _ => pAsg (evLcP H q s elt tg iter ifs scope) (pNam i)
  | e => if noComp e then pAsg (q.E s e) (pNam i) else pBad
def stepSP (s : SC) (st : Stmt) : PSm := match st with
  | .Pass _ => pNilS
  | .Break _ => pBrk
  | .Continue _ => pCnt
  | .Expr e _ => if noComp e then pExpr (q.E s e) else pBad
  | .Return none _ => pRetN
  | .Return (some e) _ => pRet (q.E s e)
  | .If c a b _ => pIf (q.T s c) (evSsP q s a) (evSsP q s b)
  | .Assign [.Name x px] value pos => if s.stB x then (match s.ix x with
    | some i => asg1P H q s i value
    | none => pBad) else pBad
  | .Assign [.Attribute o f _] value _ => if noComp value then pFld H.Ψ f (q.E s value) (q.E s o) else pBad
  | .Assign [tg] value _ => if noComp value && noTup value && noStar [tg] then pAsg (q.E s value) (evGP q s tg) else pBad
  | .For tg iter body [] _ => if noSet iter then pFor (evIP H q s iter) (evGP q s tg) (evSsP q s body) else pBad
  | .While c body [] _ => whileP (q.T s c) (evSsP q s body) turns
  | .Raise (some (.Call (.Name x _) es [] _)) none _ => raisePM H q s x es
  | .Try body [.ExceptHandler (some (.Name x _)) (some n) (b0 :: su) _] [] [] _ => if gloB s.sc x && okN x && (H.Ψ.con x).isSome && locB s.sc n then (match s.ix n with
    | some i => pTryAs (H.mt x) i (evSsP q s body) (fun ex => evXsP H s (some i) n ex (b0 :: su))
    | none => pBad) else pBad
  | .Try body [.ExceptHandler (some (.Name x _)) none (b0 :: su) _] [] [] _ => if gloB s.sc x && okN x && (H.Ψ.con x).isSome then pTry (H.mt x) (evSsP q s body) (fun ex => evXsP H s none "" ex (b0 :: su)) else pBad
  | _ => pBad
end
def evp (H : GP) : Nat → EvP
  | 0 => ⟨fun _ _ => pBad, fun _ _ => pBad, fun _ _ => pBad⟩
  | n + 1 => ⟨stepEP H (evp H n), stepTP H (evp H n), stepSP H (evp H n)⟩
/-! ### it says what the evaluator over a store says -/
section
variable {G : GA} {H : GP} {r : Ev} {q : EvP} (A : ASim G H) (Rs_ : ESim r q) (s : SC)
include A in
theorem name_sim (x : Str) : Sim QD (nameM G s x) (namePM H s x) := by
  unfold namePM nameM
  split
  · cases s.ix x with
    | none => exact sim_bad
    | some i => exact sim_var i
  · split
    · exact sim_glob A.gs x
    · exact sim_bad
include Rs_ in
theorem evA_sim : ∀ es, SimA (evA r s es) (evAP q s es)
  | [] => sim_nil
  | e :: es => sim_cons (Rs_.E s e) (evA_sim es)
include Rs_ in
theorem andV_sim : ∀ es, Sim QD (andV r s es) (andVP q s es)
  | [] => sim_bad
  | [a] => Rs_.E s a
  | a :: b :: es => sim_andV (Rs_.E s a) (andV_sim (b :: es))
include Rs_ in
theorem orV_sim : ∀ es, Sim QD (orV r s es) (orVP q s es)
  | [] => sim_bad
  | [a] => Rs_.E s a
  | a :: b :: es => sim_orV (Rs_.E s a) (orV_sim (b :: es))
include Rs_ in
theorem andT_sim : ∀ es, Sim QB (andT r s es) (andTP q s es)
  | [] => sim_bad
  | [a] => Rs_.T s a
  | a :: b :: es => sim_andT (Rs_.T s a) (andT_sim (b :: es))
include Rs_ in
theorem orT_sim : ∀ es, Sim QB (orT r s es) (orTP q s es)
  | [] => sim_bad
  | [a] => Rs_.T s a
  | a :: b :: es => sim_orT (Rs_.T s a) (orT_sim (b :: es))
include Rs_ in
theorem evO_sim : ∀ e, Sim QO (evO r s e) (evOP q s e)
  | none => sim_noPart
  | some e => sim_part (Rs_.E s e)
include A Rs_ in
theorem evI_sim (e : Expr) : Sim QI (evI G r s e) (evIP H q s e) := by
  have gen : ∀ e, Sim QI (mIter (r.E s e)) (pIter (q.E s e)) := fun e => sim_iter (Rs_.E s e)
  have ef := congrFun A.gs.fre "range"
  unfold evIP
  split
  · rename_i f p es k
    unfold evI
    dsimp only
    by_cases hf : f = "range"
    · rw [if_pos hf, if_pos hf, ef]
      cases es with
      | nil => exact sim_bad
      | cons a es =>
        cases es with
        | nil =>
          dsimp only
          split
          · exact sim_range1 (Rs_.E s _)
          · exact sim_bad
        | cons b es =>
          cases es with
          | nil =>
            dsimp only
            split
            · exact sim_range2 (Rs_.E s _) (Rs_.E s _)
            · exact sim_bad
          | cons c es => exact sim_bad
    · rw [if_neg hf, if_neg hf]; exact gen _
  · rename_i h
    have e1 : evI G r s e = mIter (r.E s e) := by
      unfold evI
      split
      · rename_i f p es k
        exact absurd rfl (h f p es k)
      · rfl
    rw [e1]
    exact gen e
theorem within_ok {vs : List Nat} {t : CTg} (h : withinB vs t = true) : t.within vs := by
  cases t with
  | one i => simpa [withinB, CTg.within] using h
  | tup is => simpa [withinB, CTg.within] using h
include A Rs_ in
theorem evLc_sim (elt tg iter : Expr) (ifs : List Expr) (scope : Scope) : Sim QD (evLc G r s elt tg iter ifs scope) (evLcP H q s elt tg iter ifs scope) := by
  unfold evLcP evLc
  dsimp only
  cases tgC ⟨s.N, relS scope s.sc, false⟩ tg with
  | none => exact sim_bad
  | some t =>
    dsimp only
    split
    · rename_i h
      simp only [Bool.and_eq_true] at h
      cases ifs with
      | nil => exact sim_lc (within_ok h.1.2) (evI_sim A Rs_ s iter) (fun base S F env pe hR => out_ok hR rfl) (Rs_.E _ elt)
      | cons c ifs =>
        cases ifs with
        | nil => exact sim_lc (within_ok h.1.2) (evI_sim A Rs_ s iter) (Rs_.T _ _) (Rs_.E _ elt)
        | cons _ _ => exact sim_bad
    · exact sim_bad
include A Rs_ in
theorem stepE_sim (e : Expr) : Sim QD (stepE G r s e) (stepEP H q s e) := by
  unfold stepEP
  split
  · exact name_sim A s _
  · exact sim_c fun _ _ => .int _
  · exact sim_c fun _ _ => .bl _
  · exact sim_c fun _ _ => .str _
  · exact sim_c fun _ _ => .non
  · rename_i a op b p
    cases h : binPM op with
    | none => exact sim_bad
    | some g =>
      obtain ⟨gd, h1, h2⟩ := bin_ok h
      have e1 : stepE G r s (.BinOp a op b p) = mOp gd (r.E s a) (r.E s b) := by
        show (match binM op with
          | some g => mOp g (r.E s a) (r.E s b)
          | none => mBad) = _
        rw [h1]
      rw [e1]
      exact sim_op (Rs_.E s a) (Rs_.E s b) h2
  · exact sim_un (Rs_.E s _) neg_ok
  · exact sim_notV (Rs_.E s _)
  · exact andV_sim Rs_ s _
  · exact orV_sim Rs_ s _
  · exact sim_ifE (Rs_.T s _) (Rs_.E s _) (Rs_.E s _)
  · rename_i a op b p
    show Sim QD (if behindInMarks op b then mBad else mOp (cmpG G.Γ op) (r.E s a) (r.E s b)) _
    split
    · exact sim_bad
    · exact sim_op (Rs_.E s a) (Rs_.E s b) (cmpT_ok A.gs op)
  · rename_i a op op' b c p
    show Sim QD (if lastMarks [op, op'] [b, c] then mBad else mChain (cmpG G.Γ op) (cmpG G.Γ op') (r.E s a) (r.E s b) (r.E s c)) _
    split
    · exact sim_bad
    · exact sim_chain (cmpT_ok A.gs op) (cmpT_ok A.gs op') (Rs_.E s a) (Rs_.E s b) (Rs_.E s c)
  · rename_i es p
    show Sim QD (if noStar es then mLst (evA r s es) else mBad) _
    split
    · exact sim_lst (evA_sim Rs_ s es)
    · exact sim_bad
  · rename_i es c p
    show Sim QD (if noStar es then mTup (evA r s es) else mBad) _
    split
    · exact sim_tup (evA_sim Rs_ s es)
    · exact sim_bad
  · exact sim_sl (Rs_.E s _) (evO_sim Rs_ s _) (evO_sim Rs_ s _)
  · rename_i a b p h
    split
    · rename_i hs
      have e1 : stepE G r s (.Subscript a b p) = mOp ixG (r.E s a) (r.E s b) := by
        cases b <;> first | rfl | (cases hs; done)
      rw [e1]
      exact sim_op (Rs_.E s a) (Rs_.E s b) ix_ok
    · exact sim_bad
  · rename_i a f p
    show Sim QD (if attrB a then mUn (attrG G.Γ f) (r.E s a) else mBad) _
    split
    · exact sim_un (Rs_.E s a) (attr_ok A.gs f)
    · exact sim_bad
  · rename_i f p es k
    show Sim QD (if gloB s.sc f && okN f && noStar es then (match revArg f es with
      | some a => if noStar [a] && gloB s.sc "reversed" && G.Γ.fre "list" && G.Γ.fre "reversed" then mRevL (r.E s a) else mBad
      | none => (match es with
        | [] => mCall0 G.Γ f
        | _ :: _ => mCall G.Γ f (evA r s es))) else mBad) _
    rw [A.gs.fre]
    split
    · cases revArg f es with
      | some a =>
        dsimp only
        split
        · exact sim_revL (Rs_.E s a)
        · exact sim_bad
      | none =>
        dsimp only
        cases es with
        | nil => exact sim_call0 A.gs f
        | cons e es => exact sim_call A.gs (evA_sim Rs_ s (e :: es))
    · exact sim_bad
  · rename_i o m apos es pos
    show Sim QD (if attrB o && noStar es && (apos.endLine == pos.line) && decide (es.length < 29) then mMeth G.Γ m (r.E s o) (evA r s es) else mBad) _
    split
    · exact sim_meth A.gs (Rs_.E s o) (evA_sim Rs_ s es)
    · exact sim_bad
  · exact evLc_sim A Rs_ s _ _ _ _ _
  · exact sim_dic0
  · exact sim_bad
include A Rs_ in
theorem stepT_sim (e : Expr) : Sim QB (stepT G r s e) (stepTP H q s e) := by
  unfold stepTP
  split
  · exact sim_notT (Rs_.T s _)
  · exact andT_sim Rs_ s _
  · exact orT_sim Rs_ s _
  · rename_i a op b p
    show Sim QB (if behindInMarks op b then mBad else mTest (mOp (cmpG G.Γ op) (r.E s a) (r.E s b))) _
    split
    · exact sim_bad
    · exact sim_test (sim_op (Rs_.E s a) (Rs_.E s b) (cmpT_ok A.gs op))
  · rename_i a op op' b c p
    show Sim QB (if lastMarks [op, op'] [b, c] then mBad else mTest (mChain (cmpG G.Γ op) (cmpG G.Γ op') (r.E s a) (r.E s b) (r.E s c))) _
    split
    · exact sim_bad
    · exact sim_test (sim_chain (cmpT_ok A.gs op) (cmpT_ok A.gs op') (Rs_.E s a) (Rs_.E s b) (Rs_.E s c))
  · rename_i h1 h2 h3 h4 h5
    split
    · rename_i hp
      have e1 : stepT G r s e = mTru truD (r.E s e) := by
        have : (if plainB e = true then mTru truD (r.E s e) else mBad) = mTru truD (r.E s e) := if_pos hp
        rw [← this]
        cases e <;> first | rfl | (cases hp; done) | skip
        all_goals (rename_i op _ _; cases op <;> first | rfl | (cases hp; done))
      rw [e1]
      exact sim_tru (Rs_.E s e)
    · exact sim_bad
include Rs_ in
theorem evSs_sim : ∀ st, SimS (evSs r s st) (evSsP q s st)
  | [] => sim_nilS
  | a :: t => sim_seq (Rs_.S s a) (evSs_sim t)
include Rs_ in
theorem evG_sim (tg : Expr) : SimG (evG r s tg) (evGP q s tg) := by
  unfold evGP
  split
  · rename_i x p
    show SimG (if s.stB x then (match s.ix x with
      | some i => gNam i
      | none => gBad) else gBad) _
    split
    · cases s.ix x with
      | none => exact simG_bad
      | some i => exact sim_nam i
    · exact simG_bad
  · rename_i es c p
    show SimG (match tgIs s es with
      | some is => gTup' is.length (gNs is)
      | none => gBad) _
    cases tgIs s es with
    | none => exact simG_bad
    | some is => exact sim_tupG is
  · rename_i o i p
    show SimG (if noSlice i then gSub' (r.E s o) (r.E s i) else gBad) _
    split
    · exact sim_sub (Rs_.E s o) (Rs_.E s i)
    · exact simG_bad
  · exact simG_bad
include A in
theorem evX_sim (i : Option Nat) (n : Str) (x : Exc) (y : PX) : ∀ (k : Nat) (e : Expr), SimEX x y QD (evX G s i n x k e) (evXP H s i n y k e)
  | 0, e => Sim.ex sim_bad
  | k + 1, e => by
    have ih := evX_sim i n x y k
    have args : ∀ es : List Expr, SimAX x y (es.foldr (fun e m => mCons (evX G s i n x k e) m) mNil) (es.foldr (fun e m => pCons (evXP H s i n y k e) m) pNil) := by
      intro es
      induction es with
      | nil => exact simX_nil
      | cons e es ih2 => exact simX_cons (ih e) ih2
    unfold evXP
    split
    · rename_i z p
      show SimEX x y QD (if z = n then mBad else nameM G s z) _
      split
      · exact Sim.ex sim_bad
      · exact Sim.ex (name_sim A s z)
    · exact Sim.ex (sim_c fun _ _ => .int _)
    · exact Sim.ex (sim_c fun _ _ => .bl _)
    · exact Sim.ex (sim_c fun _ _ => .str _)
    · exact Sim.ex (sim_c fun _ _ => .non)
    · exact simX_op (ih _) (ih _) add_ok
    · rename_i es p
      show SimEX x y QD (if noStar es then mLst _ else mBad) _
      split
      · exact simX_lst (args es)
      · exact Sim.ex sim_bad
    · rename_i es c p
      show SimEX x y QD (if noStar es then mTup _ else mBad) _
      split
      · exact simX_tup (args es)
      · exact Sim.ex sim_bad
    · rename_i z p f p2
      cases i with
      | none => exact Sim.ex sim_bad
      | some j =>
        show SimEX x y QD (if decide (z = n) && (visB s.sc n && okN n && decide (s.ix n = some j)) then mErrF G.xf j x f else mBad) (if decide (z = n) && (visB s.sc n && okN n && decide (s.ix n = some j)) then pErrF H.xf j y f else pBad)
        split
        · rw [A.xf]
          exact simX_errF _ _ _
        · exact Sim.ex sim_bad
    · rename_i f p z p2 c p3
      cases i with
      | none => exact Sim.ex sim_bad
      | some j =>
        show SimEX x y QD (if decide (f = "isinstance") && decide (z = n) && (visB s.sc n && okN n && decide (s.ix n = some j)) && (gloB s.sc "isinstance" && G.Γ.fre "isinstance" && noStar [.Name z p2, c]) then mErrI G.Γ G.xi j x (evX G s (some j) n x k c) else mBad) _
        rw [A.gs.fre]
        dsimp only
        split
        · rw [A.xi]
          exact simX_errI A.gs _ _ (ih c)
        · exact Sim.ex sim_bad
    · exact Sim.ex sim_bad
theorem simSX_bad {x : Exc} {y : PX} {m : MS} : SimSX x y m pBad := fun _ _ _ _ _ _ _ => trivial
include A in
theorem evXs_sim (i : Option Nat) (n : Str) (x : Exc) (y : PX) : ∀ st, SimSX x y (evXs G s i n x st) (evXsP H s i n y st)
  | [] => simX_nilS
  | a :: t => by
    refine simX_seq ?_ (evXs_sim i n x y t)
    cases a with
    | Return v p =>
      cases v with
      | none => exact simSX_bad
      | some e => exact simX_ret (evX_sim A s i n x y 12 e)
    | Assign tgs e p2 =>
      cases tgs with
      | nil => exact simSX_bad
      | cons tg t2 =>
        cases t2 with
        | cons _ _ => cases tg <;> exact simSX_bad
        | nil =>
          cases tg with
          | Name z p =>
            show SimSX x y (if s.stB z && noComp e then (match s.ix z with
              | some j => sAsg (evX G s i n x 12 e) (gNam j)
              | none => mBad) else mBad) (if s.stB z && noComp e then (match s.ix z with
              | some j => pAsg (evXP H s i n y 12 e) (pNam j)
              | none => pBad) else pBad)
            split
            · cases s.ix z with
              | none => exact simSX_bad
              | some j => exact simX_asg (evX_sim A s i n x y 12 e) (sim_nam j)
            · exact simSX_bad
          | _ => exact simSX_bad
    | Pass p => exact simX_nilS
    | _ => exact simSX_bad
include A Rs_ in
theorem raise_sim (x : Str) (es : List Expr) : SimS (raiseM G r s x es) (raisePM H q s x es) := by
  unfold raisePM raiseM
  rw [A.er]
  split
  · cases H.er x with
    | none => exact simS_bad
    | some o =>
      cases o with
      | some ns =>
        cases es with
        | nil => exact simS_bad
        | cons e es => exact sim_raise (evA_sim Rs_ s (e :: es))
      | none =>
        cases es with
        | nil => exact simS_bad
        | cons e es =>
          cases es with
          | cons _ _ => cases e with
            | Constant c _ _ => cases c <;> exact simS_bad
            | _ => exact simS_bad
          | nil =>
            cases e with
            | Constant c _ _ => cases c with
              | str z => exact sim_raiseT x
              | _ => exact simS_bad
            | _ => exact simS_bad
  · exact simS_bad
include A Rs_ in
theorem asg1_sim (i : Nat) (value : Expr) : SimS (match value with
      | .ListComp elt [⟨tg, iter, ifs, 0⟩] scope vpos => sAsg (evLc G r s elt tg iter ifs scope) (gNam i)
      | e => if noComp e then sAsg (r.E s e) (gNam i) else mBad) (asg1P H q s i value) := by
  unfold asg1P
  split
  · exact sim_asg (evLc_sim A Rs_ s _ _ _ _ _) (sim_nam i)
  · split
    · exact sim_asg (Rs_.E s _) (sim_nam i)
    · exact simS_bad
include A Rs_ in
theorem stepS_sim (st : Stmt) : SimS (stepS G r s st) (stepSP H q s st) := by
  unfold stepSP
  split
  · exact sim_nilS
  · exact sim_brk
  · exact sim_cnt
  · rename_i e p
    show SimS (if noComp e then sExpr (r.E s e) else mBad) _
    split
    · exact sim_expr (Rs_.E s e)
    · exact simS_bad
  · exact sim_retN
  · exact sim_ret (Rs_.E s _)
  · exact sim_if (Rs_.T s _) (evSs_sim Rs_ s _) (evSs_sim Rs_ s _)
  · rename_i x px value pos
    show SimS (if s.stB x then (match s.ix x with
      | some i => (match value with
        | .ListComp elt [⟨tg, iter, ifs, 0⟩] scope vpos => sAsg (evLc G r s elt tg iter ifs scope) (gNam i)
        | e => if noComp e then sAsg (r.E s e) (gNam i) else mBad)
      | none => mBad) else mBad) _
    split
    · cases s.ix x with
      | none => exact simS_bad
      | some i => exact asg1_sim A Rs_ s i value
    · exact simS_bad
  · rename_i o f p value p2
    show SimS (if noComp value then sFldD G.Γ f (r.E s value) (r.E s o) else mBad) _
    split
    · exact sim_fld A.gs (Rs_.E s value) (Rs_.E s o)
    · exact simS_bad
  · rename_i tg value p h1 h2
    split
    · rename_i hc
      have e1 : stepS G r s (.Assign [tg] value p) = sAsg (r.E s value) (evG r s tg) := by
        have : (if noComp value && noTup value && noStar [tg] then sAsg (r.E s value) (evG r s tg) else mBad) = sAsg (r.E s value) (evG r s tg) := if_pos hc
        rw [← this]
        cases tg <;> first | rfl | (exact absurd rfl (h1 _ _)) | (exact absurd rfl (h2 _ _ _))
      rw [e1]
      exact sim_asg (Rs_.E s value) (evG_sim Rs_ s tg)
    · exact simS_bad
  · rename_i tg iter body p
    show SimS (if noSet iter then sFor (evI G r s iter) (evG r s tg) (evSs r s body) else mBad) _
    split
    · exact sim_for (evI_sim A Rs_ s iter) (evG_sim Rs_ s tg) (evSs_sim Rs_ s body)
    · exact simS_bad
  · exact sim_while (Rs_.T s _) (evSs_sim Rs_ s _) turns
  · exact raise_sim A Rs_ s _ _
  · rename_i body x p n b0 su p2 p3
    have hcon : (H.Ψ.con x).isSome = true → (G.Γ.con x).isSome = true := fun g => by
      cases e : H.Ψ.con x with
      | none => rw [e] at g; cases g
      | some p => obtain ⟨d, z, _⟩ := A.gs.con x p e; rw [z]; rfl
    show SimS (if gloB s.sc x && okN x && (G.Γ.con x).isSome && locB s.sc n then (match s.ix n with
      | some i => sTryAs (G.mt x) i (evSs r s body) (fun ex => evXs G s (some i) n ex (b0 :: su))
      | none => mBad) else mBad) (if gloB s.sc x && okN x && (H.Ψ.con x).isSome && locB s.sc n then (match s.ix n with
      | some i => pTryAs (H.mt x) i (evSsP q s body) (fun ex => evXsP H s (some i) n ex (b0 :: su))
      | none => pBad) else pBad)
    by_cases h : (gloB s.sc x && okN x && (H.Ψ.con x).isSome && locB s.sc n) = true
    · rw [if_pos h, if_pos (by
        simp only [Bool.and_eq_true] at h ⊢
        exact ⟨⟨h.1.1, hcon h.1.2⟩, h.2⟩)]
      cases s.ix n with
      | none => exact simS_bad
      | some i =>
        dsimp only
        rw [A.mt]
        exact sim_tryAs (evSs_sim Rs_ s body) fun ex y => evXs_sim A s (some i) n ex y (b0 :: su)
    · rw [if_neg h]; exact simS_bad
  · rename_i body x p b0 su p2 p3
    have hcon : (H.Ψ.con x).isSome = true → (G.Γ.con x).isSome = true := fun g => by
      cases e : H.Ψ.con x with
      | none => rw [e] at g; cases g
      | some p => obtain ⟨d, z, _⟩ := A.gs.con x p e; rw [z]; rfl
    show SimS (if gloB s.sc x && okN x && (G.Γ.con x).isSome then sTry (G.mt x) (evSs r s body) (fun ex => evXs G s none "" ex (b0 :: su)) else mBad) (if gloB s.sc x && okN x && (H.Ψ.con x).isSome then pTry (H.mt x) (evSsP q s body) (fun ex => evXsP H s none "" ex (b0 :: su)) else pBad)
    by_cases h : (gloB s.sc x && okN x && (H.Ψ.con x).isSome) = true
    · rw [if_pos h, if_pos (by
        simp only [Bool.and_eq_true] at h ⊢
        exact ⟨h.1, hcon h.2⟩)]
      rw [A.mt]
      exact sim_try (evSs_sim Rs_ s body) fun ex y => evXs_sim A s none "" ex y (b0 :: su)
    · rw [if_neg h]; exact simS_bad
  · exact simS_bad
end
theorem ev_sim {G : GA} {H : GP} (A : ASim G H) : ∀ n, ESim (ev G n) (evp H n)
  | 0 => ⟨fun _ _ => sim_bad, fun _ _ => sim_bad, fun _ _ => simS_bad⟩
  | n + 1 => ⟨fun s e => stepE_sim A (ev_sim A n) s e, fun s e => stepT_sim A (ev_sim A n) s e, fun s e => stepS_sim A (ev_sim A n) s e⟩
end Bt.Pv

set_option Elab.async false
set_option linter.all false
set_option maxRecDepth 100000
set_option maxHeartbeats 2000000
namespace Bt.Pv
open PySem PySem.Spec PyProof.Rows L2 Bt

/-! ### defs -/
def startP (n : Nat) (sl : List Sl) : PEnv := sl.map some ++ List.replicate (n - sl.length) none
/-- what is left of the borrowed arguments -/
def finP : List Sl → PEnv → List (Option Sl)
  | .li _ _ _ :: r, x :: pe => x :: finP r pe
  | .sh _ :: r, _ :: pe => none :: finP r pe
  | .ex :: r, _ :: pe => none :: finP r pe
  | _, _ => []
def retT : Tm → PEnv → Option Tm
  | .l i, pe => (match pe[i]? with
    | some (some (.sh p)) => some (.v p)
    | some (some (.li false _ p)) => some (.o p)
    | _ => none)
  | t, _ => some t
def outP (sl : List Sl) : PR PFl → PF
  | .ok .nx pe => .ok (.v .non) (finP sl pe)
  | .ok (.rt t) pe => (match retT t pe with
    | some u => .ok u (finP sl pe)
    | none => .fail)
  | .exc x pe => .exc x (finP sl pe)
  | _ => .fail
def fnP (n np : Nat) (b : PSm) : List Sl → PF := fun sl => if sl.length = np then outP sl (b (startP n sl)) else .fail
def shsS : List Sl → Option (List P)
  | [] => some []
  | .sh p :: r => (shsS r).map (p :: ·)
  | _ => none
def fnPS (n np : Nat) (b : PSm) : List Sl → PF := fun sl => if np ≤ sl.length ∧ sl.length - np ≤ sizeLine then (match shsS (sl.drop np) with
  | some ps => outP (sl.take np) (b (startP n (sl.take np ++ [.sh (.tup ps)])))
  | none => .fail) else .fail
def meanP (d : DefT) (H : GP) : PSm := evSsP (evp H 60) ⟨d.N, d.scope, true⟩ d.body
def runP (d : DefT) (H : GP) : List Sl → PF := match d.star with
  | none => fnP d.N.length d.ps.length (meanP d H)
  | some _ => fnPS d.N.length d.ps.length (meanP d H)
section
variable {S : Sto} {F : Frs} {ds : List D} {sl : List Sl}
theorem pad_get {α : Type} {l : List α} {n j : Nat} {x : α} (h : (l.map some ++ List.replicate n none)[j]? = some (some x)) : l[j]? = some x := by
  by_cases hj : j < (l.map some).length
  · rw [List.getElem?_append_left hj] at h; exact map_some h
  · rw [List.getElem?_append_right (Nat.le_of_not_lt hj)] at h
    have := List.mem_of_getElem? h
    simp at this
theorem get_pad {α : Type} {l : List α} {n j : Nat} {x : α} (h : l[j]? = some x) : (l.map some ++ List.replicate n none)[j]? = some (some x) := by
  rw [List.getElem?_append_left (by simpa using get_lt h)]
  exact map_some' h
theorem R.pad {base : Nat} (h : R base S F (ds.map some) (sl.map some)) (n : Nat) : R base S F (startE n' ds) (startP n'.length sl) := by
  have hl : ds.length = sl.length := by simpa using h.len
  have e1 : startE n' ds = ds.map some ++ List.replicate (n'.length - ds.length) none := rfl
  have e2 : startP n'.length sl = sl.map some ++ List.replicate (n'.length - sl.length) none := rfl
  rw [e1, e2]
  refine ⟨by simp [hl], h.fl, h.bl, fun j p g => ?_, fun j b k p g => ?_, fun j g => ?_, fun i j b k p b' k' p' m g1 g2 g3 g4 => ?_⟩
  · obtain ⟨d, z1, z2⟩ := h.sh j p (map_some' (pad_get g))
    exact ⟨d, get_pad (map_some z1), z2⟩
  · obtain ⟨m, o, z1, z2⟩ := h.li j b k p (map_some' (pad_get g))
    exact ⟨m, o, get_pad (map_some z1), z2⟩
  · exact get_pad (map_some (h.ex j (map_some' (pad_get g))))
  · exact h.nd i j _ _ _ _ _ _ m (map_some' (pad_get g1)) (map_some' (pad_get g2)) (map_some' (pad_get g3)) (map_some' (pad_get g4))
theorem fin_get : ∀ {sl : List Sl} {pe : PEnv} {j : Nat} {b k : Bool} {p : P} {x : Option Sl}, sl[j]? = some (.li b k p) → pe[j]? = some x → (finP sl pe)[j]? = some x
  | [], _, _, _, _, _, _, h, _ => by simp at h
  | _ :: _, [], _, _, _, _, _, _, h => by simp at h
  | .li _ _ _ :: r, y :: pe, 0, _, _, _, _, h, h' => by simp at h h'; subst h'; rfl
  | .sh _ :: r, y :: pe, 0, _, _, _, _, h, _ => by simp at h
  | .ex :: r, y :: pe, 0, _, _, _, _, h, _ => by simp at h
  | .li _ _ _ :: r, y :: pe, j + 1, _, _, _, _, h, h' => by simp at h h'; simpa [finP] using fin_get h h'
  | .sh _ :: r, y :: pe, j + 1, _, _, _, _, h, h' => by simp at h h'; simpa [finP] using fin_get h h'
  | .ex :: r, y :: pe, j + 1, _, _, _, _, h, h' => by simp at h h'; simpa [finP] using fin_get h h'
/-- what a body leaves, as its caller sees it -/
theorem fin_r (hR : R S.length S F (ds.map some) (sl.map some)) {n' : List Str} {S' : Sto} {F' : Frs} {env' : Env} {pe' : PEnv} (R' : R S.length S' F' env' pe') (s : StS S.length S F (startE n' ds) (startP n'.length sl) S' F' env' pe') : FinR S F ds sl S' F' (finP sl pe') where
  len := s.len
  fr := s.fr
  fl := R'.fl
  fm := fun n h1 h2 => s.fm n h1 fun i b p g1 g2 => h2 i b p (pad_get g1) (pad_get g2)
  fm2 := s.fm2
  fz := fun n h1 h2 => by
    rcases s.fz n h1 h2 with z | ⟨i, k, p, g1, g2⟩
    · exact z
    · obtain ⟨m, o, z1, z2, z3, z4, z5⟩ := hR.li i false k p (map_some' (pad_get g1))
      have := map_some z1
      rw [pad_get g2] at this
      cases this
      exact absurd h1 (Nat.not_lt.mpr (z5 rfl))
  fin := fun j b k p n g1 g2 => by
    have hb : b = true := by
      cases b with
      | true => rfl
      | false =>
        obtain ⟨m, o, z1, z2, z3, z4, z5⟩ := hR.li j false k p (map_some' g1)
        exact absurd (z5 rfl) (Nat.not_le.mpr (get_lt z3))
    subst hb
    obtain ⟨q, y1, y2⟩ := s.bo j k p (get_pad g1)
    obtain ⟨m, o, z1, z2, z3, z4, z5⟩ := R'.li j true k q y1
    rw [y2] at z1
    have e := get_pad (n := n'.length - ds.length) g2
    have e' : (startE n' ds)[j]? = some (some (.ref n)) := e
    rw [e'] at z1
    cases z1
    exact ⟨q, o, fin_get g1 y1, z3, z4⟩
theorem ret_ok {base : Nat} {S' : Sto} {F' : Frs} {env' : Env} {pe' : PEnv} (R' : R base S' F' env' pe') {d : D} {t u : Tm} (h : TmR S' F' env' pe' base d t) (e : retT t pe' = some u) : TmR S' F' [] [] base d u := by
  cases t with
  | v p => cases e; exact h
  | o p => cases e; exact h
  | l i =>
    obtain ⟨h1, h2⟩ := h
    clear h2
    simp only [retT] at e
    split at e
    · rename_i p g
      cases e
      obtain ⟨d', z1, z2⟩ := R'.sh i p g
      rw [h1] at z1; cases z1
      exact z2
    · rename_i k p g
      cases e
      obtain ⟨n, o, z1, z2, z3, z4, z5⟩ := R'.li i false k p g
      rw [h1] at z1; cases z1
      exact ⟨n, o, rfl, z5 rfl, z2, z3, z4⟩
    · cases e
theorem out_f (hR : R S.length S F (ds.map some) (sl.map some)) {n' : List Str} {r : Rs Fl} {q : PR PFl} (h : OutS S.length S.length S F (startE n' ds) (startP n'.length sl) r q) {sl0 : List Sl} {ds0 : List D} (hf : ∀ S' F' pe', FinR S F ds sl S' F' (finP sl pe') → FinR S F ds0 sl0 S' F' (finP sl pe')) : match outP sl q with
    | .ok t fin => ∃ d S' F', outM r = .ok d S' ∧ FinR S F ds0 sl0 S' F' fin ∧ TmR S' F' [] [] S.length d t
    | .exc x fin => ∃ y S' F', outM r = .exc y S' ∧ FinR S F ds0 sl0 S' F' fin ∧ XR S' F' y x
    | .fail => True := by
  cases q with
  | fail => trivial
  | exc x pe' =>
    obtain ⟨e', S', F', y, rfl, h1, h2, h3⟩ := h
    exact ⟨y, S', F', rfl, hf _ _ _ (fin_r hR h1 h2), h3⟩
  | ok fl pe' =>
    obtain ⟨e', S', F', h1, h2, h3⟩ := h
    cases fl with
    | nx => have : r = .ok (.nx e') S' := h3; subst this; exact ⟨_, S', F', rfl, hf _ _ _ (fin_r hR h1 h2), .non⟩
    | bk => trivial
    | ct => trivial
    | rt t =>
      obtain ⟨d, rfl, h4⟩ := h3
      unfold outP
      dsimp only
      cases e : retT t pe' with
      | none => trivial
      | some u => exact ⟨d, S', F', rfl, hf _ _ _ (fin_r hR h1 h2), ret_ok h1 h4 e⟩
end
theorem shsS_ok {S : Sto} {F : Frs} : ∀ {ds : List D} {sl : List Sl} {ps : List P}, ds.length = sl.length → (∀ (j : Nat) (p : P), sl[j]? = some (.sh p) → ∃ d, ds[j]? = some d ∧ SV S F d p) → shsS sl = some ps → SVs S F ds ps
  | [], [], _, _, _, e => by cases e; exact .nil
  | _ :: _, [], _, h, _, _ => by simp at h
  | [], _ :: _, _, h, _, _ => by simp at h
  | d :: ds, .sh p :: sl, ps, hl, h, e => by
    unfold shsS at e
    cases q : shsS sl with
    | none => rw [q] at e; cases e
    | some r =>
      rw [q] at e; cases e
      obtain ⟨d', z1, z2⟩ := h 0 p rfl
      simp at z1; subst z1
      exact .cons z2 (shsS_ok (by simpa using hl) (fun j p g => by simpa using h (j + 1) p (by simpa using g)) q)
  | _ :: _, .li _ _ _ :: _, _, _, _, e => by cases e
  | _ :: _, .ex :: _, _, _, _, e => by cases e
theorem shsS_sh : ∀ {sl : List Sl} {ps : List P}, shsS sl = some ps → ∀ (j : Nat) (x : Sl), sl[j]? = some x → ∃ p, x = .sh p
  | [], _, _, j, x, g => by simp at g
  | .sh p :: sl, _, e, 0, x, g => by simp at g; exact ⟨p, g.symm⟩
  | .sh p :: sl, _, e, j + 1, x, g => by
    unfold shsS at e
    cases q : shsS sl with
    | none => rw [q] at e; cases e
    | some r => exact shsS_sh q j x (by simpa using g)
  | .li _ _ _ :: _, _, e, _, _, _ => by cases e
  | .ex :: _, _, e, _, _, _ => by cases e
theorem run_sim {G : GA} {H : GP} (A : ASim G H) (d : DefT) : SimF (d.run G) (runP d H) := by
  intro S F ds sl hR
  have hl : ds.length = sl.length := by simpa using hR.len
  have body : SimS (d.mean G) (meanP d H) := evSs_sim (ev_sim A 60) _ _
  unfold DefT.run runP
  cases hs : d.star with
  | none =>
    dsimp only
    unfold fnP fnM
    by_cases h : sl.length = d.ps.length
    · rw [if_pos h, if_pos (hl.trans h)]
      exact out_f hR (body S.length S F _ _ (R.pad hR 0)) fun _ _ _ h => h
    · rw [if_neg h]; trivial
  | some pv =>
    dsimp only
    unfold fnPS fnS
    by_cases h : d.ps.length ≤ sl.length ∧ sl.length - d.ps.length ≤ sizeLine
    · rw [if_pos h, if_pos (by rw [hl]; exact h)]
      cases e : shsS (sl.drop d.ps.length) with
      | none => trivial
      | some ps =>
        dsimp only
        have sv : SVs S F (ds.drop d.ps.length) ps := shsS_ok (by simp [hl]) (fun j p g => by
          rw [List.getElem?_drop] at g
          obtain ⟨d', z1, z2⟩ := hR.sh _ p (map_some' g)
          exact ⟨d', by rw [List.getElem?_drop]; exact map_some z1, z2⟩) e
        have gt : ∀ {j : Nat} {x : Sl}, (sl.take d.ps.length ++ [Sl.sh (.tup ps)])[j]? = some x → (∀ p, x ≠ .sh p) → sl[j]? = some x ∧ j < d.ps.length := by
          intro j x g hx
          by_cases hj : j < (sl.take d.ps.length).length
          · rw [List.getElem?_append_left hj] at g
            have hj' : j < d.ps.length := by simp at hj; omega
            rw [List.getElem?_take_of_lt hj'] at g
            exact ⟨g, hj'⟩
          · rw [List.getElem?_append_right (Nat.le_of_not_lt hj)] at g
            have := List.mem_of_getElem? g
            simp at this
            exact absurd this (hx _)
        have gd : ∀ {j : Nat}, j < d.ps.length → (ds.take d.ps.length ++ [D.tup (ds.drop d.ps.length)])[j]? = ds[j]? := by
          intro j hj
          rw [List.getElem?_append_left (by simp; omega), List.getElem?_take_of_lt hj]
        have R1 : R S.length S F ((ds.take d.ps.length ++ [D.tup (ds.drop d.ps.length)]).map some) ((sl.take d.ps.length ++ [Sl.sh (.tup ps)]).map some) := by
          refine ⟨by simp [hl], hR.fl, hR.bl, fun j p g => ?_, fun j b k p g => ?_, fun j g => ?_, fun i j b k p b' k' p' n g1 g2 g3 g4 => ?_⟩
          · have g' := map_some g
            by_cases hj : j < d.ps.length
            · rw [List.getElem?_append_left (by simp; omega), List.getElem?_take_of_lt hj] at g'
              obtain ⟨d', z1, z2⟩ := hR.sh j p (map_some' g')
              exact ⟨d', map_some' (by rw [gd hj]; exact map_some z1), z2⟩
            · have e1 : (sl.take d.ps.length).length = d.ps.length := by simp; omega
              have e2 : (ds.take d.ps.length).length = d.ps.length := by simp; omega
              rw [List.getElem?_append_right (by omega), e1] at g'
              have hj0 : j - d.ps.length = 0 := by have := get_lt g'; simp at this; omega
              rw [hj0] at g'
              simp at g'
              subst g'
              refine ⟨.tup (ds.drop d.ps.length), map_some' ?_, .tup sv⟩
              rw [List.getElem?_append_right (by omega), e2, hj0]
              rfl
          · obtain ⟨z1, z2⟩ := gt (map_some g) (fun _ e => by cases e)
            obtain ⟨n, o, y1, y2⟩ := hR.li j b k p (map_some' z1)
            exact ⟨n, o, map_some' (by rw [gd z2]; exact map_some y1), y2⟩
          · obtain ⟨z1, z2⟩ := gt (map_some g) (fun _ e => by cases e)
            exact map_some' (by rw [gd z2]; exact map_some (hR.ex j (map_some' z1)))
          · obtain ⟨z1, z2⟩ := gt (map_some g1) (fun _ e => by cases e)
            obtain ⟨y1, y2⟩ := gt (map_some g2) (fun _ e => by cases e)
            have g3' := map_some g3
            have g4' := map_some g4
            rw [gd z2] at g3'
            rw [gd y2] at g4'
            exact hR.nd i j _ _ _ _ _ _ n (map_some' z1) (map_some' y1) (map_some' g3') (map_some' g4')
        have fe : ∀ pe', finP (sl.take d.ps.length ++ [Sl.sh (.tup ps)]) pe' = finP (sl.take d.ps.length ++ [Sl.sh (.tup ps)]) pe' := fun _ => rfl
        have o := out_f (n' := d.N) (sl0 := sl) (ds0 := ds) R1 (body S.length S F _ _ (R.pad R1 0)) (fun S' F' pe' f => ?_)
        · -- the last one is never asked for
          have key : ∀ q : PR PFl, (match outP (sl.take d.ps.length ++ [Sl.sh (.tup ps)]) q with
              | .ok t fin => ∃ dd S' F', outM (d.mean G (startE d.N (ds.take d.ps.length ++ [.tup (ds.drop d.ps.length)])) S) = .ok dd S' ∧ FinR S F ds sl S' F' fin ∧ TmR S' F' [] [] S.length dd t
              | .exc x fin => ∃ y S' F', outM (d.mean G (startE d.N (ds.take d.ps.length ++ [.tup (ds.drop d.ps.length)])) S) = .exc y S' ∧ FinR S F ds sl S' F' fin ∧ XR S' F' y x
              | .fail => True) → (match outP (sl.take d.ps.length) q with
              | .ok t fin => ∃ dd S' F', outM (d.mean G (startE d.N (ds.take d.ps.length ++ [.tup (ds.drop d.ps.length)])) S) = .ok dd S' ∧ FinR S F ds sl S' F' fin ∧ TmR S' F' [] [] S.length dd t
              | .exc x fin => ∃ y S' F', outM (d.mean G (startE d.N (ds.take d.ps.length ++ [.tup (ds.drop d.ps.length)])) S) = .exc y S' ∧ FinR S F ds sl S' F' fin ∧ XR S' F' y x
              | .fail => True) := by
            have ff : ∀ (S' : Sto) (F' : Frs) (pe' : PEnv), FinR S F ds sl S' F' (finP (sl.take d.ps.length ++ [Sl.sh (.tup ps)]) pe') → FinR S F ds sl S' F' (finP (sl.take d.ps.length) pe') := by
              intro S' F' pe' f
              refine { f with fin := fun j b k p n g1 g2 => ?_ }
              obtain ⟨q, o, z1, z2⟩ := f.fin j b k p n g1 g2
              refine ⟨q, o, ?_, z2⟩
              have hj : j < d.ps.length := by
                refine Nat.lt_of_not_le fun hj => ?_
                obtain ⟨p', z⟩ := shsS_sh e (j - d.ps.length) (.li b k p) (by rw [List.getElem?_drop, Nat.add_sub_cancel' hj]; exact g1)
                cases z
              have pre : ∀ (a : List Sl) (x : Sl) (pe : PEnv) (j : Nat) (y : Option Sl), j < a.length → (finP (a ++ [x]) pe)[j]? = some y → (finP a pe)[j]? = some y := by
                intro a
                induction a with
                | nil => intro x pe j y hj _; simp at hj
                | cons s a ih =>
                  intro x pe j y hj g
                  cases pe with
                  | nil => cases s <;> simp [finP] at g
                  | cons z pe =>
                    cases j with
                    | zero => cases s <;> simpa [finP] using g
                    | succ j =>
                      cases s <;> (simp [finP] at g ⊢; exact ih x pe j y (by simpa using hj) g)
              exact pre _ _ _ _ _ (by simp; omega) z1
            intro q hq
            cases q with
            | fail => trivial
            | exc x pe' => obtain ⟨y, S', F', g1, g2, g3⟩ := hq; exact ⟨y, S', F', g1, ff _ _ _ g2, g3⟩
            | ok fl pe' =>
              cases fl with
              | nx => obtain ⟨y, S', F', g1, g2, g3⟩ := hq; exact ⟨y, S', F', g1, ff _ _ _ g2, g3⟩
              | bk => trivial
              | ct => trivial
              | rt t =>
                unfold outP at hq ⊢
                dsimp only at hq ⊢
                cases e : retT t pe' with
                | none => trivial
                | some u => rw [e] at hq; obtain ⟨y, S', F', g1, g2, g3⟩ := hq; exact ⟨y, S', F', g1, ff _ _ _ g2, g3⟩
          exact key _ o
        · refine { f with fm := fun n h1 h2 => f.fm n h1 fun j b p g1 g2 => ?_, fin := fun j b k p n g1 g2 => ?_ }
          · obtain ⟨z1, z2⟩ := gt g1 (fun _ e => by cases e)
            rw [gd z2] at g2
            exact h2 j b p z1 g2
          · have hj : j < d.ps.length := by
              refine Nat.lt_of_not_le fun hj => ?_
              obtain ⟨p', z⟩ := shsS_sh e (j - d.ps.length) (.li b k p) (by rw [List.getElem?_drop, Nat.add_sub_cancel' hj]; exact g1)
              cases z
            refine f.fin j b k p n ?_ (by rw [gd hj]; exact g2)
            rw [List.getElem?_append_left (by have := get_lt g1; simp; omega), List.getElem?_take_of_lt hj]
            exact g1
    · rw [if_neg h]; trivial
/-! ### new instances -/
def makeP (c : Str) (f : PFn) : PFn := ⟨f.mask.tail, fun sl => match f.run (.li true false (.ins c []) :: sl) with
  | .ok t fin => (match t, fin with
    | .v .non, some (.li _ _ p) :: r => .ok (.o p) r
    | _, _ => .fail)
  | .exc x fin => .exc x fin.tail
  | .fail => .fail⟩
theorem make_sim {c : Str} {g : List D → Sto → Rs D} {f : PFn} (h : SimF g f.run) : SimF (makeD c g) (makeP c f).run := by
  intro S F ds sl hR
  have nf : ¬ F S.length := fun hf => Nat.lt_irrefl _ (hR.fl _ hf)
  have fa := frm_app S [.ins c []] F hR.fl
  have hli : ∀ (j : Nat) (b k : Bool) (p : P), sl[j]? = some (.li b k p) → b = true ∧ ∃ n o, ds[j]? = some (.ref n) ∧ n < S.length ∧ ¬ F n ∧ S[n]? = some o ∧ CR S F o p := fun j b k p g => by
    obtain ⟨n, o, z1, z2, z3, z4, z5⟩ := hR.li j b k p (map_some' g)
    refine ⟨?_, n, o, map_some z1, get_lt z3, z2, z3, z4⟩
    cases b with
    | true => rfl
    | false => exact absurd (z5 rfl) (Nat.not_le.mpr (get_lt z3))
  have R1 : R (S ++ [Ob.ins c []]).length (S ++ [.ins c []]) F ((D.ref S.length :: ds).map some) ((Sl.li true false (.ins c []) :: sl).map some) := by
    refine ⟨by simpa using hR.len, fun n hn => by have := hR.fl n hn; simp; omega, Nat.le_refl _, fun j p g => ?_, fun j b k p g => ?_, fun j g => ?_, fun i j b k p b' k' p' n g1 g2 g3 g4 => ?_⟩
    · cases j with
      | zero => simp at g
      | succ j =>
        obtain ⟨d, z1, z2⟩ := hR.sh j p (by simpa using g)
        exact ⟨d, by simpa using z1, z2.mono fa⟩
    · cases j with
      | zero =>
        simp at g
        obtain ⟨rfl, rfl, rfl⟩ := g
        exact ⟨S.length, .ins c [], rfl, nf, app_new, .ins rfl .nil, fun e => by cases e⟩
      | succ j =>
        obtain ⟨hb, n, o, z1, z2, z3, z4, z5⟩ := hli j b k p (map_some (by simpa using g))
        exact ⟨n, o, by simpa using z1, z3, app_at z4, z5.mono fa, fun e => by rw [hb] at e; cases e⟩
    · cases j with
      | zero => simp at g
      | succ j => have := hR.ex j (by simpa using g); simpa using this
    · have lt : ∀ (j : Nat) (b k : Bool) (p : P), sl[j]? = some (.li b k p) → ds[j]? = some (.ref S.length) → False := fun j b k p g g' => by
        obtain ⟨_, n, o, z1, z2, _⟩ := hli j b k p g
        rw [g'] at z1; cases z1
        exact Nat.lt_irrefl _ z2
      cases i with
      | zero =>
        cases j with
        | zero => rfl
        | succ j =>
          simp at g3
          subst g3
          exact (lt j b' k' p' (map_some (by simpa using g2)) (map_some (by simpa using g4))).elim
      | succ i =>
        cases j with
        | zero =>
          simp at g4
          subst g4
          exact (lt i b k p (map_some (by simpa using g1)) (map_some (by simpa using g3))).elim
        | succ j => rw [hR.nd i j _ _ _ _ _ _ n (by simpa using g1) (by simpa using g2) (by simpa using g3) (by simpa using g4)]
  have r := h (S ++ [.ins c []]) F (.ref S.length :: ds) (.li true false (.ins c []) :: sl) R1
  have fin : ∀ (S' : Sto) (F' : Frs) (fin : List (Option Sl)), FinR (S ++ [.ins c []]) F (.ref S.length :: ds) (.li true false (.ins c []) :: sl) S' F' fin → FinR S F ds sl S' F' fin.tail := by
    intro S' F' fin f
    refine ⟨Nat.le_trans (by simp) f.len, f.fr, f.fl, fun n h1 h2 => ?_, fun n hn => ?_, fun n h1 h2 => f.fz n (by simp; omega) h2, fun j b k p n g1 g2 => ?_⟩
    · rw [f.fm n (by simp; omega) fun j b p g1 g2 => ?_]
      · exact List.getElem?_append_left h1
      · cases j with
        | zero => simp at g2; omega
        | succ j => exact h2 j b p (by simpa using g1) (by simpa using g2)
    · rw [f.fm2 n hn]; exact List.getElem?_append_left (hR.fl n hn)
    · obtain ⟨q, o, z1, z2⟩ := f.fin (j + 1) b k p n (by simpa using g1) (by simpa using g2)
      refine ⟨q, o, ?_, z2⟩
      cases fin with
      | nil => simp at z1
      | cons a fin => simpa using z1
  unfold makeP
  dsimp only
  unfold makeD
  cases e : f.run (.li true false (.ins c []) :: sl) with
  | fail => trivial
  | exc x fn =>
    rw [e] at r
    obtain ⟨y, S', F', g1, g2, g3⟩ := r
    rw [g1]
    exact ⟨y, S', F', rfl, fin _ _ _ g2, g3⟩
  | ok t fn =>
    rw [e] at r
    obtain ⟨d, S', F', g1, g2, g3⟩ := r
    obtain ⟨q, o, z1, z2, z3⟩ := g2.fin 0 true false _ S.length rfl rfl
    cases fn with
    | nil => simp at z1
    | cons a fn =>
      simp at z1
      subst z1
      cases t with
      | v p =>
        cases p with
        | non =>
          have hd : d = .non := RV.non (.inl g3)
          subst hd
          rw [g1]
          refine ⟨.ref S.length, S', F', rfl, fin _ _ _ g2, S.length, o, rfl, Nat.le_refl _, fun hf => nf (g2.fz S.length (by simp) hf), z2, z3⟩
        | _ => trivial
      | o p => trivial
      | l i => trivial
/-! ### tables -/
mutual
def cP : D → Option P
  | .non => some .non
  | .bl b => some (.bl b)
  | .int i => some (.int i)
  | .str x => some (.str x)
  | .glo x => some (.glo x)
  | .ty n => some (.ty n)
  | .tup ds => (cPs ds).map .tup
  | _ => none
def cPs : List D → Option (List P)
  | [] => some []
  | d :: ds => (cP d).bind fun p => (cPs ds).map (p :: ·)
end
mutual
theorem cP_ok (S : Sto) (F : Frs) : ∀ (d : D) (p : P), cP d = some p → SV S F d p
  | .non, _, e => by unfold cP at e; cases e; exact .non
  | .bl b, _, e => by unfold cP at e; cases e; exact .bl b
  | .int b, _, e => by unfold cP at e; cases e; exact .int b
  | .str b, _, e => by unfold cP at e; cases e; exact .str b
  | .glo b, _, e => by unfold cP at e; cases e; exact .glo b
  | .ty b, _, e => by unfold cP at e; cases e; exact .ty b
  | .tup ds, _, e => by
    unfold cP at e
    cases q : cPs ds with
    | none => rw [q] at e; cases e
    | some r => rw [q] at e; cases e; exact .tup (cPs_ok S F ds r q)
  | .ref _, _, e => by unfold cP at e; cases e
  | .exc, _, e => by unfold cP at e; cases e
  | .fz _, _, e => by unfold cP at e; cases e
theorem cPs_ok (S : Sto) (F : Frs) : ∀ (ds : List D) (ps : List P), cPs ds = some ps → SVs S F ds ps
  | [], _, e => by unfold cPs at e; cases e; exact .nil
  | d :: ds, _, e => by
    unfold cPs at e
    cases q : cP d with
    | none => rw [q] at e; cases e
    | some p =>
      cases q2 : cPs ds with
      | none => rw [q, q2] at e; cases e
      | some r => rw [q, q2] at e; cases e; exact .cons (cP_ok S F d p q) (cPs_ok S F ds r q2)
end
abbrev Msk := Str × Option Str → List Bool
def pgOf (T : TabD) (cal : Str → Option PFn) (met : Str → Str → Option PFn) : PGe where
  con := fun x => (T.con.lookup x).bind cP
  fre := fun x => T.fre.contains x
  cls := fun x => T.cls.contains x
  isi := fun t u => T.isi.lookup (t, u)
  noa := fun c f => T.noa.contains (c, f)
  cal := cal
  met := met
def gpOf (T : TabD) (Ψ : PGe) : GP := ⟨Ψ, fun c => match T.ers.lookup c with
  | some ns => some (some ns)
  | none => if T.ert.contains c then some none else none, fun c f => T.xf.contains (c, f), fun c => T.xi.contains c, fun x c => T.mt.lookup (x, c)⟩
def gp (T : TabD) (mk : Msk) : Nat → GP
  | 0 => gpOf T (pgOf T (fun _ => none) (fun _ _ => none))
  | k + 1 => gpOf T (pgOf T (fun x => match T.fns.lookup x with
    | some d => some ⟨mk d.at_, runP d (gp T mk k)⟩
    | none => (match T.mks.lookup x with
      | some d => some (makeP x ⟨mk d.at_, runP d (gp T mk k)⟩)
      | none => none)) (fun c m => (T.mts.lookup (c, m)).map fun d => ⟨mk d.at_, runP d (gp T mk k)⟩))
def conOk (T : TabD) : Bool := T.con.all fun q => (cP q.2).isSome
theorem lookup_mem {α β : Type} [BEq α] [LawfulBEq α] {x : α} {y : β} : ∀ {l : List (α × β)}, l.lookup x = some y → (x, y) ∈ l
  | [], h => by cases h
  | (a, b) :: l, h => by
    unfold List.lookup at h
    split at h
    · rename_i e
      cases h
      have : x = a := by simpa using e
      subst this
      exact List.mem_cons_self
    · exact List.mem_cons_of_mem _ (lookup_mem h)
theorem gp_sim {T : TabD} (hc : conOk T = true) (mk : Msk) : ∀ k, ASim (T.ga k) (gp T mk k) := by
  have con : ∀ (x : Str) (p : P), (T.con.lookup x).bind cP = some p → ∃ d, T.con.lookup x = some d ∧ ∀ S F, SV S F d p := by
    intro x p h
    cases e : T.con.lookup x with
    | none => rw [e] at h; cases h
    | some d => rw [e] at h; exact ⟨d, rfl, fun S F => cP_ok S F d p h⟩
  have con0 : ∀ (x : Str), (T.con.lookup x).bind cP = none → T.con.lookup x = none := by
    intro x h
    cases e : T.con.lookup x with
    | none => rfl
    | some d =>
      rw [e] at h
      have := List.all_eq_true.mp hc (x, d) (lookup_mem e)
      have h' : cP d = none := h
      rw [h'] at this; cases this
  intro k
  induction k with
  | zero => exact ⟨⟨con, con0, rfl, rfl, rfl, rfl, fun x f h => (by cases h), fun x h => rfl, fun c m f h => (by cases h)⟩, rfl, rfl, rfl, rfl⟩
  | succ k ih =>
    refine ⟨⟨con, con0, rfl, rfl, rfl, rfl, fun x f h => ?_, fun x h => ?_, fun c m f h => ?_⟩, rfl, rfl, rfl, rfl⟩
    · have h' : (match T.fns.lookup x with
        | some d => some ⟨mk d.at_, runP d (gp T mk k)⟩
        | none => (match T.mks.lookup x with
          | some d => some (makeP x ⟨mk d.at_, runP d (gp T mk k)⟩)
          | none => none)) = some f := h
      show ∃ g, (match T.fns.lookup x with
        | some d => some (d.run (T.ga k))
        | none => (match T.mks.lookup x with
          | some d => some (makeD x (d.run (T.ga k)))
          | none => none)) = some g ∧ _
      cases e : T.fns.lookup x with
      | some d =>
        rw [e] at h'
        cases h'
        exact ⟨_, rfl, run_sim ih d⟩
      | none =>
        rw [e] at h'
        dsimp only at h' ⊢
        cases e1 : T.mks.lookup x with
        | none => rw [e1] at h'; cases h'
        | some d =>
          rw [e1] at h'
          cases h'
          exact ⟨_, rfl, make_sim (f := ⟨mk d.at_, runP d (gp T mk k)⟩) (run_sim ih d)⟩
    · have h' : (match T.fns.lookup x with
        | some d => some (⟨mk d.at_, runP d (gp T mk k)⟩ : PFn)
        | none => (match T.mks.lookup x with
          | some d => some (makeP x ⟨mk d.at_, runP d (gp T mk k)⟩)
          | none => none)) = none := h
      show (match T.fns.lookup x with
        | some d => some (d.run (T.ga k))
        | none => (match T.mks.lookup x with
          | some d => some (makeD x (d.run (T.ga k)))
          | none => none)) = none
      cases e : T.fns.lookup x with
      | some d => rw [e] at h'; cases h'
      | none =>
        rw [e] at h'
        dsimp only at h' ⊢
        cases e1 : T.mks.lookup x with
        | none => rfl
        | some d => rw [e1] at h'; cases h'
    · have h' : ((T.mts.lookup (c, m)).map fun d => (⟨mk d.at_, runP d (gp T mk k)⟩ : PFn)) = some f := h
      show ∃ g, ((T.mts.lookup (c, m)).map fun d => d.run (T.ga k)) = some g ∧ _
      cases e : T.mts.lookup (c, m) with
      | none => rw [e] at h'; cases h'
      | some d => rw [e] at h'; cases h'; exact ⟨_, rfl, run_sim ih d⟩
theorem svs_ints (S : Sto) (F : Frs) : ∀ ns : List Int, SVs S F (ns.map D.int) (ns.map P.int)
  | [] => .nil
  | n :: ns => .cons (.int n) (svs_ints S F ns)
/-- the law, by its meaning without a store -/
theorem law_pure {T : TabD} (hc : conOk T = true) (mk : Msk) {law : DefT} {k : Nat} {ns : List Int} {fin : List (Option Sl)} (h : runP law (gp T mk k) [.sh (.fz (ns.map P.int))] = .ok (.v (.bl true)) fin) : ∃ S', law.run (T.ga k) [.fz (ns.map D.int)] [] = .ok (.bl true) S' := by
  have r := run_sim (gp_sim hc mk k) law [] (fun _ => False) [.fz (ns.map D.int)] [.sh (.fz (ns.map P.int))] ?_
  · rw [h] at r
    obtain ⟨d, S', F', g1, _, g2⟩ := r
    have : d = .bl true := RV.bl (.inl g2)
    subst this
    exact ⟨S', g1⟩
  · refine ⟨rfl, fun n h => h.elim, Nat.le_refl _, fun j p g => ?_, fun j b k p g => ?_, fun j g => ?_, fun i j b k p b' k' p' n g1 => ?_⟩
    · cases j with
      | zero => simp at g; subst g; exact ⟨_, rfl, .fz (svs_ints _ _ ns)⟩
      | succ j => simp at g
    · cases j with
      | zero => simp at g
      | succ j => simp at g
    · cases j with
      | zero => simp at g
      | succ j => simp at g
    · cases i with
      | zero => simp at g1
      | succ j => simp at g1
end Bt.Pv

set_option Elab.async false
set_option linter.all false
set_option maxRecDepth 100000
set_option maxHeartbeats 2000000
namespace Bt.Pv
open PySem PySem.Spec PyProof.Rows L2 Bt

/-! ### names for the operations -/
abbrev oAdd := lift2 addP
abbrev oSub := lift2 (intP (fun _ _ => true) (fun i j => i - j))
abbrev oMul := lift2 (intP (fun i j => decide (CMul i j)) (fun i j => i * j))
abbrev oDiv := lift2 (intP (fun i j => decide (CDiv i j)) (fun i j => i / j))
abbrev oMod := lift2 (intP (fun _ j => decide (0 < j)) (fun i j => i % j))
abbrev oPow := lift2 (intP (fun i j => decide (CPow i j)) (fun i j => i ^ j.toNat))
abbrev oShl := lift2 (intP (fun i j => decide (CPow i j)) (fun i j => i * 2 ^ j.toNat))
abbrev oShr := lift2 (intP (fun _ j => decide (0 ≤ j)) (fun i j => i / 2 ^ j.toNat))
abbrev oAnd := lift2 (intP (fun _ _ => true) (fun i j => Builtin.bitAnd i j))
abbrev oLt := lift2 (cmpV fun i j => decide (i < j))
abbrev oLe := lift2 (cmpV fun i j => decide (i ≤ j))
abbrev oGt := lift2 (cmpV fun i j => decide (j < i))
abbrev oGe := lift2 (cmpV fun i j => decide (j ≤ i))
abbrev oIs := lift2 (isV false)
abbrev oIsn := lift2 (isV true)
abbrev oNeg := lift1 negP
abbrev oIx := lift2 ixV
abbrev oAttr (Ψ : PGe) (f : Str) := lift1 (attrV Ψ f)
abbrev pYes : PTm := fun pe => .ok true pe

section
variable {α β : Type} {pe : PEnv} {Ψ : PGe}
@[simp] theorem b_ok (a : α) (e : PEnv) (f : α → PEnv → PR β) : (PR.ok a e).bind f = f a e := (rfl)
@[simp] theorem b_exc (x : PX) (e : PEnv) (f : α → PEnv → PR β) : (PR.exc x e : PR α).bind f = .exc x e := (rfl)
@[simp] theorem b_fail (f : α → PEnv → PR β) : (PR.fail : PR α).bind f = .fail := (rfl)
@[simp] theorem t_nx (e : PEnv) (b : PSm) : thenP (.ok .nx e) b = b e := (rfl)
@[simp] theorem t_rt (t : Tm) (e : PEnv) (b : PSm) : thenP (.ok (.rt t) e) b = .ok (.rt t) e := (rfl)
@[simp] theorem t_bk (e : PEnv) (b : PSm) : thenP (.ok .bk e) b = .ok .bk e := (rfl)
@[simp] theorem t_ct (e : PEnv) (b : PSm) : thenP (.ok .ct e) b = .ok .ct e := (rfl)
@[simp] theorem t_exc (x : PX) (e : PEnv) (b : PSm) : thenP (.exc x e) b = .exc x e := (rfl)
@[simp] theorem s_size : sizeLine = 16777216 := sizeLine_eq
/-- what a name gives -/
def vrR (o : Option (Option Sl)) (i : Nat) (pe : PEnv) : PR Tm := match o with
  | some (some (.sh p)) => .ok (.v p) pe
  | some (some (.li _ _ _)) => .ok (.l i) pe
  | _ => .fail
@[simp] theorem vr_sh (p : P) (i : Nat) : vrR (some (some (.sh p))) i pe = .ok (.v p) pe := (rfl)
@[simp] theorem vr_li (b k : Bool) (p : P) (i : Nat) : vrR (some (some (.li b k p))) i pe = .ok (.l i) pe := (rfl)
@[simp] theorem e_var (i : Nat) : pVar i pe = vrR pe[i]? i pe := (rfl)
@[simp] theorem e_c (p : P) : pC p pe = .ok (.v p) pe := (rfl)
@[simp] theorem e_un (g : Tm → PEnv → PR Tm) (a : PEm) : pUn g a pe = (a pe).bind fun t pe => g t pe := (rfl)
@[simp] theorem e_op (g : Tm → Tm → PEnv → PR Tm) (a b : PEm) : pOp g a b pe = (a pe).bind fun t pe => (b pe).bind fun u pe => g t u pe := (rfl)
@[simp] theorem d_v (p : P) : der (.v p) pe = some p := (rfl)
@[simp] theorem d_o (p : P) : der (.o p) pe = some p := (rfl)
@[simp] theorem d_l (i : Nat) : der (.l i) pe = slV pe[i]? := (rfl)
@[simp] theorem sl_sh (p : P) : slV (some (some (.sh p))) = some p := (rfl)
@[simp] theorem sl_li (b k : Bool) (p : P) : slV (some (some (.li b k p))) = some p := (rfl)
/-- a result of an operation by values -/
def opR (o : Option Tm) (pe : PEnv) : PR Tm := match o with
  | some r => .ok r pe
  | none => .fail
@[simp] theorem op_some (t : Tm) : opR (some t) pe = .ok t pe := (rfl)
theorem lift1_at {g : P → Option Tm} {t : Tm} {p : P} (h : der t pe = some p) : lift1 g t pe = opR (g p) pe := by
  unfold lift1 opR; rw [h] <;> rfl
theorem lift2_at {g : P → P → Option Tm} {t u : Tm} {p q : P} (h : der t pe = some p) (h' : der u pe = some q) : lift2 g t u pe = opR (g p q) pe := by
  unfold lift2 opR; rw [h, h'] <;> rfl
@[simp] theorem lift1_v (g : P → Option Tm) (p : P) : lift1 g (.v p) pe = opR (g p) pe := (rfl)
@[simp] theorem lift2_vv (g : P → P → Option Tm) (p q : P) : lift2 g (.v p) (.v q) pe = opR (g p q) pe := (rfl)
def d1R (g : P → Option Tm) (o : Option P) (pe : PEnv) : PR Tm := match o with
  | some p => opR (g p) pe
  | none => .fail
@[simp] theorem d1_some (g : P → Option Tm) (p : P) : d1R g (some p) pe = opR (g p) pe := (rfl)
def d2R (g : P → P → Option Tm) (o o' : Option P) (pe : PEnv) : PR Tm := match o, o' with
  | some p, some q => opR (g p q) pe
  | _, _ => .fail
@[simp] theorem d2_some (g : P → P → Option Tm) (p q : P) : d2R g (some p) (some q) pe = opR (g p q) pe := (rfl)
@[simp] theorem lift1_l (g : P → Option Tm) (i : Nat) : lift1 g (.l i) pe = d1R g (slV pe[i]?) pe := (rfl)
@[simp] theorem lift1_o (g : P → Option Tm) (p : P) : lift1 g (.o p) pe = opR (g p) pe := (rfl)
@[simp] theorem lift2_lv (g : P → P → Option Tm) (i : Nat) (q : P) : lift2 g (.l i) (.v q) pe = d2R g (slV pe[i]?) (some q) pe := by
  unfold lift2 d2R opR; simp only [d_l, d_v] <;> rfl
@[simp] theorem lift2_vl (g : P → P → Option Tm) (i : Nat) (q : P) : lift2 g (.v q) (.l i) pe = d2R g (some q) (slV pe[i]?) pe := by
  unfold lift2 d2R opR; simp only [d_l, d_v] <;> rfl
@[simp] theorem lift2_ll (g : P → P → Option Tm) (i j : Nat) : lift2 g (.l i) (.l j) pe = d2R g (slV pe[i]?) (slV pe[j]?) pe := by
  unfold lift2 d2R opR; simp only [d_l] <;> rfl
@[simp] theorem lift2_ov (g : P → P → Option Tm) (p q : P) : lift2 g (.o p) (.v q) pe = opR (g p q) pe := (rfl)
@[simp] theorem lift2_vo (g : P → P → Option Tm) (p q : P) : lift2 g (.v p) (.o q) pe = opR (g p q) pe := (rfl)
@[simp] theorem lift2_oo (g : P → P → Option Tm) (p q : P) : lift2 g (.o p) (.o q) pe = opR (g p q) pe := (rfl)
@[simp] theorem lift2_lo (g : P → P → Option Tm) (i : Nat) (q : P) : lift2 g (.l i) (.o q) pe = d2R g (slV pe[i]?) (some q) pe := by
  unfold lift2 d2R opR; simp only [d_l, d_o] <;> rfl
@[simp] theorem lift2_ol (g : P → P → Option Tm) (i : Nat) (q : P) : lift2 g (.o q) (.l i) pe = d2R g (some q) (slV pe[i]?) pe := by
  unfold lift2 d2R opR; simp only [d_l, d_o] <;> rfl
/-! numbers -/
@[simp] theorem add_ii (i j : Int) : addP (.int i) (.int j) = some (.v (.int (i + j))) := (rfl)
@[simp] theorem add_ll (xs ys : List P) : addP (.lst xs) (.lst ys) = if xs.length + ys.length ≤ sizeLine then some (.o (.lst (xs ++ ys))) else none := (rfl)
@[simp] theorem add_tt (xs ys : List P) : addP (.tup xs) (.tup ys) = if xs.length + ys.length ≤ sizeLine then some (.v (.tup (xs ++ ys))) else none := (rfl)
@[simp] theorem add_ss (x y : Str) : addP (.str x) (.str y) = if x.length + y.length ≤ sizeLine then some (.v (.str (x ++ y))) else none := (rfl)
@[simp] theorem int_ii (f : Int → Int → Bool) (g : Int → Int → Int) (i j : Int) : intP f g (.int i) (.int j) = if f i j then some (.v (.int (g i j))) else none := (rfl)
@[simp] theorem neg_i (i : Int) : negP (.int i) = some (.v (.int (-i))) := (rfl)
@[simp] theorem cmp_ii (f : Int → Int → Bool) (i j : Int) : cmpV f (.int i) (.int j) = some (.v (.bl (f i j))) := (rfl)
@[simp] theorem c_lt' : cmpT Ψ .Lt = lift2 (cmpV fun i j => decide (i < j)) := (rfl)
@[simp] theorem c_le' : cmpT Ψ .LtE = lift2 (cmpV fun i j => decide (i ≤ j)) := (rfl)
@[simp] theorem c_gt' : cmpT Ψ .Gt = lift2 (cmpV fun i j => decide (j < i)) := (rfl)
@[simp] theorem c_ge' : cmpT Ψ .GtE = lift2 (cmpV fun i j => decide (j ≤ i)) := (rfl)
@[simp] theorem c_is' : cmpT Ψ .Is = lift2 (isV false) := (rfl)
@[simp] theorem c_isn' : cmpT Ψ .IsNot = lift2 (isV true) := (rfl)
@[simp] theorem c_eq' : cmpT Ψ .Eq = eqT Ψ := (rfl)
@[simp] theorem c_ne' : cmpT Ψ .NotEq = neT := (rfl)
@[simp] theorem c_in' : cmpT Ψ .In = inT Ψ false := (rfl)
@[simp] theorem c_nin' : cmpT Ψ .NotIn = inT Ψ true := (rfl)
/-! truth -/
def tbR (o : Option Bool) (pe : PEnv) : PR Bool := match o with
  | some k => .ok k pe
  | none => .fail
@[simp] theorem tb_some (k : Bool) : tbR (some k) pe = .ok k pe := (rfl)
@[simp] theorem e_tru (a : PEm) : pTru a pe = (a pe).bind fun t pe => tbR ((der t pe).bind truP) pe := (rfl)
@[simp] theorem e_notT (a : PTm) : pNotT a pe = (a pe).bind fun k pe => .ok (!k) pe := (rfl)
@[simp] theorem e_andT (a b : PTm) : pAndT a b pe = (a pe).bind fun k pe => if k then b pe else .ok false pe := (rfl)
@[simp] theorem e_orT (a b : PTm) : pOrT a b pe = (a pe).bind fun k pe => if k then .ok true pe else b pe := (rfl)
@[simp] theorem e_test (a : PEm) : pTest a pe = pBl (a pe) := (rfl)
@[simp] theorem bl_ok (k : Bool) : pBl (.ok (.v (.bl k)) pe) = .ok k pe := (rfl)
@[simp] theorem bl_exc (x : PX) : pBl (.exc x pe) = .exc x pe := (rfl)
@[simp] theorem bl_fail : pBl .fail = .fail := (rfl)
def avR (o : Option Bool) (f : Bool → PR Tm) : PR Tm := match o with
  | some k => f k
  | none => .fail
@[simp] theorem av_some (k : Bool) (f : Bool → PR Tm) : avR (some k) f = f k := (rfl)
@[simp] theorem e_andV (a b : PEm) : pAndV a b pe = (a pe).bind fun t pe => avR ((der t pe).bind truP) fun k => if k then b pe else .ok t pe := by
  unfold pAndV
  cases a pe with
  | ok t pe =>
    simp only [b_ok]
    cases (der t pe).bind truP with
    | none => rfl
    | some k => cases k <;> rfl
  | exc x pe => rfl
  | fail => rfl
@[simp] theorem e_orV (a b : PEm) : pOrV a b pe = (a pe).bind fun t pe => avR ((der t pe).bind truP) fun k => if k then .ok t pe else b pe := by
  unfold pOrV
  cases a pe with
  | ok t pe =>
    simp only [b_ok]
    cases (der t pe).bind truP with
    | none => rfl
    | some k => cases k <;> rfl
  | exc x pe => rfl
  | fail => rfl
@[simp] theorem e_notV (a : PEm) : pNotV a pe = (a pe).bind fun t pe => avR ((der t pe).bind truP) fun k => .ok (.v (.bl (!k))) pe := by
  unfold pNotV
  cases a pe with
  | ok t pe =>
    simp only [b_ok]
    cases (der t pe).bind truP <;> rfl
  | exc x pe => rfl
  | fail => rfl
@[simp] theorem tru_bl (k : Bool) : truP (.bl k) = some k := (rfl)
@[simp] theorem tru_non : truP .non = some false := (rfl)
@[simp] theorem tru_int (i : Int) : truP (.int i) = some (i != 0) := (rfl)
@[simp] theorem tru_lst (xs : List P) : truP (.lst xs) = some (!xs.isEmpty) := (rfl)
@[simp] theorem tru_tup (xs : List P) : truP (.tup xs) = some (!xs.isEmpty) := (rfl)
@[simp] theorem ob_some {γ δ : Type} (x : γ) (f : γ → Option δ) : (some x).bind f = f x := (rfl)
@[simp] theorem e_ifE (t : PTm) (a b : PEm) : pIfE t a b pe = (t pe).bind fun k pe => if k then a pe else b pe := (rfl)
/-! a < b < c -/
def chQ (z : Tm) (pe : PEnv) (f : PEnv → PR Tm) : PR Tm := match blT z with
  | some true => f pe
  | some false => .ok (.v (.bl false)) pe
  | none => .fail
@[simp] theorem ch_b (k : Bool) (f : PEnv → PR Tm) : chQ (.v (.bl k)) pe f = if k then f pe else .ok (.v (.bl false)) pe := by cases k <;> rfl
def chV (u : Tm) (f : P → PR Tm) : PR Tm := match vT u with
  | some p => f p
  | none => .fail
@[simp] theorem chV_v (p : P) (f : P → PR Tm) : chV (.v p) f = f p := (rfl)
@[simp] theorem e_chain (g g' : Tm → Tm → PEnv → PR Tm) (a b c : PEm) : pChain g g' a b c pe = (a pe).bind fun t pe => (b pe).bind fun u pe => chV u fun p => (g t (.v p) pe).bind fun z pe => chQ z pe fun pe => (c pe).bind fun w pe => g' (.v p) w pe := (rfl)
/-! displays -/
@[simp] theorem e_nil (m : List Bool) : pNil m pe = .ok [] pe := (rfl)
def caR (o : Option (Ar × PEnv)) (f : Ar → PEnv → PR α) : PR α := match o with
  | some (x, pe) => f x pe
  | none => .fail
@[simp] theorem ca_some (x : Ar) (f : Ar → PEnv → PR α) : caR (some (x, pe)) f = f x pe := (rfl)
@[simp] theorem e_cons (a : PEm) (r : PAm) (m : List Bool) : pCons a r m pe = (a pe).bind fun t pe => caR (pArg (m.headD false) t pe) fun x pe => (r m.tail pe).bind fun xs pe => .ok (x :: xs) pe := (rfl)
@[simp] theorem pa_v (b : Bool) (p : P) : pArg b (.v p) pe = some (.sh p, pe) := by cases b <;> rfl
@[simp] theorem pa_o (b : Bool) (p : P) : pArg b (.o p) pe = some (.sh p, pe) := by cases b <;> rfl
@[simp] theorem pa_lt (i : Nat) : pArg true (.l i) pe = some (.l i, pe) := (rfl)
@[simp] theorem pa_lf (i : Nat) : pArg false (.l i) pe = (frz (.l i) pe).map fun q => (.sh q.1, q.2) := (rfl)
def fzR (o : Option (Option Sl)) (i : Nat) (pe : PEnv) : Option (P × PEnv) := match o with
  | some (some (.sh p)) => some (p, pe)
  | some (some (.li false _ p)) => some (p, pe.set i (some (.sh p)))
  | _ => none
@[simp] theorem fz_v (p : P) : frz (.v p) pe = some (p, pe) := (rfl)
@[simp] theorem fz_o (p : P) : frz (.o p) pe = some (p, pe) := (rfl)
@[simp] theorem fz_l (i : Nat) : frz (.l i) pe = fzR pe[i]? i pe := (rfl)
@[simp] theorem fzR_sh (p : P) (i : Nat) : fzR (some (some (.sh p))) i pe = some (p, pe) := (rfl)
@[simp] theorem fzR_li (k : Bool) (p : P) (i : Nat) : fzR (some (some (.li false k p))) i pe = some (p, pe.set i (some (.sh p))) := (rfl)
@[simp] theorem shs_nil : shsA [] = some [] := (rfl)
@[simp] theorem shs_cons (p : P) (r : List Ar) : shsA (.sh p :: r) = (shsA r).map (p :: ·) := (rfl)
def shR (o : Option (List P)) (f : List P → PR α) : PR α := match o with
  | some ps => f ps
  | none => .fail
@[simp] theorem sh_some (ps : List P) (f : List P → PR α) : shR (some ps) f = f ps := (rfl)
@[simp] theorem e_tup (a : PAm) : pTup a pe = (a [] pe).bind fun as pe => shR (shsA as) fun ps => if ps.length ≤ sizeLine then .ok (.v (.tup ps)) pe else .fail := (rfl)
@[simp] theorem e_lst (a : PAm) : pLst a pe = (a [] pe).bind fun as pe => shR (shsA as) fun ps => if ps.length ≤ sizeLine then .ok (.o (.lst ps)) pe else .fail := (rfl)
/-! calls -/
theorem callP_ok {f : PFn} {as : List Ar} {sl : List Sl} {t : Tm} {fin : List (Option Sl)} (hd : disA as = true) (hs : slsA as pe = some sl) (h : f.run sl = .ok t fin) : callP f as pe = .ok t (backP as fin pe) := by
  unfold callP; rw [if_pos hd, hs]; simp only [h]
theorem callP_exc {f : PFn} {as : List Ar} {sl : List Sl} {x : PX} {fin : List (Option Sl)} (hd : disA as = true) (hs : slsA as pe = some sl) (h : f.run sl = .exc x fin) : callP f as pe = .exc x (backP as fin pe) := by
  unfold callP; rw [if_pos hd, hs]; simp only [h]
/-- a call's result -/
def rcR (r : PF) (as : List Ar) (pe : PEnv) : PR Tm := match r with
  | .ok t fin => .ok t (backP as fin pe)
  | .exc x fin => .exc x (backP as fin pe)
  | .fail => .fail
@[simp] theorem rc_ok (t : Tm) (fin : List (Option Sl)) (as : List Ar) : rcR (.ok t fin) as pe = .ok t (backP as fin pe) := (rfl)
@[simp] theorem rc_exc (x : PX) (fin : List (Option Sl)) (as : List Ar) : rcR (.exc x fin) as pe = .exc x (backP as fin pe) := (rfl)
def slR (o : Option (List Sl)) (f : List Sl → PR α) : PR α := match o with
  | some sl => f sl
  | none => .fail
@[simp] theorem slR_some (sl : List Sl) (f : List Sl → PR α) : slR (some sl) f = f sl := (rfl)
@[simp] theorem e_callP (f : PFn) (as : List Ar) : callP f as pe = if disA as then slR (slsA as pe) fun sl => rcR (f.run sl) as pe else .fail := by
  unfold callP slR rcR
  rfl
@[simp] theorem dis_nil : disA [] = true := (rfl)
@[simp] theorem dis_sh (p : P) (r : List Ar) : disA (.sh p :: r) = disA r := (rfl)
@[simp] theorem dis_l (i : Nat) (r : List Ar) : disA (.l i :: r) = (!(r.any (Ar.isL i)) && disA r) := (rfl)
@[simp] theorem isL_sh (i : Nat) (p : P) : Ar.isL i (.sh p) = false := (rfl)
@[simp] theorem isL_l (i j : Nat) : Ar.isL i (.l j) = decide (j = i) := (rfl)
def saR (o : Option (Option Sl)) : Option Sl := match o with
  | some (some (.sh p)) => some (.sh p)
  | some (some (.li _ k p)) => some (.li true k p)
  | _ => none
@[simp] theorem sa_sh (p : P) : saR (some (some (.sh p))) = some (.sh p) := (rfl)
@[simp] theorem sa_li (b k : Bool) (p : P) : saR (some (some (.li b k p))) = some (.li true k p) := (rfl)
@[simp] theorem slA_sh (p : P) : slA (.sh p) pe = some (.sh p) := (rfl)
@[simp] theorem slA_l (i : Nat) : slA (.l i) pe = saR pe[i]? := (rfl)
@[simp] theorem sls_nil : slsA [] pe = some [] := (rfl)
@[simp] theorem sls_cons (a : Ar) (r : List Ar) : slsA (a :: r) pe = (slA a pe).bind fun s => (slsA r pe).map (s :: ·) := by
  show (match slA a pe, slsA r pe with
    | some s, some l => some (s :: l)
    | _, _ => none) = _
  cases slA a pe <;> cases slsA r pe <;> rfl
@[simp] theorem bk_nil (fin : List (Option Sl)) : backP [] fin pe = pe := by unfold backP; rfl
@[simp] theorem bk_fnil : ∀ as : List Ar, backP as [] pe = pe
  | [] => by unfold backP; rfl
  | .l _ :: _ => by unfold backP; rfl
  | .sh _ :: _ => by unfold backP; rfl
@[simp] theorem bk_l (i : Nat) (as : List Ar) (f : Option Sl) (fs : List (Option Sl)) : backP (.l i :: as) (f :: fs) pe = backP as fs (backS pe i f) := (rfl)
@[simp] theorem bk_sh (p : P) (as : List Ar) (f : Option Sl) (fs : List (Option Sl)) : backP (.sh p :: as) (f :: fs) pe = backP as fs pe := (rfl)
def bsR (o : Option (Option Sl)) (pe : PEnv) (i : Nat) (q : P) : PEnv := match o with
  | some (some (.li b k _)) => pe.set i (some (.li b k q))
  | _ => pe
@[simp] theorem bsR_li (b k : Bool) (p q : P) (i : Nat) : bsR (some (some (.li b k p))) pe i q = pe.set i (some (.li b k q)) := (rfl)
@[simp] theorem bsR_sh (p q : P) (i : Nat) : bsR (some (some (.sh p))) pe i q = pe := (rfl)
@[simp] theorem bks_li (i : Nat) (b k : Bool) (q : P) : backS pe i (some (.li b k q)) = bsR pe[i]? pe i q := (rfl)
@[simp] theorem bks_none (i : Nat) : backS pe i none = pe := (rfl)
theorem e_call {f : Str} {g : PFn} {m : PAm} (h : Ψ.cal f = some g) : pCall Ψ f m pe = (m g.mask pe).bind fun as pe => callP g as pe := by
  unfold pCall; rw [h]
theorem e_callB {f : Str} {g : List Ar → PEnv → PR Tm} {m : PAm} (h0 : Ψ.cal f = none) (h1 : Ψ.fre f = true) (h : bltP Ψ f = some g) : pCall Ψ f m pe = (m bm pe).bind fun as pe => g as pe := by
  unfold pCall; rw [h0]; dsimp only; rw [if_pos h1, h]
theorem e_call0 {f : Str} {g : PFn} (h : Ψ.cal f = some g) : pCall0 Ψ f pe = callP g [] pe := by
  unfold pCall0; rw [h]
@[simp] theorem tm_sh (p : P) : Ar.tm (.sh p) = .v p := (rfl)
@[simp] theorem tm_l (i : Nat) : Ar.tm (.l i) = .l i := (rfl)
@[simp] theorem e_blt1 (g : P → Option Tm) (a : Ar) : blt1 g [a] pe = opR ((der (Ar.tm a) pe).bind g) pe := (rfl)
@[simp] theorem int_v (i : Int) : intV (.int i) = some (.v (.int i)) := (rfl)
@[simp] theorem list_l (xs : List P) : listV (.lst xs) = some (.o (.lst xs)) := (rfl)
@[simp] theorem list_t (xs : List P) : listV (.tup xs) = some (.o (.lst xs)) := (rfl)
@[simp] theorem tup_l (xs : List P) : tupV (.lst xs) = some (.v (.tup xs)) := (rfl)
@[simp] theorem tup_t (xs : List P) : tupV (.tup xs) = some (.v (.tup xs)) := (rfl)
def bbR (o : Option Bool) (pe : PEnv) : PR Tm := match o with
  | some k => .ok (.v (.bl k)) pe
  | none => .fail
@[simp] theorem bb_some (k : Bool) : bbR (some k) pe = .ok (.v (.bl k)) pe := (rfl)
def is2R (Ψ : PGe) (o o' : Option P) (pe : PEnv) : PR Tm := match o, o' with
  | some p, some q => bbR (isiP Ψ p q) pe
  | _, _ => .fail
@[simp] theorem is2_some (p q : P) : is2R Ψ (some p) (some q) pe = bbR (isiP Ψ p q) pe := (rfl)
@[simp] theorem e_isi (x c : Ar) : isiT Ψ [x, c] pe = is2R Ψ (der (Ar.tm x) pe) (der (Ar.tm c) pe) pe := (rfl)
def lnR (o : Option Nat) (pe : PEnv) (f : PR Tm) : PR Tm := match o with
  | some k => .ok (.v (.int k)) pe
  | none => f
@[simp] theorem ln_some (k : Nat) (f : PR Tm) : lnR (some k) pe f = .ok (.v (.int k)) pe := (rfl)
theorem len_at {a : Ar} {p : P} {k : Nat} (h : der (Ar.tm a) pe = some p) (e : lenV p = some k) : lenT Ψ [a] pe = .ok (.v (.int k)) pe := by
  simp only [lenT, h, e]
@[simp] theorem len_shl (xs : List P) : lenT Ψ [.sh (.lst xs)] pe = .ok (.v (.int xs.length)) pe := (rfl)
@[simp] theorem len_sht (xs : List P) : lenT Ψ [.sh (.tup xs)] pe = .ok (.v (.int xs.length)) pe := (rfl)
@[simp] theorem len_shd (xs : List (Key × P)) : lenT Ψ [.sh (.dic xs)] pe = .ok (.v (.int xs.length)) pe := (rfl)
def lsR (Ψ : PGe) (o : Option P) (a : Ar) (pe : PEnv) : PR Tm := match o with
  | some (.lst xs) => .ok (.v (.int xs.length)) pe
  | some (.tup xs) => .ok (.v (.int xs.length)) pe
  | some (.dic xs) => .ok (.v (.int xs.length)) pe
  | _ => lenT Ψ [a] pe
@[simp] theorem ls_lst (xs : List P) (a : Ar) : lsR Ψ (some (.lst xs)) a pe = .ok (.v (.int xs.length)) pe := (rfl)
theorem len_l (i : Nat) : lenT Ψ [.l i] pe = lsR Ψ (slV pe[i]?) (.l i) pe := by
  unfold lsR
  split
  · rename_i xs h; exact len_at h rfl
  · rename_i xs h; exact len_at h rfl
  · rename_i xs h; exact len_at h rfl
  · rfl
@[simp] theorem out_nx (sl : List Sl) : outP sl (.ok .nx pe) = .ok (.v .non) (finP sl pe) := (rfl)
def orR (o : Option Tm) (sl : List Sl) (pe : PEnv) : PF := match o with
  | some u => .ok u (finP sl pe)
  | none => .fail
@[simp] theorem or_some (u : Tm) (sl : List Sl) : orR (some u) sl pe = .ok u (finP sl pe) := (rfl)
@[simp] theorem out_rt (t : Tm) (sl : List Sl) : outP sl (.ok (.rt t) pe) = orR (retT t pe) sl pe := (rfl)
@[simp] theorem out_exc (x : PX) (sl : List Sl) : outP sl (.exc x pe) = .exc x (finP sl pe) := (rfl)
@[simp] theorem ret_v (p : P) : retT (.v p) pe = some (.v p) := (rfl)
@[simp] theorem ret_o (p : P) : retT (.o p) pe = some (.o p) := (rfl)
def rtR (o : Option (Option Sl)) : Option Tm := match o with
    | some (some (.sh p)) => some (.v p)
    | some (some (.li false _ p)) => some (.o p)
    | _ => none
@[simp] theorem ret_l (i : Nat) : retT (.l i) pe = rtR pe[i]? := (rfl)
@[simp] theorem rt_sh (p : P) : rtR (some (some (.sh p))) = some (.v p) := (rfl)
@[simp] theorem rt_li (k : Bool) (p : P) : rtR (some (some (.li false k p))) = some (.o p) := (rfl)
@[simp] theorem fin_nil : finP [] pe = [] := by unfold finP; rfl
@[simp] theorem fin_sh (p : P) (r : List Sl) (x : Option Sl) : finP (.sh p :: r) (x :: pe) = none :: finP r pe := (rfl)
@[simp] theorem fin_li (b k : Bool) (p : P) (r : List Sl) (x : Option Sl) : finP (.li b k p :: r) (x :: pe) = x :: finP r pe := (rfl)
/-! statements -/
@[simp] theorem e_nilS : pNilS pe = .ok .nx pe := (rfl)
@[simp] theorem e_seq (a b : PSm) : pSeq a b pe = thenP (a pe) b := (rfl)
@[simp] theorem e_expr (m : PEm) : pExpr m pe = (m pe).bind fun _ pe => .ok .nx pe := (rfl)
@[simp] theorem e_ret (m : PEm) : pRet m pe = (m pe).bind fun t pe => .ok (.rt t) pe := (rfl)
@[simp] theorem e_retN : pRetN pe = .ok (.rt (.v .non)) pe := (rfl)
@[simp] theorem e_if (t : PTm) (a b : PSm) : pIf t a b pe = (t pe).bind fun k pe => if k then a pe else b pe := (rfl)
@[simp] theorem e_brk : pBrk pe = .ok .bk pe := (rfl)
@[simp] theorem e_cnt : pCnt pe = .ok .ct pe := (rfl)
@[simp] theorem e_asg (m : PEm) (g : PGm) : pAsg m g pe = (m pe).bind fun t pe => g t pe := (rfl)
@[simp] theorem n_v (i : Nat) (p : P) : pNam i (.v p) pe = if asgOk pe[i]? then .ok .nx (pe.set i (some (.sh p))) else .fail := (rfl)
@[simp] theorem n_o (i : Nat) (p : P) : pNam i (.o p) pe = if asgOk pe[i]? then .ok .nx (pe.set i (some (.li false false p))) else .fail := (rfl)
def nlR (o : Option (P × PEnv)) (i : Nat) : PR PFl := match o with
  | some (p, pe) => if asgOk pe[i]? then .ok .nx (pe.set i (some (.sh p))) else .fail
  | none => .fail
@[simp] theorem nl_some (p : P) (i : Nat) : nlR (some (p, pe)) i = if asgOk pe[i]? then .ok .nx (pe.set i (some (.sh p))) else .fail := (rfl)
@[simp] theorem n_l (i j : Nat) : pNam i (.l j) pe = nlR (frz (.l j) pe) i := (rfl)
@[simp] theorem ag_none : asgOk (some none) = true := (rfl)
@[simp] theorem ag_sh (p : P) : asgOk (some (some (.sh p))) = true := (rfl)
@[simp] theorem ag_li (k : Bool) (p : P) : asgOk (some (some (.li false k p))) = true := (rfl)
@[simp] theorem ag_ex : asgOk (some (some .ex)) = true := (rfl)
/-! raise, fields, try -/
@[simp] theorem e_raise (c : Str) (ns : List Str) (m : PAm) : pRaise c ns m pe = (m [] pe).bind fun as pe => shR (shsA as) fun ps => if ps.length = ns.length then .exc ⟨c, (ns.zip ps).reverse⟩ pe else .fail := (rfl)
@[simp] theorem e_raiseT (c : Str) : pRaiseT c pe = .exc ⟨c, []⟩ pe := (rfl)
def fwR (w : Tm) (g : P → Option P) (pe : PEnv) : PR PFl := match w with
  | .l j => mutS j g pe
  | _ => .fail
@[simp] theorem fw_l (j : Nat) (g : P → Option P) : fwR (.l j) g pe = mutS j g pe := (rfl)
def fxR (o : Option (P × PEnv)) (f : P → PEnv → PR PFl) : PR PFl := match o with
  | some (x, pe) => f x pe
  | none => .fail
@[simp] theorem fx_some (x : P) (f : P → PEnv → PR PFl) : fxR (some (x, pe)) f = f x pe := (rfl)
@[simp] theorem e_fld (f : Str) (m o : PEm) : pFld Ψ f m o pe = (m pe).bind fun t pe => fxR (frz t pe) fun x pe => (o pe).bind fun w pe => fwR w (fldV Ψ f x) pe := (rfl)
def trR (mt : Str → Option Bool) (i : Nat) (suite : PX → PSm) (q : PR PFl) : PR PFl := match q with
  | .exc x pe' => (match mt x.c with
    | some true => if asgOk pe'[i]? then wipeQ i (suite x (pe'.set i (some .ex))) else .fail
    | some false => .exc x pe'
    | none => .fail)
  | q => q
@[simp] theorem e_tryAs (mt : Str → Option Bool) (i : Nat) (body : PSm) (suite : PX → PSm) : pTryAs mt i body suite pe = trR mt i suite (body pe) := (rfl)
@[simp] theorem tr_ok (mt : Str → Option Bool) (i : Nat) (suite : PX → PSm) (fl : PFl) : trR mt i suite (.ok fl pe) = .ok fl pe := (rfl)
theorem tr_exc {mt : Str → Option Bool} {i : Nat} {suite : PX → PSm} {x : PX} (h : mt x.c = some true) : trR mt i suite (.exc x pe) = if asgOk pe[i]? then wipeQ i (suite x (pe.set i (some .ex))) else .fail := by
  unfold trR; simp only [h]
def trB (o : Option Bool) (i : Nat) (suite : PX → PSm) (x : PX) (pe : PEnv) : PR PFl := match o with
  | some true => if asgOk pe[i]? then wipeQ i (suite x (pe.set i (some .ex))) else .fail
  | some false => .exc x pe
  | none => .fail
@[simp] theorem tr_e (mt : Str → Option Bool) (i : Nat) (suite : PX → PSm) (x : PX) : trR mt i suite (.exc x pe) = trB (mt x.c) i suite x pe := (rfl)
@[simp] theorem trB_t (i : Nat) (suite : PX → PSm) (x : PX) : trB (some true) i suite x pe = if asgOk pe[i]? then wipeQ i (suite x (pe.set i (some .ex))) else .fail := (rfl)
@[simp] theorem trB_f (i : Nat) (suite : PX → PSm) (x : PX) : trB (some false) i suite x pe = .exc x pe := (rfl)
theorem tr_pass {mt : Str → Option Bool} {i : Nat} {suite : PX → PSm} {x : PX} (h : mt x.c = some false) : trR mt i suite (.exc x pe) = .exc x pe := by
  unfold trR; simp only [h]
def trN (mt : Str → Option Bool) (suite : PX → PSm) (q : PR PFl) : PR PFl := match q with
  | .exc x pe' => (match mt x.c with
    | some true => noXq (suite x pe')
    | some false => .exc x pe'
    | none => .fail)
  | q => q
@[simp] theorem e_try (mt : Str → Option Bool) (body : PSm) (suite : PX → PSm) : pTry mt body suite pe = trN mt suite (body pe) := (rfl)
@[simp] theorem trN_ok (mt : Str → Option Bool) (suite : PX → PSm) (fl : PFl) : trN mt suite (.ok fl pe) = .ok fl pe := (rfl)
theorem trN_exc {mt : Str → Option Bool} {suite : PX → PSm} {x : PX} (h : mt x.c = some true) : trN mt suite (.exc x pe) = noXq (suite x pe) := by
  unfold trN; simp only [h]
@[simp] theorem nx_ok (fl : PFl) : noXq (.ok fl pe) = .ok fl pe := (rfl)
@[simp] theorem wq_rt (i : Nat) (t : Tm) : wipeQ i (.ok (.rt t) pe) = .ok (.rt t) pe := (rfl)
@[simp] theorem wq_nx (i : Nat) : wipeQ i (.ok .nx pe) = if asgOk pe[i]? then .ok .nx (pe.set i none) else .fail := (rfl)
@[simp] theorem ix_ex : isEx (some (some .ex)) = true := (rfl)
def efR (o : Option P) (pe : PEnv) : PR Tm := match o with
  | some p => .ok (.v p) pe
  | none => .fail
@[simp] theorem ef_some (p : P) : efR (some p) pe = .ok (.v p) pe := (rfl)
@[simp] theorem e_errF (xf : Str → Str → Bool) (i : Nat) (y : PX) (f : Str) : pErrF xf i y f pe = if isEx pe[i]? && xf y.c f then efR (y.fs.lookup f) pe else .fail := (rfl)
def eiR (Ψ : PGe) (c : Str) (o : Option Ty) (pe : PEnv) : PR Tm := match o with
  | some u => (match Ψ.isi (.o c) u with
    | some b => .ok (.v (.bl b)) pe
    | none => .fail)
  | none => .fail
theorem ei_some {c : Str} {u : Ty} {b : Bool} (h : Ψ.isi (.o c) u = some b) : eiR Ψ c (some u) pe = .ok (.v (.bl b)) pe := by
  unfold eiR; simp only [h]
@[simp] theorem ei_s (c : Str) (u : Ty) : eiR Ψ c (some u) pe = bbR (Ψ.isi (.o c) u) pe := (rfl)
@[simp] theorem tc_ty (n : String) : tyCP (.ty n) = some (.b n) := (rfl)
@[simp] theorem tc_glo (n : Str) : tyCP (.glo n) = some (.o n) := (rfl)
@[simp] theorem e_errI (xi : Str → Bool) (i : Nat) (y : PX) (c : PEm) : pErrI Ψ xi i y c pe = if isEx pe[i]? && xi y.c then (c pe).bind fun t pe => eiR Ψ y.c ((der t pe).bind tyCP) pe else .fail := (rfl)
theorem mk_ok {c : Str} {f : PFn} {sl : List Sl} {b k : Bool} {p : P} {r : List (Option Sl)} (h : f.run (.li true false (.ins c []) :: sl) = .ok (.v .non) (some (.li b k p) :: r)) : (makeP c f).run sl = .ok (.o p) r := by
  unfold makeP; simp only [h]
theorem mk_exc {c : Str} {f : PFn} {sl : List Sl} {x : PX} {r : List (Option Sl)} (h : f.run (.li true false (.ins c []) :: sl) = .exc x r) : (makeP c f).run sl = .exc x r.tail := by
  unfold makeP; simp only [h]
@[simp] theorem look_hit (f : Str) (x : P) (r : List (Str × P)) : List.lookup f ((f, x) :: r) = some x := by simp [List.lookup]
@[simp] theorem e_revL (a : PEm) : pRevL a pe = (a pe).bind fun t pe => lift1 revV t pe := (rfl)
@[simp] theorem rev_l (xs : List P) : revV (.lst xs) = some (.o (.lst xs.reverse)) := (rfl)
/-! items of displays -/
def subR (o : Tm) (q : Option P) (x : P) (pe : PEnv) : PR PFl := match o, q with
  | .l j, some q => mutS j (setV q x) pe
  | _, _ => .fail
@[simp] theorem sub_l (j : Nat) (q x : P) : subR (.l j) (some q) x pe = mutS j (setV q x) pe := (rfl)
def sxR (o : Option (P × PEnv)) (f : P → PEnv → PR PFl) : PR PFl := match o with
  | some (x, pe) => f x pe
  | none => .fail
@[simp] theorem sx_some (x : P) (f : P → PEnv → PR PFl) : sxR (some (x, pe)) f = f x pe := (rfl)
@[simp] theorem e_sub (mo mi : PEm) (t : Tm) : pSub mo mi t pe = sxR (frz t pe) fun x pe => (mo pe).bind fun o pe => (mi pe).bind fun i pe => subR o (der i pe) x pe := (rfl)
def msR (o : Option (Option Sl)) (i : Nat) (g : P → Option P) (pe : PEnv) : PR PFl := match o with
  | some (some (.li b false p)) => (match g p with
    | some p' => .ok .nx (pe.set i (some (.li b false p')))
    | none => .fail)
  | _ => .fail
def mgR (o : Option P) (b : Bool) (i : Nat) (pe : PEnv) : PR PFl := match o with
  | some p' => .ok .nx (pe.set i (some (.li b false p')))
  | none => .fail
@[simp] theorem mg_some (p : P) (b : Bool) (i : Nat) : mgR (some p) b i pe = .ok .nx (pe.set i (some (.li b false p))) := (rfl)
@[simp] theorem e_mutS (i : Nat) (g : P → Option P) : mutS i g pe = msR pe[i]? i g pe := (rfl)
@[simp] theorem ms_li (b : Bool) (p : P) (i : Nat) (g : P → Option P) : msR (some (some (.li b false p))) i g pe = mgR (g p) b i pe := by
  unfold msR mgR
  rfl
@[simp] theorem set_lst' (k : Int) (x : P) (xs : List P) : setV (.int k) x (.lst xs) = (ixN xs.length k).map fun j => .lst (xs.set j x) := (rfl)
def mpR (o : Option (Option Sl)) (i : Nat) (g : P → Option (P × P)) (pe : PEnv) : PR Tm := match o with
  | some (some (.li b false p)) => (match g p with
    | some (r, p') => .ok (.v r) (pe.set i (some (.li b false p')))
    | none => .fail)
  | _ => .fail
def mqR (o : Option (P × P)) (b : Bool) (i : Nat) (pe : PEnv) : PR Tm := match o with
  | some (r, p') => .ok (.v r) (pe.set i (some (.li b false p')))
  | none => .fail
@[simp] theorem mq_some (r p : P) (b : Bool) (i : Nat) : mqR (some (r, p)) b i pe = .ok (.v r) (pe.set i (some (.li b false p))) := (rfl)
@[simp] theorem e_mutP (i : Nat) (g : P → Option (P × P)) : mutP i g pe = mpR pe[i]? i g pe := (rfl)
@[simp] theorem mp_li (b : Bool) (p : P) (i : Nat) (g : P → Option (P × P)) : mpR (some (some (.li b false p))) i g pe = mqR (g p) b i pe := by
  unfold mpR mqR
  rfl
/-! methods -/
def mtR (Ψ : PGe) (m : Str) (t : Tm) (args : PAm) (o : Option P) (pe : PEnv) : PR Tm := match o with
  | some (.str z) => if m = "join" then (args bm pe).bind fun as pe => blt1 (joinV z) as pe else .fail
  | some (.lst _) => (match lmP m with
    | some g => (args [] pe).bind fun as pe => lmT g t as pe
    | none => .fail)
  | some (.ins c fs) => if (fs.lookup m).isNone then (match Ψ.met c m with
    | some f => (match pArg (f.mask.headD false) t pe with
      | some (a, pe) => (args f.mask.tail pe).bind fun as pe => callP f (a :: as) pe
      | none => .fail)
    | none => .fail) else .fail
  | _ => .fail
@[simp] theorem e_meth (m : Str) (o : PEm) (args : PAm) : pMeth Ψ m o args pe = (o pe).bind fun t pe => mtR Ψ m t args (der t pe) pe := (rfl)
@[simp] theorem mt_app (t : Tm) (args : PAm) (xs : List P) : mtR Ψ "append" t args (some (.lst xs)) pe = (args [] pe).bind fun as pe => lmT (fun as p => match p, as with
    | .lst xs, [x] => if xs.length < sizeLine then some (.non, .lst (xs ++ [x])) else none
    | _, _ => none) t as pe := rfl
@[simp] theorem mt_rev (t : Tm) (args : PAm) (xs : List P) : mtR Ψ "reverse" t args (some (.lst xs)) pe = (args [] pe).bind fun as pe => lmT (fun as p => match p, as with
    | .lst xs, [] => some (.non, .lst xs.reverse)
    | _, _ => none) t as pe := (rfl)
@[simp] theorem mt_clr (t : Tm) (args : PAm) (xs : List P) : mtR Ψ "clear" t args (some (.lst xs)) pe = (args [] pe).bind fun as pe => lmT (fun as p => match p, as with
    | .lst xs, [] => some (.non, .lst [])
    | _, _ => none) t as pe := (rfl)
@[simp] theorem mt_pop (t : Tm) (args : PAm) (xs : List P) : mtR Ψ "pop" t args (some (.lst xs)) pe = (args [] pe).bind fun as pe => lmT (fun as p => match p with
    | .lst xs => (popP as xs).map fun q => (q.1, .lst q.2)
    | _ => none) t as pe := (rfl)
@[simp] theorem e_dic0 : pDic0 pe = .ok (.o (.dic [])) pe := (rfl)
@[simp] theorem mt_join (t : Tm) (args : PAm) (z : Str) : mtR Ψ "join" t args (some (.str z)) pe = (args bm pe).bind fun as pe => blt1 (joinV z) as pe := (rfl)
theorem mt_ins {m : Str} {t : Tm} {args : PAm} {c : Str} {fs : List (Str × P)} {f : PFn} (h1 : (fs.lookup m).isNone = true) (h2 : Ψ.met c m = some f) : mtR Ψ m t args (some (.ins c fs)) pe = caR (pArg (f.mask.headD false) t pe) fun a pe => (args f.mask.tail pe).bind fun as pe => callP f (a :: as) pe := by
  unfold mtR caR; dsimp only; rw [if_pos h1, h2]
def ltR (g : List P → P → Option (P × P)) (t : Tm) (o : Option (List P)) (pe : PEnv) : PR Tm := match t, o with
  | .l i, some ps => mutP i (g ps) pe
  | _, _ => .fail
@[simp] theorem lt_l (g : List P → P → Option (P × P)) (i : Nat) (ps : List P) : ltR g (.l i) (some ps) pe = mutP i (g ps) pe := (rfl)
@[simp] theorem e_lmT (g : List P → P → Option (P × P)) (t : Tm) (as : List Ar) : lmT g t as pe = ltR g t (shsA as) pe := (rfl)
/-! subscripts -/
@[simp] theorem ix_l (xs : List P) (i : Int) : ixV (.lst xs) (.int i) = (atI xs i).map .v := (rfl)
@[simp] theorem ix_t (xs : List P) (i : Int) : ixV (.tup xs) (.int i) = (atI xs i).map .v := (rfl)
@[simp] theorem e_noPart : pNoPart pe = .ok none pe := (rfl)
def ipR (o : Option Int) (pe : PEnv) : PR (Option Int) := match o with
  | some i => .ok (some i) pe
  | none => .fail
@[simp] theorem ip_some (i : Int) : ipR (some i) pe = .ok (some i) pe := (rfl)
@[simp] theorem it_int (i : Int) : intT (.v (.int i)) = some i := (rfl)
@[simp] theorem e_part (a : PEm) : pPart a pe = (a pe).bind fun t pe => ipR (intT t) pe := (rfl)
@[simp] theorem e_sl (a : PEm) (lo hi : POm) : pSl a lo hi pe = (a pe).bind fun t pe => (lo pe).bind fun l pe => (hi pe).bind fun h pe => opR ((der t pe).bind fun p => slP p l h) pe := (rfl)
@[simp] theorem slP_l (xs : List P) (lo hi : Option Int) : slP (.lst xs) lo hi = some (.o (.lst (cutP xs lo hi))) := (rfl)
@[simp] theorem slP_t (xs : List P) (lo hi : Option Int) : slP (.tup xs) lo hi = some (.v (.tup (cutP xs lo hi))) := (rfl)
@[simp] theorem slP_f (xs : List P) (lo hi : Option Int) : slP (.fz xs) lo hi = some (.o (.lst (cutP xs lo hi))) := (rfl)
/-! is -/
@[simp] theorem is_nn (g : Bool) : isV g .non .non = some (.v (.bl (!g))) := (rfl)
@[simp] theorem is_bb (g a b : Bool) : isV g (.bl a) (.bl b) = some (.v (.bl (if g then !decide (a = b) else decide (a = b)))) := (rfl)
theorem is_n {g : Bool} {p : P} (h : p ≠ .non) : isV g p .non = some (.v (.bl g)) := by
  cases p <;> first | rfl | exact absurd rfl h
@[simp] theorem is_in (g : Bool) (i : Int) : isV g (.int i) .non = some (.v (.bl g)) := (rfl)
@[simp] theorem is_sn (g : Bool) (x : Str) : isV g (.str x) .non = some (.v (.bl g)) := (rfl)
@[simp] theorem is_tn (g : Bool) (x : List P) : isV g (.tup x) .non = some (.v (.bl g)) := (rfl)
@[simp] theorem is_ln (g : Bool) (x : List P) : isV g (.lst x) .non = some (.v (.bl g)) := (rfl)
@[simp] theorem is_bn (g : Bool) (x : Bool) : isV g (.bl x) .non = some (.v (.bl g)) := (rfl)
@[simp] theorem is_xn (g : Bool) (c : Str) (x : List (Str × P)) : isV g (.ins c x) .non = some (.v (.bl g)) := (rfl)
@[simp] theorem is_dn (g : Bool) (x : List (Key × P)) : isV g (.dic x) .non = some (.v (.bl g)) := (rfl)
/-! == -/
def e2R (o : Option Bool) (pe : PEnv) : PR Tm := bbR o pe
theorem eq_val {t u : Tm} {p q : P} {k : Bool} (h1 : der t pe = some p) (h2 : der u pe = some q) (h : eqV p q = some k) : eqT Ψ t u pe = .ok (.v (.bl k)) pe := by
  unfold eqT
  rw [h1, h2]
  cases p with
  | ins c fs => rw [eqV_ins] at h; cases h
  | _ => simp only [h]
theorem ne_val {t u : Tm} {p q : P} {k : Bool} (h1 : der t pe = some p) (h2 : der u pe = some q) (h : eqV p q = some k) : neT t u pe = .ok (.v (.bl (!k))) pe := by
  unfold neT
  rw [h1, h2]
  simp only [h]
theorem in_val {t u : Tm} {p q : P} {k g : Bool} (h1 : der t pe = some p) (h2 : der u pe = some q) (h : inV p q = some k) : inT Ψ g t u pe = .ok (.v (.bl (if g then !k else k))) pe := by
  unfold inT
  rw [h1, h2]
  cases q with
  | ins c fs => cases h
  | _ => simp only [h]
def eqR (Ψ : PGe) (o o' : Option P) (t u : Tm) (pe : PEnv) : PR Tm := match o, o' with
  | some p, some q => (match p with
    | .ins c fs => (match Ψ.met c "__eq__", tyP Ψ (.ins c fs), tyP Ψ q with
      | some f, some a, some b => (match Ψ.isi b a with
        | some _ => (match pArg (f.mask.headD false) t pe with
          | some (x, pe) => (match pArg (f.mask.tail.headD false) u pe with
            | some (y, pe) => callP f [x, y] pe
            | none => .fail)
          | none => .fail)
        | none => .fail)
      | _, _, _ => .fail)
    | p => (match eqV p q with
      | some k => .ok (.v (.bl k)) pe
      | none => .fail))
  | _, _ => .fail
@[simp] theorem e_eqT (t u : Tm) : eqT Ψ t u pe = eqR Ψ (der t pe) (der u pe) t u pe := (rfl)
@[simp] theorem eqR_non (q : P) (t u : Tm) : eqR Ψ (some .non) (some q) t u pe = bbR (eqV .non q) pe := (rfl)
@[simp] theorem eqR_bl (b : Bool) (q : P) (t u : Tm) : eqR Ψ (some (.bl b)) (some q) t u pe = bbR (eqV (.bl b) q) pe := (rfl)
@[simp] theorem eqR_int (b : Int) (q : P) (t u : Tm) : eqR Ψ (some (.int b)) (some q) t u pe = bbR (eqV (.int b) q) pe := (rfl)
@[simp] theorem eqR_str (b : Str) (q : P) (t u : Tm) : eqR Ψ (some (.str b)) (some q) t u pe = bbR (eqV (.str b) q) pe := (rfl)
@[simp] theorem eqR_tup (b : List P) (q : P) (t u : Tm) : eqR Ψ (some (.tup b)) (some q) t u pe = bbR (eqV (.tup b) q) pe := (rfl)
@[simp] theorem eqR_lst (b : List P) (q : P) (t u : Tm) : eqR Ψ (some (.lst b)) (some q) t u pe = bbR (eqV (.lst b) q) pe := (rfl)
theorem eqR_ins {c : Str} {fs : List (Str × P)} {q : P} {t u : Tm} {f : PFn} {a b : Ty} {z : Bool} (h1 : Ψ.met c "__eq__" = some f) (h2 : tyP Ψ (.ins c fs) = some a) (h3 : tyP Ψ q = some b) (h4 : Ψ.isi b a = some z) : eqR Ψ (some (.ins c fs)) (some q) t u pe = caR (pArg (f.mask.headD false) t pe) fun x pe => caR (pArg (f.mask.tail.headD false) u pe) fun y pe => callP f [x, y] pe := by
  unfold eqR caR
  simp only [h1, h2, h3, h4]
def neR (o o' : Option P) (pe : PEnv) : PR Tm := match o, o' with
  | some p, some q => (match eqV p q with
    | some k => .ok (.v (.bl (!k))) pe
    | none => .fail)
  | _, _ => .fail
def nbR (g : Bool) (o : Option Bool) (pe : PEnv) : PR Tm := match o with
  | some k => .ok (.v (.bl (if g then !k else k))) pe
  | none => .fail
@[simp] theorem nb_some (g k : Bool) : nbR g (some k) pe = .ok (.v (.bl (if g then !k else k))) pe := (rfl)
@[simp] theorem e_neT (t u : Tm) : neT t u pe = neR (der t pe) (der u pe) pe := (rfl)
@[simp] theorem neR_some (p q : P) : neR (some p) (some q) pe = nbR true (eqV p q) pe := (rfl)
def inR (Ψ : PGe) (g : Bool) (o o' : Option P) (t u : Tm) (pe : PEnv) : PR Tm := match o, o' with
  | some p, some q => (match q with
    | .ins c _ => (match Ψ.met c "__contains__" with
      | some f => negR g (match pArg (f.mask.headD false) u pe with
          | some (x, pe) => (match pArg (f.mask.tail.headD false) t pe with
            | some (y, pe) => callP f [x, y] pe
            | none => .fail)
          | none => .fail)
      | none => .fail)
    | q => (match inV p q with
      | some k => .ok (.v (.bl (if g then !k else k))) pe
      | none => .fail))
  | _, _ => .fail
@[simp] theorem e_inT (g : Bool) (t u : Tm) : inT Ψ g t u pe = inR Ψ g (der t pe) (der u pe) t u pe := (rfl)
@[simp] theorem inR_str (g : Bool) (p : P) (b : Str) (t u : Tm) : inR Ψ g (some p) (some (.str b)) t u pe = nbR g (inV p (.str b)) pe := (rfl)
@[simp] theorem inR_lst (g : Bool) (p : P) (b : List P) (t u : Tm) : inR Ψ g (some p) (some (.lst b)) t u pe = nbR g (inV p (.lst b)) pe := (rfl)
@[simp] theorem inR_tup (g : Bool) (p : P) (b : List P) (t u : Tm) : inR Ψ g (some p) (some (.tup b)) t u pe = nbR g (inV p (.tup b)) pe := (rfl)
theorem inR_ins {g : Bool} {p : P} {c : Str} {fs : List (Str × P)} {t u : Tm} {f : PFn} (h : Ψ.met c "__contains__" = some f) : inR Ψ g (some p) (some (.ins c fs)) t u pe = negR g (caR (pArg (f.mask.headD false) u pe) fun x pe => caR (pArg (f.mask.tail.headD false) t pe) fun y pe => callP f [x, y] pe) := by
  unfold inR caR
  simp only [h]
@[simp] theorem neg_ok' (g k : Bool) : negR g (.ok (.v (.bl k)) pe) = .ok (.v (.bl (if g then !k else k))) pe := (rfl)
@[simp] theorem eqV_ii (i j : Int) : eqV (.int i) (.int j) = some (i == j) := (rfl)
/-! loops -/
theorem for_items {m : PIm} {g : PGm} {b : PSm} {ps : List P} {pe1 : PEnv} (h : m pe = .ok (.items ps) pe1) : pFor m g b pe = forP g b ps pe1 := by
  unfold pFor
  rw [h]
  simp only [b_ok, lckQ]
  cases forP g b ps pe1 <;> rfl
theorem for_slot {m : PIm} {g : PGm} {b : PSm} {i : Nat} {c : Bool} {ps : List P} {pe1 : PEnv} (h : m pe = .ok (.slot i) pe1) (hs : pe1[i]? = some (some (.li c false (.lst ps)))) : pFor m g b pe = unlF i (forP g b ps (pe1.set i (some (.li c true (.lst ps))))) := by
  unfold pFor
  rw [h]
  simp only [b_ok, lckQ, hs]
  cases forP g b ps (pe1.set i (some (.li c true (.lst ps)))) <;> simp only [unlR, unlQ, unlF, hs]
theorem for_slotk {m : PIm} {g : PGm} {b : PSm} {i : Nat} {c : Bool} {ps : List P} {pe1 : PEnv} (h : m pe = .ok (.slot i) pe1) (hs : pe1[i]? = some (some (.li c true (.lst ps)))) : pFor m g b pe = forP g b ps pe1 := by
  have e3 : pe1.set i (some (.li c true (.lst ps))) = pe1 := by
    apply List.ext_getElem?
    intro j
    by_cases e : i = j
    · subst e; rw [List.getElem?_set_self (get_lt hs), hs]
    · rw [List.getElem?_set_ne e]
  unfold pFor
  rw [h]
  simp only [b_ok, lckQ, hs, e3]
  cases forP g b ps pe1 <;> simp only [unlR, unlQ, hs]
@[simp] theorem f_nil (g : PGm) (b : PSm) : forP g b [] pe = .ok .nx pe := (rfl)
@[simp] theorem f_cons (g : PGm) (b : PSm) (p : P) (r : List P) : forP g b (p :: r) pe = turnP g b p (forP g b r) pe := (rfl)
/-- a turn, by its binding and its body -/
def tuR (q : PR PFl) (k : PSm) : PR PFl := match q with
  | .ok .nx pe => k pe
  | .ok .ct pe => k pe
  | .ok .bk pe => .ok .nx pe
  | q => q
@[simp] theorem tu_nx (k : PSm) : tuR (.ok .nx pe) k = k pe := (rfl)
@[simp] theorem tu_ct (k : PSm) : tuR (.ok .ct pe) k = k pe := (rfl)
@[simp] theorem tu_bk (k : PSm) : tuR (.ok .bk pe) k = .ok .nx pe := (rfl)
@[simp] theorem tu_rt (t : Tm) (k : PSm) : tuR (.ok (.rt t) pe) k = .ok (.rt t) pe := (rfl)
@[simp] theorem tu_exc (x : PX) (k : PSm) : tuR (.exc x pe) k = .exc x pe := (rfl)
theorem turn_nam {i : Nat} {b : PSm} {p : P} {k : PSm} : turnP (pNam i) b p k pe = if asgOk pe[i]? then tuR (b (pe.set i (some (.sh p)))) k else .fail := by
  unfold turnP tuR
  simp only [n_v]
  by_cases h : asgOk pe[i]? = true
  · simp only [h, if_true] <;> rfl
  · simp only [h, if_false]; rfl
def iqR (o : Option Itm) (pe : PEnv) : PR Itm := match o with
  | some q => .ok q pe
  | none => .fail
@[simp] theorem iq_some (q : Itm) : iqR (some q) pe = .ok q pe := (rfl)
@[simp] theorem e_iter (m : PEm) : pIter m pe = (m pe).bind fun t pe => iqR (iterT t pe) pe := (rfl)
@[simp] theorem it_vt (ps : List P) : iterT (.v (.tup ps)) pe = some (.items ps) := (rfl)
@[simp] theorem it_vl (ps : List P) : iterT (.v (.lst ps)) pe = some (.items ps) := (rfl)
@[simp] theorem it_vs (z : Str) : iterT (.v (.str z)) pe = some (.items (signsP z)) := (rfl)
@[simp] theorem it_ol (ps : List P) : iterT (.o (.lst ps)) pe = some (.items ps) := (rfl)
def ilR (o : Option (Option Sl)) (i : Nat) : Option Itm := match o with
    | some (some (.li _ _ (.lst _))) => some (.slot i)
    | some (some (.sh (.lst ps))) => some (.items ps)
    | _ => none
@[simp] theorem it_l (i : Nat) : iterT (.l i) pe = ilR pe[i]? i := (rfl)
@[simp] theorem il_li (b k : Bool) (ps : List P) (i : Nat) : ilR (some (some (.li b k (.lst ps)))) i = some (.slot i) := (rfl)
def rgD (o : Option Int) (pe : PEnv) : PR Itm := match o with
  | some j => if -(2 ^ 62) ≤ j ∧ j < 2 ^ 62 then .ok (.items (rangeP 0 j.toNat)) pe else .fail
  | none => .fail
theorem rgE : ∃ f : Option Int → PEnv → PR Itm, f = rgD := ⟨_, rfl⟩
/-- the kernel must not look into it: its bounds are large numbers -/
noncomputable def rgR : Option Int → PEnv → PR Itm := Classical.choose rgE
theorem rgR_eq : rgR = rgD := Classical.choose_spec rgE
@[simp] theorem e_range1' (m : PEm) : pRange1 m pe = (m pe).bind fun t pe => rgR (intT t) pe := by
  rw [rgR_eq]
  rfl
theorem rg_nat {j : Nat} (hj : (j : Int) < 2 ^ 62) : rgR (some (j : Int)) pe = .ok (.items (rangeP 0 j)) pe := by
  rw [rgR_eq]
  unfold rgD
  dsimp only
  rw [if_pos ⟨neg62 j, hj⟩, Int.toNat_natCast]
theorem big62 : (2 : Int) ^ 62 = 4611686018427387904 := by decide
theorem rg_small {j : Nat} (hj : j < 16777216) : rgR (some (j : Int)) pe = .ok (.items (rangeP 0 j)) pe := rg_nat (by rw [big62]; omega)
theorem rangeP_len (lo : Int) (k : Nat) : (rangeP lo k).length = k := by simp [rangeP]
theorem rangeP_at {j i : Nat} {p : P} (h : (rangeP 0 j)[i]? = some p) : p = .int i ∧ i < j := by
  unfold rangeP at h
  rw [List.getElem?_map] at h
  by_cases hi : i < j
  · rw [List.getElem?_range hi] at h
    simp at h
    exact ⟨h.symm, hi⟩
  · rw [List.getElem?_eq_none (by simpa using hi)] at h
    cases h
@[simp] theorem unlF_rt (i : Nat) (t : Tm) : unlF i (.ok (.rt t) pe : PR PFl) = .ok (.rt t) (unl i pe) := (rfl)
@[simp] theorem unlF_nx (i : Nat) : unlF i (.ok .nx pe : PR PFl) = .ok .nx (unl i pe) := (rfl)
@[simp] theorem unlF_exc (i : Nat) (x : PX) : unlF i (.exc x pe : PR PFl) = .exc x (unl i pe) := (rfl)
def ulR (o : Option (Option Sl)) (i : Nat) (pe : PEnv) : PEnv := match o with
  | some (some (.li b true p)) => pe.set i (some (.li b false p))
  | _ => pe
theorem e_unl (i : Nat) : unl i pe = ulR pe[i]? i pe := rfl
@[simp] theorem ul_li (b : Bool) (p : P) (i : Nat) : ulR (some (some (.li b true p))) i pe = pe.set i (some (.li b false p)) := (rfl)
/-- a loop, by what holds before each turn; a return or an error leaves it -/
theorem forP_to {g : PGm} {b : PSm} (I : List P → PEnv → Prop) (Z : PR PFl → Prop) (hn : ∀ pe, I [] pe → Z (.ok .nx pe))
    (st : ∀ p r pe, I (p :: r) pe → ∀ k : PSm, (∃ pe', turnP g b p k pe = k pe' ∧ I r pe') ∨ Z (turnP g b p k pe)) : ∀ ps pe, I ps pe → Z (forP g b ps pe)
  | [], pe, h => hn pe h
  | p :: r, pe, h => by
    rcases st p r pe h (forP g b r) with ⟨pe', e, h'⟩ | z
    · rw [f_cons, e]; exact forP_to I Z hn st r pe' h'
    · exact z
/-- a loop over range(n) -/
theorem forP_range {g : PGm} {b : PSm} {n : Nat} (I : Nat → PEnv → Prop) (Z : PR PFl → Prop) (hn : ∀ pe, I n pe → Z (.ok .nx pe))
    (st : ∀ i pe, i < n → I i pe → ∀ k : PSm, (∃ pe', turnP g b (.int i) k pe = k pe' ∧ I (i + 1) pe') ∨ Z (turnP g b (.int i) k pe)) {pe : PEnv} (h : I 0 pe) : Z (forP g b (rangeP 0 n) pe) := by
  refine forP_to (fun r pe => ∃ i, i ≤ n ∧ r = (rangeP 0 n).drop i ∧ I i pe) Z (fun pe ⟨i, h1, h2, h3⟩ => ?_) (fun p r pe ⟨i, h1, h2, h3⟩ k => ?_) _ _ ⟨0, Nat.zero_le _, rfl, h⟩
  · have : (rangeP 0 n).length ≤ i := List.drop_eq_nil_iff.mp h2.symm
    rw [rangeP_len] at this
    have e : i = n := by omega
    subst e
    exact hn pe h3
  · have hl : i < n := by
      refine Nat.lt_of_not_le fun hh => ?_
      rw [List.drop_eq_nil_of_le (by rw [rangeP_len]; exact hh)] at h2
      cases h2
    have hx : (rangeP 0 n)[i]? = some p := by
      have := congrArg List.head? h2
      simpa using this.symm
    obtain ⟨rfl, _⟩ := rangeP_at hx
    have hr : r = (rangeP 0 n).drop (i + 1) := by
      have := congrArg List.tail h2
      simpa using this
    rcases st i pe hl h3 k with ⟨pe', e, h'⟩ | z
    · exact .inl ⟨pe', e, i + 1, by omega, hr, h'⟩
    · exact .inr z
/-- a loop over items by their places -/
theorem forP_ix {g : PGm} {b : PSm} {ps : List P} (I : Nat → PEnv → Prop) (Z : PR PFl → Prop) (hn : ∀ pe, I ps.length pe → Z (.ok .nx pe))
    (st : ∀ (i : Nat) (p : P) (pe : PEnv), ps[i]? = some p → I i pe → ∀ k : PSm, (∃ pe', turnP g b p k pe = k pe' ∧ I (i + 1) pe') ∨ Z (turnP g b p k pe)) {pe : PEnv} (h : I 0 pe) : Z (forP g b ps pe) := by
  refine forP_to (fun r pe => ∃ i, i ≤ ps.length ∧ r = ps.drop i ∧ I i pe) Z (fun pe ⟨i, h1, h2, h3⟩ => ?_) (fun p r pe ⟨i, h1, h2, h3⟩ k => ?_) _ _ ⟨0, Nat.zero_le _, rfl, h⟩
  · have : ps.length ≤ i := List.drop_eq_nil_iff.mp h2.symm
    have e : i = ps.length := by omega
    subst e
    exact hn pe h3
  · have hx : ps[i]? = some p := by
      have := congrArg List.head? h2
      simpa using this.symm
    have hr : r = ps.drop (i + 1) := by
      have := congrArg List.tail h2
      simpa using this
    rcases st i p pe hx h3 k with ⟨pe', e, h'⟩ | z
    · exact .inl ⟨pe', e, i + 1, by have := get_lt hx; omega, hr, h'⟩
    · exact .inr z
theorem cut_take (xs : List P) (i : Nat) : cutP xs none (some (i : Int)) = xs.take i := by
  unfold cutP
  rw [HT.sIx_none, HT.sIx_nat]
  simp
theorem cut_drop (xs : List P) (i : Nat) : cutP xs (some (i : Int)) none = xs.drop i := by
  unfold cutP
  rw [HT.sIx_none, HT.sIx_nat]
  by_cases h : i ≤ xs.length
  · rw [Nat.min_eq_left h, List.take_of_length_le (by simp)]
  · rw [Nat.min_eq_right (by omega), List.drop_eq_nil_of_le (Nat.le_refl _), List.drop_eq_nil_of_le (by omega), List.take_nil]
theorem shsS_map : ∀ ps : List P, shsS (ps.map Sl.sh) = some ps
  | [] => rfl
  | p :: ps => by
    show (shsS (ps.map Sl.sh)).map (p :: ·) = _
    rw [shsS_map ps]
    rfl
/-! comprehensions -/
theorem lc_items {it : PIm} {own : List Nat} {t : CTg} {ts : PTm} {e : PEm} {ps acc : List P} {pe1 pe2 : PEnv} (h : it pe = .ok (.items ps) pe1) (ho : own.all (fun v => noLive pe1[v]?) = true) (h2 : lcP own t ts e ps [] (wipeP pe1 own) = some (acc, pe2)) : pLc it own t ts e pe = .ok (.o (.lst acc)) (restP pe1 pe2 own) := by
  unfold pLc
  rw [h]
  simp only [b_ok, lckQ]
  rw [if_pos ho, h2]
  rfl
theorem lc_slot {it : PIm} {own : List Nat} {t : CTg} {ts : PTm} {e : PEm} {ps acc : List P} {pe1 pe2 : PEnv} {i : Nat} {b k : Bool} (h : it pe = .ok (.slot i) pe1) (hs : pe1[i]? = some (some (.li b k (.lst ps)))) (ho : own.all (fun v => noLive pe1[v]?) = true) (h2 : lcP own t ts e ps [] (wipeP (pe1.set i (some (.li b true (.lst ps)))) own) = some (acc, pe2)) : pLc it own t ts e pe = .ok (.o (.lst acc)) (unlQ (.slot i) pe1 (restP pe1 pe2 own)) := by
  unfold pLc
  rw [h]
  simp only [b_ok, lckQ, hs]
  rw [if_pos ho, h2]
theorem lcT_yes {own : List Nat} {t : CTg} {ts : PTm} {e : PEm} {p y : P} {acc : List P} {pe2 pe3 pe4 pe5 : PEnv} {tm : Tm} (h1 : bindP t p pe = some pe2) (h2 : ts pe2 = .ok true pe3) (h3 : e pe3 = .ok tm pe4) (h4 : frz tm pe4 = some (y, pe5)) (h5 : acc.length < sizeLine) : lcTurnP own t ts e p acc pe = some (acc ++ [y], wipeP pe5 own) := by
  unfold lcTurnP
  simp only [h1, h2, h3, h4, if_pos h5]
theorem lcT_no {own : List Nat} {t : CTg} {ts : PTm} {e : PEm} {p : P} {acc : List P} {pe2 pe3 : PEnv} (h1 : bindP t p pe = some pe2) (h2 : ts pe2 = .ok false pe3) : lcTurnP own t ts e p acc pe = some (acc, wipeP pe3 own) := by
  unfold lcTurnP
  simp only [h1, h2]
/-- a comprehension that leaves the slots as they are -/
theorem lcP_pure {own : List Nat} {t : CTg} {ts : PTm} {e : PEm} (f : P → P) (c : P → Bool) (st : ∀ p acc, acc.length + 1 < 16777216 → lcTurnP own t ts e p acc pe = some (if c p then acc ++ [f p] else acc, pe)) : ∀ ps acc, acc.length + ps.length < 16777216 → lcP own t ts e ps acc pe = some (acc ++ (ps.filter c).map f, pe)
  | [], acc, _ => by simp [lcP]
  | p :: r, acc, h => by
    simp at h
    unfold lcP
    rw [st p acc (by omega)]
    dsimp only
    rw [lcP_pure f c st r _ (by split <;> (try simp only [List.length_append, List.length_cons, List.length_nil]) <;> omega)]
    cases hc : c p with
    | true => simp [hc]
    | false => simp [hc]
/-- .. where the turn is known for its items alone -/
theorem lcP_on {own : List Nat} {t : CTg} {ts : PTm} {e : PEm} (f : P → P) (c : P → Bool) : ∀ ps acc, (∀ p ∈ ps, ∀ acc, acc.length + 1 < 16777216 → lcTurnP own t ts e p acc pe = some (if c p then acc ++ [f p] else acc, pe)) → acc.length + ps.length < 16777216 → lcP own t ts e ps acc pe = some (acc ++ (ps.filter c).map f, pe)
  | [], acc, _, _ => by simp [lcP]
  | p :: r, acc, st, h => by
    simp at h
    unfold lcP
    rw [st p (by simp) acc (by omega)]
    dsimp only
    rw [lcP_on f c r _ (fun q hq => st q (List.mem_cons_of_mem _ hq)) (by split <;> (try simp only [List.length_append, List.length_cons, List.length_nil]) <;> omega)]
    cases hc : c p with
    | true => simp [hc]
    | false => simp [hc]
theorem lcP_to {own : List Nat} {t : CTg} {ts : PTm} {e : PEm} (I : List P → List P → PEnv → Prop) (st : ∀ p r acc pe, I (p :: r) acc pe → ∃ acc' pe', lcTurnP own t ts e p acc pe = some (acc', pe') ∧ I r acc' pe') : ∀ ps acc pe, I ps acc pe → ∃ acc' pe', lcP own t ts e ps acc pe = some (acc', pe') ∧ I [] acc' pe'
  | [], acc, pe, h => ⟨acc, pe, rfl, h⟩
  | p :: r, acc, pe, h => by
    obtain ⟨acc', pe', e1, h'⟩ := st p r acc pe h
    obtain ⟨a2, p2, e2, h2⟩ := lcP_to I st r acc' pe' h'
    exact ⟨a2, p2, by unfold lcP; rw [e1]; exact e2, h2⟩
end
end Bt.Pv

set_option Elab.async false
set_option linter.all false
set_option maxRecDepth 100000
set_option maxHeartbeats 2000000
namespace Bt.Pv
open PySem PySem.Spec PyProof.Rows L2 Bt

/-! ### data: ==, in -/
mutual
def toD : P → PyData
  | .non => .none
  | .bl b => .bool b
  | .int i => .int i
  | .str x => .str x
  | .tup xs => .tuple (toDs xs)
  | .lst xs => .list (toDs xs)
  | _ => .none
def toDs : List P → List PyData
  | [] => []
  | p :: ps => toD p :: toDs ps
end
mutual
/-- data of depth at most n -/
def okD : Nat → P → Bool
  | _, .non => true
  | _, .bl _ => true
  | _, .int _ => true
  | _, .str x => PyData.strOk x
  | n + 1, .tup xs => okDs n xs
  | n + 1, .lst xs => okDs n xs
  | _, _ => false
def okDs : Nat → List P → Bool
  | _, [] => true
  | n, p :: ps => okD n p && okDs n ps
end
theorem okDs_iff {n : Nat} : ∀ {ps : List P}, okDs n ps = true ↔ ∀ p ∈ ps, okD n p = true
  | [] => by simp [okDs]
  | p :: ps => by simp [okDs, okDs_iff (ps := ps)]
mutual
theorem okD_up : ∀ (n : Nat) (p : P), okD n p = true → okD (n + 1) p = true
  | _, .non, _ => by unfold okD; rfl
  | _, .bl _, _ => by unfold okD; rfl
  | _, .int _, _ => by unfold okD; rfl
  | _, .str x, h => by unfold okD at h ⊢; exact h
  | 0, .tup _, h => by simp [okD] at h
  | 0, .lst _, h => by simp [okD] at h
  | n + 1, .tup xs, h => by unfold okD at h ⊢; exact okDs_up n xs h
  | n + 1, .lst xs, h => by unfold okD at h ⊢; exact okDs_up n xs h
  | _, .dic _, h => by simp [okD] at h
  | _, .ins _ _, h => by simp [okD] at h
  | _, .glo _, h => by simp [okD] at h
  | _, .ty _, h => by simp [okD] at h
  | _, .fz _, h => by simp [okD] at h
theorem okDs_up : ∀ (n : Nat) (ps : List P), okDs n ps = true → okDs (n + 1) ps = true
  | _, [], _ => by unfold okDs; rfl
  | n, p :: ps, h => by
    unfold okDs at h ⊢
    obtain ⟨h1, h2⟩ := Bool.and_eq_true_iff.mp h
    rw [okD_up n p h1, okDs_up n ps h2]
    rfl
end
theorem okD_le {n m : Nat} {p : P} (h : okD n p = true) (hm : n ≤ m) : okD m p = true := by
  induction hm with
  | refl => exact h
  | step _ ih => exact okD_up _ _ ih
theorem okDs_le {n m : Nat} {p : List P} (h : okDs n p = true) (hm : n ≤ m) : okDs m p = true := by
  induction hm with
  | refl => exact h
  | step _ ih => exact okDs_up _ _ ih
mutual
theorem pyP_ok : ∀ (n m : Nat) (p : P), okD n p = true → n < m → pyP m p = some (toD p)
  | _, m + 1, .non, _, _ => by simp [pyP, toD]
  | _, m + 1, .bl _, _, _ => by simp [pyP, toD]
  | _, m + 1, .int _, _, _ => by simp [pyP, toD]
  | _, m + 1, .str _, _, _ => by simp [pyP, toD]
  | 0, _, .tup _, h, _ => by simp [okD] at h
  | 0, _, .lst _, h, _ => by simp [okD] at h
  | n + 1, m + 1, .tup xs, h, hm => by
    unfold okD at h
    simp only [pyP, toD]
    rw [pyPs_ok' n m xs h (by omega)]
    rfl
  | n + 1, m + 1, .lst xs, h, hm => by
    unfold okD at h
    simp only [pyP, toD]
    rw [pyPs_ok' n m xs h (by omega)]
    rfl
  | _, _, .dic _, h, _ => by simp [okD] at h
  | _, _, .ins _ _, h, _ => by simp [okD] at h
  | _, _, .glo _, h, _ => by simp [okD] at h
  | _, _, .ty _, h, _ => by simp [okD] at h
  | _, _, .fz _, h, _ => by simp [okD] at h
  | _, 0, _, _, h => by omega
theorem pyPs_ok' : ∀ (n m : Nat) (ps : List P), okDs n ps = true → n < m → pyPs (pyP m) ps = some (toDs ps)
  | _, _, [], _, _ => by simp [pyPs, toDs]
  | n, m, p :: ps, h, hm => by
    unfold okDs at h
    obtain ⟨h1, h2⟩ := Bool.and_eq_true_iff.mp h
    simp only [pyPs, toDs, pyP_ok n m p h1 hm, pyPs_ok' n m ps h2 hm]
end
mutual
theorem lay_ok : ∀ (n : Nat) (p : P), okD n p = true → (toD p).canLay0 = true ∧ (toD p).depth ≤ n
  | _, .non, _ => by simp [toD, PyData.canLay0, PyData.depth]
  | _, .bl _, _ => by simp [toD, PyData.canLay0, PyData.depth]
  | _, .int _, _ => by simp [toD, PyData.canLay0, PyData.depth]
  | _, .str x, h => by
    unfold okD at h
    simp [toD, PyData.canLay0, PyData.depth, h]
  | 0, .tup _, h => by simp [okD] at h
  | 0, .lst _, h => by simp [okD] at h
  | n + 1, .tup xs, h => by
    unfold okD at h
    obtain ⟨h1, h2⟩ := lays_ok n xs h
    refine ⟨by simp [toD, PyData.canLay0, h1], ?_⟩
    simp only [toD, PyData.depth]
    omega
  | n + 1, .lst xs, h => by
    unfold okD at h
    obtain ⟨h1, h2⟩ := lays_ok n xs h
    refine ⟨by simp [toD, PyData.canLay0, h1], ?_⟩
    simp only [toD, PyData.depth]
    omega
  | _, .dic _, h => by simp [okD] at h
  | _, .ins _ _, h => by simp [okD] at h
  | _, .glo _, h => by simp [okD] at h
  | _, .ty _, h => by simp [okD] at h
  | _, .fz _, h => by simp [okD] at h
theorem lays_ok : ∀ (n : Nat) (ps : List P), okDs n ps = true → PyData.canLayAll0 (toDs ps) = true ∧ PyData.depthAll (toDs ps) ≤ n
  | _, [], _ => by simp [toDs, PyData.canLayAll0, PyData.depthAll]
  | n, p :: ps, h => by
    unfold okDs at h
    obtain ⟨h1, h2⟩ := Bool.and_eq_true_iff.mp h
    obtain ⟨a1, a2⟩ := lay_ok n p h1
    obtain ⟨b1, b2⟩ := lays_ok n ps h2
    refine ⟨by simp [toDs, PyData.canLayAll0, a1, b1], ?_⟩
    simp only [toDs, PyData.depthAll]
    omega
end
/-- == of data -/
def eqB (p q : P) : Bool := PyData.eqv (toD p) (toD q)
def memB (p : P) (xs : List P) : Bool := xs.any fun z => eqB z p
theorem shaped_ok {n : Nat} {p : P} (h : okD n p = true) (hn : n ≤ 50) : SeqAt.shaped (toD p) = true := by
  obtain ⟨h1, h2⟩ := lay_ok n p h
  unfold SeqAt.shaped
  rw [h1]
  simp
  omega
theorem eqV_dat {n : Nat} {p q : P} (hp : okD n p = true) (hq : okD n q = true) (hn : n ≤ 50) : eqV p q = some (eqB p q) := by
  unfold eqV
  rw [pyP_ok n 60 p hp (by omega), pyP_ok n 60 q hq (by omega)]
  dsimp only
  rw [shaped_ok hp hn, shaped_ok hq hn]
  rfl
theorem toDs_map : ∀ ps : List P, toDs ps = ps.map toD
  | [] => rfl
  | p :: ps => by simp [toDs, toDs_map ps]
theorem inV_dat {n : Nat} {p : P} {xs : List P} (hp : okD n p = true) (hq : okDs n xs = true) (hn : n ≤ 49) : inV p (.lst xs) = some (memB p xs) ∧ inV p (.tup xs) = some (memB p xs) := by
  have e1 := pyP_ok n 60 p hp (by omega)
  have e2 := pyPs_ok' n 60 xs hq (by omega)
  have s1 := shaped_ok hp (by omega)
  have s2 : SeqAt.shaped (.list (toDs xs)) = true := by
    have h : okD (n + 1) (.lst xs) = true := by unfold okD; exact hq
    have := shaped_ok h (by omega)
    simpa [toD] using this
  have e3 : ((toDs xs).any fun z => PyData.eqv z (toD p)) = memB p xs := by
    rw [toDs_map]
    unfold memB eqB
    rw [List.any_map]
    rfl
  constructor
  · simp only [inV, seqP, e1, e2, s1, s2, e3]; rfl
  · simp only [inV, seqP, e1, e2, s1, s2, e3]; rfl
@[simp] theorem eqB_str (x y : Str) : eqB (.str x) (.str y) = (x == y) := by simp [eqB, toD, PyData.eqv]
@[simp] theorem eqB_int (x y : Int) : eqB (.int x) (.int y) = (x == y) := by simp [eqB, toD, PyData.eqv]
@[simp] theorem eqB_bl (x y : Bool) : eqB (.bl x) (.bl y) = (x == y) := by simp [eqB, toD, PyData.eqv]
@[simp] theorem eqB_non : eqB .non .non = true := by simp [eqB, toD, PyData.eqv]
@[simp] theorem eqB_si (x : Str) (y : Int) : eqB (.str x) (.int y) = false := by simp [eqB, toD, PyData.eqv]
@[simp] theorem eqB_is (x : Str) (y : Int) : eqB (.int y) (.str x) = false := by simp [eqB, toD, PyData.eqv]
@[simp] theorem eqB_sn (x : Str) : eqB (.str x) .non = false := by simp [eqB, toD, PyData.eqv]
@[simp] theorem eqB_ns (x : Str) : eqB .non (.str x) = false := by simp [eqB, toD, PyData.eqv]
@[simp] theorem eqB_sb (x : Str) (b : Bool) : eqB (.str x) (.bl b) = false := by simp [eqB, toD, PyData.eqv]
@[simp] theorem eqB_st (x : Str) (b : List P) : eqB (.str x) (.tup b) = false := by simp [eqB, toD, PyData.eqv]
@[simp] theorem eqB_sl (x : Str) (b : List P) : eqB (.str x) (.lst b) = false := by simp [eqB, toD, PyData.eqv]
@[simp] theorem eqB_tup_nil : eqB (.tup []) (.tup []) = true := by simp [eqB, toD, toDs, PyData.eqv, PyData.eqvAll]
@[simp] theorem eqB_tup_cons (x y : P) (xs ys : List P) : eqB (.tup (x :: xs)) (.tup (y :: ys)) = (eqB x y && eqB (.tup xs) (.tup ys)) := by simp [eqB, toD, toDs, PyData.eqv, PyData.eqvAll]
@[simp] theorem eqB_tup_nc (y : P) (ys : List P) : eqB (.tup []) (.tup (y :: ys)) = false := by simp [eqB, toD, toDs, PyData.eqv, PyData.eqvAll]
@[simp] theorem eqB_tup_cn (y : P) (ys : List P) : eqB (.tup (y :: ys)) (.tup []) = false := by simp [eqB, toD, toDs, PyData.eqv, PyData.eqvAll]
@[simp] theorem eqB_lst_nil : eqB (.lst []) (.lst []) = true := by simp [eqB, toD, toDs, PyData.eqv, PyData.eqvAll]
@[simp] theorem eqB_lst_cons (x y : P) (xs ys : List P) : eqB (.lst (x :: xs)) (.lst (y :: ys)) = (eqB x y && eqB (.lst xs) (.lst ys)) := by simp [eqB, toD, toDs, PyData.eqv, PyData.eqvAll]
@[simp] theorem eqB_lst_nc (y : P) (ys : List P) : eqB (.lst []) (.lst (y :: ys)) = false := by simp [eqB, toD, toDs, PyData.eqv, PyData.eqvAll]
@[simp] theorem eqB_lst_cn (y : P) (ys : List P) : eqB (.lst (y :: ys)) (.lst []) = false := by simp [eqB, toD, toDs, PyData.eqv, PyData.eqvAll]
theorem eqB_strs : ∀ xs ys : List Str, eqB (.tup (xs.map P.str)) (.tup (ys.map P.str)) = decide (xs = ys)
  | [], [] => by simp
  | [], _ :: _ => by simp
  | _ :: _, [] => by simp
  | x :: xs, y :: ys => by
    simp only [List.map_cons, eqB_tup_cons, eqB_str, eqB_strs xs ys]
    by_cases h : x = y
    · subst h; simp
    · simp [h]
theorem memB_strs (w : Str) : ∀ ws : List Str, memB (.str w) (ws.map P.str) = decide (w ∈ ws)
  | [] => by simp [memB]
  | x :: ws => by
    have ih := memB_strs w ws
    unfold memB at ih ⊢
    simp only [List.map_cons, List.any_cons, eqB_str, ih]
    by_cases h : x = w
    · subst h; simp
    · have h' : ¬ w = x := fun e => h e.symm
      simp [h, h']
theorem okD_str {x : Str} (n : Nat) (h : PyData.strOk x = true) : okD n (.str x) = true := by unfold okD; exact h
theorem okDs_strs {n : Nat} : ∀ {ws : List Str}, (∀ x ∈ ws, PyData.strOk x = true) → okDs n (ws.map P.str) = true
  | [], _ => by simp [okDs]
  | w :: ws, h => by
    have h1 := h w (by simp)
    have h2 := okDs_strs (n := n) (ws := ws) fun x hx => h x (by simp [hx])
    simp [okDs, okD_str n h1, h2]
/-- one sign in a text -/
theorem inV_sign (c : Nat) (z : Str) : inV (.str ⟨#[c]⟩) (.str z) = some (decide (c ∈ z.cps.toList)) := by
  show some _ = _
  rw [StrLaws.found_one]
end Bt.Pv

set_option Elab.async false
set_option linter.all false
set_option maxRecDepth 100000
set_option maxHeartbeats 2000000
namespace Bt
open PySem PySem.Spec PyProof.Rows L2
/-- what F must tell of a law at a world -/
def LawAt (l : PySem.W.OpenLaw) (most lev : Nat) (prm : Str) (cx : World → CXT) (w : World) (mg : Str → Option Value) (at_ : Addr) (hp : Heap) : Prop :=
  ∃ (K : PySem.W.Frag) (fd : FuncData) (sp : Sp), K.In hp ∧ (∀ (s : Shared) (u : Value), BindsTo s fd ⟨[u], []⟩ [(prm, u)]) ∧ (∀ (H : Hp) (a : Addr) (ns : List Int), ns.length ≤ most → Only H → SqL K H a (ns.map V.int) → sp [.ref a] H (fun v _ => v = .bl true) fun _ _ _ => False) ∧ ∀ base : Heap, K.In base → base.Ns mainGlobals mg → FnOk l.prog w K mg base (cx w) lev at_ fd [prm] sp
/-- a law's end, with what is raised told by the world -/
theorem walk_ofW {l : PySem.W.OpenLaw} {most lev : Nat} {q : Program} {free : List Str} {XP : (Str → Option Value) → Heap → Prop} {YP : World → Heap → Prop} {dr : DefRec} {cx : World → CXT} {prm : Str} (h1 : l.most = some most) (h2 : most ≤ sizeLine) (h3 : dr.params.defaults = []) (h4 : Room lev callerA) (hF : ∀ (w : World) (mg : Str → Option Value) (at_ : Addr) (hp : Heap), YP w hp → hp.Ns mainGlobals mg → mg dr.name = some (.ref at_) → LawAt l most lev prm cx w mg at_ hp) (h5 : ∀ (w : World) (H : Hp) (s : Shared) (e : Value) (s' : Shared), cx w [] H s (fun _ _ _ => False) e s' → False) : PySem.W.WalkO q free XP YP l.row.toRowW dr [] (fun f vs => PySem.call f vs) := by
  refine Att.attach_call h1 h3 fun w s0 s1 mg mb at_ o pm cd doc a vs ns G Y ho hd hcd hm hob hin hle hg => ?_
  obtain ⟨K, fd, sp, kx, g1, g2, g3⟩ := hF w mg at_ _ Y G.T.g hm
  exact law_call kx G.T.g G.T.b G.T.builtins G.T.nolimit hg hob hin (Nat.le_trans hle h2) h4 g3 g1 (fun H z1 z2 => g2 H a ns hle z1 z2) fun H e s' => h5 w H s1 e s'
theorem cx_false {P : Program} {w : World} {H : Hp} {s : Shared} {e : Value} {s' : Shared} (z : L2.CX P w [] H s (fun _ _ _ => False) e s') : False := by
  obtain ⟨_, _, _, _, _, _, _, _, _, _, _, _, f⟩ := z
  exact f
end Bt

set_option Elab.async false
set_option linter.all false
set_option maxRecDepth 100000
set_option maxHeartbeats 0
namespace Lk04
open PySem PySem.Spec PyProof.Rows L2 Bt
abbrev Pg : Program := PySem.Challenge.pw_batchtests_k04_row_sets_refused
def top (i : Nat) : Stmt := Pg.main.body.getD i (.Pass ⟨0, 0, 0, 0⟩)
def clsBody : Stmt → List Stmt
  | .ClassDef _ _ _ b _ _ _ _ _ _ _ => b
  | _ => []
def mem (i j : Nat) : Stmt := (clsBody (top i)).getD j (.Pass ⟨0, 0, 0, 0⟩)
def d_is_integer : DefT := ⟨(("is_integer" : Str), none), "is_integer", "is_integer", defArgs (top 12), defBody (top 12), defScope (top 12), [("thing" : Str)], [("thing" : Str)], none⟩
def d_is_name : DefT := ⟨(("is_name" : Str), none), "is_name", "is_name", defArgs (top 13), defBody (top 13), defScope (top 13), [("thing" : Str), ("letter" : Str)], [("thing" : Str)], none⟩
def d_Columnsu_initu : DefT := ⟨(("Columns" : Str), some ("__init__" : Str)), "__init__", "Columns.__init__", defArgs (mem 14 0), defBody (mem 14 0), defScope (mem 14 0), [("self" : Str), ("names" : Str), ("index" : Str)], [("self" : Str)], some ("names" : Str)⟩
def d_Columnsu_containsu : DefT := ⟨(("Columns" : Str), some ("__contains__" : Str)), "__contains__", "Columns.__contains__", defArgs (mem 14 2), defBody (mem 14 2), defScope (mem 14 2), [("self" : Str), ("thing" : Str)], [("self" : Str), ("thing" : Str)], none⟩
def d_is_term : DefT := ⟨(("is_term" : Str), none), "is_term", "is_term", defArgs (top 16), defBody (top 16), defScope (top 16), [("columns" : Str), ("thing" : Str)], [("columns" : Str), ("thing" : Str)], none⟩
def d_is_literal : DefT := ⟨(("is_literal" : Str), none), "is_literal", "is_literal", defArgs (top 17), defBody (top 17), defScope (top 17), [("columns" : Str), ("thing" : Str)], [("columns" : Str), ("thing" : Str)], none⟩
def d_is_case : DefT := ⟨(("is_case" : Str), none), "is_case", "is_case", defArgs (top 23), defBody (top 23), defScope (top 23), [("columns" : Str), ("thing" : Str), ("blank" : Str), ("literals" : Str), ("at" : Str), ("literal" : Str)], [("columns" : Str), ("thing" : Str)], none⟩
def d_RowSetu_initu : DefT := ⟨(("RowSet" : Str), some ("__init__" : Str)), "__init__", "RowSet.__init__", defArgs (mem 33 0), defBody (mem 33 0), defScope (mem 33 0), [("self" : Str), ("columns" : Str), ("cases" : Str), ("index" : Str)], [("self" : Str), ("columns" : Str), ("cases" : Str)], none⟩
def d__law_hand : DefT := ⟨(("_law_hand" : Str), none), "_law_hand", "_law_hand", defArgs (top 35), defBody (top 35), defScope (top 35), [("_law_script" : Str), ("_law_cells" : Str), ("_law_seed" : Str), ("_law_cell" : Str)], [("_law_script" : Str)], none⟩
def d__law_mixed : DefT := ⟨(("_law_mixed" : Str), none), "_law_mixed", "_law_mixed", defArgs (top 36), defBody (top 36), defScope (top 36), [("_law_number_here" : Str), ("_law_count" : Str), ("_law_first" : Str), ("_law_second" : Str)], [("_law_number_here" : Str), ("_law_count" : Str)], none⟩
def d__law_draw : DefT := ⟨(("_law_draw" : Str), none), "_law_draw", "_law_draw", defArgs (top 37), defBody (top 37), defScope (top 37), [("_law_hand_here" : Str), ("_law_many" : Str), ("_law_cell" : Str), ("_law_digit" : Str)], [("_law_hand_here" : Str), ("_law_many" : Str)], none⟩
def d__law_name : DefT := ⟨(("_law_name" : Str), none), "_law_name", "_law_name", defArgs (top 38), defBody (top 38), defScope (top 38), [("_law_hand_here" : Str), ("_law_taken" : Str), ("_law_letters" : Str), ("_law_size" : Str), ("_law_word" : Str), ("_law_barred" : Str), ("_law_spare" : Str), ("_law_k" : Str), ("_law_other" : Str)], [("_law_hand_here" : Str), ("_law_taken" : Str)], none⟩
def d__law_names : DefT := ⟨(("_law_names" : Str), none), "_law_names", "_law_names", defArgs (top 39), defBody (top 39), defScope (top 39), [("_law_hand_here" : Str), ("_law_many" : Str), ("_law_found" : Str), ("_law_k" : Str)], [("_law_hand_here" : Str), ("_law_many" : Str)], none⟩
def d__law_unit : DefT := ⟨(("_law_unit" : Str), none), "_law_unit", "_law_unit", defArgs (top 40), defBody (top 40), defScope (top 40), [("_law_hand_here" : Str), ("_law_pick" : Str)], [("_law_hand_here" : Str)], none⟩
def d__law_number : DefT := ⟨(("_law_number" : Str), none), "_law_number", "_law_number", defArgs (top 41), defBody (top 41), defScope (top 41), [("_law_hand_here" : Str), ("_law_unit_here" : Str)], [("_law_hand_here" : Str), ("_law_unit_here" : Str)], none⟩
def d__law_literal : DefT := ⟨(("_law_literal" : Str), none), "_law_literal", "_law_literal", defArgs (top 42), defBody (top 42), defScope (top 42), [("_law_hand_here" : Str), ("_law_names_here" : Str), ("_law_unit_here" : Str), ("_law_terms" : Str), ("_law_first" : Str), ("_law_second" : Str)], [("_law_hand_here" : Str), ("_law_names_here" : Str), ("_law_unit_here" : Str)], none⟩
def d__law_pool : DefT := ⟨(("_law_pool" : Str), none), "_law_pool", "_law_pool", defArgs (top 43), defBody (top 43), defScope (top 43), [("_law_hand_here" : Str), ("_law_names_here" : Str), ("_law_many" : Str), ("_law_unit_here" : Str), ("_law_pool_here" : Str), ("_law_k" : Str), ("_law_literal_here" : Str)], [("_law_hand_here" : Str), ("_law_names_here" : Str), ("_law_many" : Str), ("_law_unit_here" : Str)], none⟩
def d__law_world : DefT := ⟨(("_law_world" : Str), none), "_law_world", "_law_world", defArgs (top 44), defBody (top 44), defScope (top 44), [("_law_hand_here" : Str), ("_law_columns_most" : Str), ("_law_literals_most" : Str), ("_law_unit_here" : Str), ("_law_room" : Str), ("_law_names_here" : Str), ("_law_pool_here" : Str), ("_law_codes" : Str)], [("_law_hand_here" : Str), ("_law_columns_most" : Str), ("_law_literals_most" : Str), ("_law_unit_here" : Str), ("_law_room" : Str)], none⟩
def d__law_same : DefT := ⟨(("_law_same" : Str), none), "_law_same", "_law_same", defArgs (top 45), defBody (top 45), defScope (top 45), [("_law_actual" : Str), ("_law_expected" : Str), ("_law_key" : Str), ("_law_k" : Str)], [("_law_actual" : Str), ("_law_expected" : Str)], none⟩
def d__law_columns : DefT := ⟨(("_law_columns" : Str), none), "_law_columns", "_law_columns", defArgs (top 46), defBody (top 46), defScope (top 46), [("_law_names_here" : Str)], [("_law_names_here" : Str)], none⟩
def d__law_case : DefT := ⟨(("_law_case" : Str), none), "_law_case", "_law_case", defArgs (top 47), defBody (top 47), defScope (top 47), [("_law_hand_here" : Str), ("_law_names_here" : Str), ("_law_pool_here" : Str), ("_law_blank" : Str), ("_law_literals" : Str), ("_law_k" : Str), ("_law_literal_here" : Str), ("_law_name_here" : Str)], [("_law_hand_here" : Str), ("_law_names_here" : Str), ("_law_pool_here" : Str)], none⟩
def d__law_cases : DefT := ⟨(("_law_cases" : Str), none), "_law_cases", "_law_cases", defArgs (top 48), defBody (top 48), defScope (top 48), [("_law_hand_here" : Str), ("_law_names_here" : Str), ("_law_pool_here" : Str), ("_law_most" : Str), ("_law_k" : Str)], [("_law_hand_here" : Str), ("_law_names_here" : Str), ("_law_pool_here" : Str), ("_law_most" : Str)], none⟩
def d__law_spoiled_case : DefT := ⟨(("_law_spoiled_case" : Str), none), "_law_spoiled_case", "_law_spoiled_case", defArgs (top 49), defBody (top 49), defScope (top 49), [("_law_hand_here" : Str), ("_law_names_here" : Str), ("_law_case_here" : Str), ("_law_stranger" : Str), ("_law_name_here" : Str), ("_law_kind" : Str), ("_law_blank" : Str), ("_law_literals" : Str), ("_law_found" : Str)], [("_law_hand_here" : Str), ("_law_names_here" : Str), ("_law_case_here" : Str), ("_law_stranger" : Str)], none⟩
def d__law_asked : DefT := ⟨(("_law_asked" : Str), none), "_law_asked", "_law_asked", defArgs (top 50), defBody (top 50), defScope (top 50), [("_law_columns_here" : Str), ("_law_cases_here" : Str), ("e" : Str)], [("_law_columns_here" : Str), ("_law_cases_here" : Str)], none⟩
def d_law : DefT := ⟨(("law" : Str), none), "law", "law", defArgs (top 51), defBody (top 51), defScope (top 51), [("_law_script" : Str), ("_law_hand_here" : Str), ("_law_unit_here" : Str), ("_law_world_here" : Str), ("_law_names_here" : Str), ("_law_columns_here" : Str), ("_law_cases_here" : Str), ("_law_stranger" : Str), ("_law_thing" : Str), ("_law_due" : Str), ("_law_turn" : Str), ("_law_at" : Str)], [("_law_script" : Str)], none⟩
def T : TabD where
  con := [(("LETTERS" : Str), .str "abcdefghijklmnopqrstuvwxyz"),
    (("RESERVED" : Str), .tup [.str "and", .str "case", .str "else", .str "is", .str "missing", .str "must", .str "not", .str "or"]),
    (("MOST_COLUMNS" : Str), .int 4),
    (("LONGEST_NAME" : Str), .int 8),
    (("Columns" : Str), .glo "Columns"),
    (("RowSet" : Str), .glo "RowSet"),
    (("BatchError" : Str), .glo "BatchError"),
    (("BadColumns" : Str), .glo "BadColumns"),
    (("NoRow" : Str), .glo "NoRow"),
    (("BadCases" : Str), .glo "BadCases"),
    (("Unlike" : Str), .glo "Unlike")]
  fre := [("len" : Str),
    ("isinstance" : Str),
    ("int" : Str),
    ("list" : Str),
    ("tuple" : Str),
    ("range" : Str),
    ("str" : Str),
    ("bool" : Str),
    ("dict" : Str)]
  cls := [("Columns" : Str),
    ("RowSet" : Str)]
  isi := [((.b "NoneType", .b "bool"), false),
    ((.b "bool", .b "bool"), true),
    ((.b "int", .b "bool"), false),
    ((.b "str", .b "bool"), false),
    ((.b "tuple", .b "bool"), false),
    ((.b "list", .b "bool"), false),
    ((.b "dict", .b "bool"), false),
    ((.o "Columns", .b "bool"), false),
    ((.o "RowSet", .b "bool"), false),
    ((.o "BatchError", .b "bool"), false),
    ((.o "BadColumns", .b "bool"), false),
    ((.o "NoRow", .b "bool"), false),
    ((.o "BadCases", .b "bool"), false),
    ((.o "Unlike", .b "bool"), false),
    ((.b "NoneType", .b "dict"), false),
    ((.b "bool", .b "dict"), false),
    ((.b "int", .b "dict"), false),
    ((.b "str", .b "dict"), false),
    ((.b "tuple", .b "dict"), false),
    ((.b "list", .b "dict"), false),
    ((.b "dict", .b "dict"), true),
    ((.o "Columns", .b "dict"), false),
    ((.o "RowSet", .b "dict"), false),
    ((.o "BatchError", .b "dict"), false),
    ((.o "BadColumns", .b "dict"), false),
    ((.o "NoRow", .b "dict"), false),
    ((.o "BadCases", .b "dict"), false),
    ((.o "Unlike", .b "dict"), false),
    ((.b "NoneType", .b "int"), false),
    ((.b "bool", .b "int"), true),
    ((.b "int", .b "int"), true),
    ((.b "str", .b "int"), false),
    ((.b "tuple", .b "int"), false),
    ((.b "list", .b "int"), false),
    ((.b "dict", .b "int"), false),
    ((.o "Columns", .b "int"), false),
    ((.o "RowSet", .b "int"), false),
    ((.o "BatchError", .b "int"), false),
    ((.o "BadColumns", .b "int"), false),
    ((.o "NoRow", .b "int"), false),
    ((.o "BadCases", .b "int"), false),
    ((.o "Unlike", .b "int"), false),
    ((.b "NoneType", .b "list"), false),
    ((.b "bool", .b "list"), false),
    ((.b "int", .b "list"), false),
    ((.b "str", .b "list"), false),
    ((.b "tuple", .b "list"), false),
    ((.b "list", .b "list"), true),
    ((.b "dict", .b "list"), false),
    ((.o "Columns", .b "list"), false),
    ((.o "RowSet", .b "list"), false),
    ((.o "BatchError", .b "list"), false),
    ((.o "BadColumns", .b "list"), false),
    ((.o "NoRow", .b "list"), false),
    ((.o "BadCases", .b "list"), false),
    ((.o "Unlike", .b "list"), false),
    ((.b "NoneType", .b "str"), false),
    ((.b "bool", .b "str"), false),
    ((.b "int", .b "str"), false),
    ((.b "str", .b "str"), true),
    ((.b "tuple", .b "str"), false),
    ((.b "list", .b "str"), false),
    ((.b "dict", .b "str"), false),
    ((.o "Columns", .b "str"), false),
    ((.o "RowSet", .b "str"), false),
    ((.o "BatchError", .b "str"), false),
    ((.o "BadColumns", .b "str"), false),
    ((.o "NoRow", .b "str"), false),
    ((.o "BadCases", .b "str"), false),
    ((.o "Unlike", .b "str"), false),
    ((.b "NoneType", .b "tuple"), false),
    ((.b "bool", .b "tuple"), false),
    ((.b "int", .b "tuple"), false),
    ((.b "str", .b "tuple"), false),
    ((.b "tuple", .b "tuple"), true),
    ((.b "list", .b "tuple"), false),
    ((.b "dict", .b "tuple"), false),
    ((.o "Columns", .b "tuple"), false),
    ((.o "RowSet", .b "tuple"), false),
    ((.o "BatchError", .b "tuple"), false),
    ((.o "BadColumns", .b "tuple"), false),
    ((.o "NoRow", .b "tuple"), false),
    ((.o "BadCases", .b "tuple"), false),
    ((.o "Unlike", .b "tuple"), false)]
  noa := [(("Columns" : Str), ("names" : Str)),
    (("RowSet" : Str), ("columns" : Str)),
    (("RowSet" : Str), ("given_cases" : Str))]
  ers := [(("BadColumns" : Str), [("index" : Str)]),
    (("NoRow" : Str), [("name" : Str)]),
    (("BadCases" : Str), [("index" : Str)])]
  ert := [("Unlike" : Str)]
  xi := [("BatchError" : Str),
    ("BadColumns" : Str),
    ("NoRow" : Str),
    ("BadCases" : Str),
    ("Unlike" : Str)]
  xf := [(("BadColumns" : Str), ("index" : Str)),
    (("NoRow" : Str), ("name" : Str)),
    (("BadCases" : Str), ("index" : Str))]
  mt := [((("BadCases" : Str), ("BatchError" : Str)), false),
    ((("BadCases" : Str), ("BadColumns" : Str)), false),
    ((("BadCases" : Str), ("NoRow" : Str)), false),
    ((("BadCases" : Str), ("BadCases" : Str)), true),
    ((("BadCases" : Str), ("Unlike" : Str)), false)]
  fns := [(("is_integer" : Str), d_is_integer),
    (("is_name" : Str), d_is_name),
    (("is_term" : Str), d_is_term),
    (("is_literal" : Str), d_is_literal),
    (("is_case" : Str), d_is_case),
    (("_law_hand" : Str), d__law_hand),
    (("_law_mixed" : Str), d__law_mixed),
    (("_law_draw" : Str), d__law_draw),
    (("_law_name" : Str), d__law_name),
    (("_law_names" : Str), d__law_names),
    (("_law_unit" : Str), d__law_unit),
    (("_law_number" : Str), d__law_number),
    (("_law_literal" : Str), d__law_literal),
    (("_law_pool" : Str), d__law_pool),
    (("_law_world" : Str), d__law_world),
    (("_law_same" : Str), d__law_same),
    (("_law_columns" : Str), d__law_columns),
    (("_law_case" : Str), d__law_case),
    (("_law_cases" : Str), d__law_cases),
    (("_law_spoiled_case" : Str), d__law_spoiled_case),
    (("_law_asked" : Str), d__law_asked)]
  mks := [(("Columns" : Str), d_Columnsu_initu),
    (("RowSet" : Str), d_RowSetu_initu)]
  mts := [((("Columns" : Str), ("__contains__" : Str)), d_Columnsu_containsu)]

theorem sc_is_integer : FnScope d_is_integer.N (d_is_integer.ps ++ d_is_integer.star.toList) d_is_integer.scope := ⟨rfl, rfl, rfl, by decide +kernel, rfl, by decide +kernel, by decide +kernel⟩
theorem tx_is_integer : DefTx d_is_integer := ⟨sc_is_integer, fun _ kV doc pm an cdv ct us hl => match us, hl with | [_], _ => rfl, (fun pv h => nomatch h)⟩
theorem sc_is_name : FnScope d_is_name.N (d_is_name.ps ++ d_is_name.star.toList) d_is_name.scope := ⟨rfl, rfl, rfl, by decide +kernel, rfl, by decide +kernel, by decide +kernel⟩
theorem tx_is_name : DefTx d_is_name := ⟨sc_is_name, fun _ kV doc pm an cdv ct us hl => match us, hl with | [_], _ => rfl, (fun pv h => nomatch h)⟩
theorem sc_Columnsu_initu : FnScope d_Columnsu_initu.N (d_Columnsu_initu.ps ++ d_Columnsu_initu.star.toList) d_Columnsu_initu.scope := ⟨rfl, rfl, rfl, by decide +kernel, rfl, by decide +kernel, by decide +kernel⟩
theorem tx_Columnsu_initu : DefTx d_Columnsu_initu := ⟨sc_Columnsu_initu, (fun h => nomatch h), fun pv h kV doc pm an cdv ct us rest hl => by cases h; exact (match us, hl with | [_], _ => (by cases rest <;> first | rfl | kernel_rfl))⟩
theorem sc_Columnsu_containsu : FnScope d_Columnsu_containsu.N (d_Columnsu_containsu.ps ++ d_Columnsu_containsu.star.toList) d_Columnsu_containsu.scope := ⟨rfl, rfl, rfl, by decide +kernel, rfl, by decide +kernel, by decide +kernel⟩
theorem tx_Columnsu_containsu : DefTx d_Columnsu_containsu := ⟨sc_Columnsu_containsu, fun _ kV doc pm an cdv ct us hl => match us, hl with | [_, _], _ => rfl, (fun pv h => nomatch h)⟩
theorem sc_is_term : FnScope d_is_term.N (d_is_term.ps ++ d_is_term.star.toList) d_is_term.scope := ⟨rfl, rfl, rfl, by decide +kernel, rfl, by decide +kernel, by decide +kernel⟩
theorem tx_is_term : DefTx d_is_term := ⟨sc_is_term, fun _ kV doc pm an cdv ct us hl => match us, hl with | [_, _], _ => rfl, (fun pv h => nomatch h)⟩
theorem sc_is_literal : FnScope d_is_literal.N (d_is_literal.ps ++ d_is_literal.star.toList) d_is_literal.scope := ⟨rfl, rfl, rfl, by decide +kernel, rfl, by decide +kernel, by decide +kernel⟩
theorem tx_is_literal : DefTx d_is_literal := ⟨sc_is_literal, fun _ kV doc pm an cdv ct us hl => match us, hl with | [_, _], _ => rfl, (fun pv h => nomatch h)⟩
theorem sc_is_case : FnScope d_is_case.N (d_is_case.ps ++ d_is_case.star.toList) d_is_case.scope := ⟨rfl, rfl, rfl, by decide +kernel, rfl, by decide +kernel, by decide +kernel⟩
theorem tx_is_case : DefTx d_is_case := ⟨sc_is_case, fun _ kV doc pm an cdv ct us hl => match us, hl with | [_, _], _ => rfl, (fun pv h => nomatch h)⟩
theorem sc_RowSetu_initu : FnScope d_RowSetu_initu.N (d_RowSetu_initu.ps ++ d_RowSetu_initu.star.toList) d_RowSetu_initu.scope := ⟨rfl, rfl, rfl, by decide +kernel, rfl, by decide +kernel, by decide +kernel⟩
theorem tx_RowSetu_initu : DefTx d_RowSetu_initu := ⟨sc_RowSetu_initu, fun _ kV doc pm an cdv ct us hl => match us, hl with | [_, _, _], _ => rfl, (fun pv h => nomatch h)⟩
theorem sc__law_hand : FnScope d__law_hand.N (d__law_hand.ps ++ d__law_hand.star.toList) d__law_hand.scope := ⟨rfl, rfl, rfl, by decide +kernel, rfl, by decide +kernel, by decide +kernel⟩
theorem tx__law_hand : DefTx d__law_hand := ⟨sc__law_hand, fun _ kV doc pm an cdv ct us hl => match us, hl with | [_], _ => rfl, (fun pv h => nomatch h)⟩
theorem sc__law_mixed : FnScope d__law_mixed.N (d__law_mixed.ps ++ d__law_mixed.star.toList) d__law_mixed.scope := ⟨rfl, rfl, rfl, by decide +kernel, rfl, by decide +kernel, by decide +kernel⟩
theorem tx__law_mixed : DefTx d__law_mixed := ⟨sc__law_mixed, fun _ kV doc pm an cdv ct us hl => match us, hl with | [_, _], _ => rfl, (fun pv h => nomatch h)⟩
theorem sc__law_draw : FnScope d__law_draw.N (d__law_draw.ps ++ d__law_draw.star.toList) d__law_draw.scope := ⟨rfl, rfl, rfl, by decide +kernel, rfl, by decide +kernel, by decide +kernel⟩
theorem tx__law_draw : DefTx d__law_draw := ⟨sc__law_draw, fun _ kV doc pm an cdv ct us hl => match us, hl with | [_, _], _ => rfl, (fun pv h => nomatch h)⟩
theorem sc__law_name : FnScope d__law_name.N (d__law_name.ps ++ d__law_name.star.toList) d__law_name.scope := ⟨rfl, rfl, rfl, by decide +kernel, rfl, by decide +kernel, by decide +kernel⟩
theorem tx__law_name : DefTx d__law_name := ⟨sc__law_name, fun _ kV doc pm an cdv ct us hl => match us, hl with | [_, _], _ => rfl, (fun pv h => nomatch h)⟩
theorem sc__law_names : FnScope d__law_names.N (d__law_names.ps ++ d__law_names.star.toList) d__law_names.scope := ⟨rfl, rfl, rfl, by decide +kernel, rfl, by decide +kernel, by decide +kernel⟩
theorem tx__law_names : DefTx d__law_names := ⟨sc__law_names, fun _ kV doc pm an cdv ct us hl => match us, hl with | [_, _], _ => rfl, (fun pv h => nomatch h)⟩
theorem sc__law_unit : FnScope d__law_unit.N (d__law_unit.ps ++ d__law_unit.star.toList) d__law_unit.scope := ⟨rfl, rfl, rfl, by decide +kernel, rfl, by decide +kernel, by decide +kernel⟩
theorem tx__law_unit : DefTx d__law_unit := ⟨sc__law_unit, fun _ kV doc pm an cdv ct us hl => match us, hl with | [_], _ => rfl, (fun pv h => nomatch h)⟩
theorem sc__law_number : FnScope d__law_number.N (d__law_number.ps ++ d__law_number.star.toList) d__law_number.scope := ⟨rfl, rfl, rfl, by decide +kernel, rfl, by decide +kernel, by decide +kernel⟩
theorem tx__law_number : DefTx d__law_number := ⟨sc__law_number, fun _ kV doc pm an cdv ct us hl => match us, hl with | [_, _], _ => rfl, (fun pv h => nomatch h)⟩
theorem sc__law_literal : FnScope d__law_literal.N (d__law_literal.ps ++ d__law_literal.star.toList) d__law_literal.scope := ⟨rfl, rfl, rfl, by decide +kernel, rfl, by decide +kernel, by decide +kernel⟩
theorem tx__law_literal : DefTx d__law_literal := ⟨sc__law_literal, fun _ kV doc pm an cdv ct us hl => match us, hl with | [_, _, _], _ => rfl, (fun pv h => nomatch h)⟩
theorem sc__law_pool : FnScope d__law_pool.N (d__law_pool.ps ++ d__law_pool.star.toList) d__law_pool.scope := ⟨rfl, rfl, rfl, by decide +kernel, rfl, by decide +kernel, by decide +kernel⟩
theorem tx__law_pool : DefTx d__law_pool := ⟨sc__law_pool, fun _ kV doc pm an cdv ct us hl => match us, hl with | [_, _, _, _], _ => rfl, (fun pv h => nomatch h)⟩
theorem sc__law_world : FnScope d__law_world.N (d__law_world.ps ++ d__law_world.star.toList) d__law_world.scope := ⟨rfl, rfl, rfl, by decide +kernel, rfl, by decide +kernel, by decide +kernel⟩
theorem tx__law_world : DefTx d__law_world := ⟨sc__law_world, fun _ kV doc pm an cdv ct us hl => match us, hl with | [_, _, _, _, _], _ => rfl, (fun pv h => nomatch h)⟩
theorem sc__law_same : FnScope d__law_same.N (d__law_same.ps ++ d__law_same.star.toList) d__law_same.scope := ⟨rfl, rfl, rfl, by decide +kernel, rfl, by decide +kernel, by decide +kernel⟩
theorem tx__law_same : DefTx d__law_same := ⟨sc__law_same, fun _ kV doc pm an cdv ct us hl => match us, hl with | [_, _], _ => rfl, (fun pv h => nomatch h)⟩
theorem sc__law_columns : FnScope d__law_columns.N (d__law_columns.ps ++ d__law_columns.star.toList) d__law_columns.scope := ⟨rfl, rfl, rfl, by decide +kernel, rfl, by decide +kernel, by decide +kernel⟩
theorem tx__law_columns : DefTx d__law_columns := ⟨sc__law_columns, fun _ kV doc pm an cdv ct us hl => match us, hl with | [_], _ => rfl, (fun pv h => nomatch h)⟩
theorem sc__law_case : FnScope d__law_case.N (d__law_case.ps ++ d__law_case.star.toList) d__law_case.scope := ⟨rfl, rfl, rfl, by decide +kernel, rfl, by decide +kernel, by decide +kernel⟩
theorem tx__law_case : DefTx d__law_case := ⟨sc__law_case, fun _ kV doc pm an cdv ct us hl => match us, hl with | [_, _, _], _ => rfl, (fun pv h => nomatch h)⟩
theorem sc__law_cases : FnScope d__law_cases.N (d__law_cases.ps ++ d__law_cases.star.toList) d__law_cases.scope := ⟨rfl, rfl, rfl, by decide +kernel, rfl, by decide +kernel, by decide +kernel⟩
theorem tx__law_cases : DefTx d__law_cases := ⟨sc__law_cases, fun _ kV doc pm an cdv ct us hl => match us, hl with | [_, _, _, _], _ => rfl, (fun pv h => nomatch h)⟩
theorem sc__law_spoiled_case : FnScope d__law_spoiled_case.N (d__law_spoiled_case.ps ++ d__law_spoiled_case.star.toList) d__law_spoiled_case.scope := ⟨rfl, rfl, rfl, by decide +kernel, rfl, by decide +kernel, by decide +kernel⟩
theorem tx__law_spoiled_case : DefTx d__law_spoiled_case := ⟨sc__law_spoiled_case, fun _ kV doc pm an cdv ct us hl => match us, hl with | [_, _, _, _], _ => rfl, (fun pv h => nomatch h)⟩
theorem sc__law_asked : FnScope d__law_asked.N (d__law_asked.ps ++ d__law_asked.star.toList) d__law_asked.scope := ⟨rfl, rfl, rfl, by decide +kernel, rfl, by decide +kernel, by decide +kernel⟩
theorem tx__law_asked : DefTx d__law_asked := ⟨sc__law_asked, fun _ kV doc pm an cdv ct us hl => match us, hl with | [_, _], _ => rfl, (fun pv h => nomatch h)⟩
theorem sc_law : FnScope d_law.N (d_law.ps ++ d_law.star.toList) d_law.scope := ⟨rfl, rfl, rfl, by decide +kernel, rfl, by decide +kernel, by decide +kernel⟩
theorem tx_law : DefTx d_law := ⟨sc_law, fun _ kV doc pm an cdv ct us hl => match us, hl with | [_], _ => rfl, (fun pv h => nomatch h)⟩
theorem tx : ∀ d ∈ d_law :: T.defs, DefTx d := by
  intro d hd
  simp only [T, TabD.defs, List.map_cons, List.map_nil, List.cons_append, List.nil_append, List.append_nil, List.mem_cons, List.not_mem_nil, or_false] at hd
  rcases hd with rfl | rfl | rfl | rfl | rfl | rfl | rfl | rfl | rfl | rfl | rfl | rfl | rfl | rfl | rfl | rfl | rfl | rfl | rfl | rfl | rfl | rfl | rfl | rfl | rfl
  all_goals first
    | exact tx_is_integer
    | exact tx_is_name
    | exact tx_Columnsu_initu
    | exact tx_Columnsu_containsu
    | exact tx_is_term
    | exact tx_is_literal
    | exact tx_is_case
    | exact tx_RowSetu_initu
    | exact tx__law_hand
    | exact tx__law_mixed
    | exact tx__law_draw
    | exact tx__law_name
    | exact tx__law_names
    | exact tx__law_unit
    | exact tx__law_number
    | exact tx__law_literal
    | exact tx__law_pool
    | exact tx__law_world
    | exact tx__law_same
    | exact tx__law_columns
    | exact tx__law_case
    | exact tx__law_cases
    | exact tx__law_spoiled_case
    | exact tx__law_asked
    | exact tx_law
end Lk04

set_option Elab.async false
set_option linter.all false
set_option maxRecDepth 100000
set_option maxHeartbeats 0
namespace Lk04
open PySem PySem.Spec PyProof.Rows L2 Bt Bt.Pv
def mkL : List ((Str × Option Str) × List Bool) := [((("is_integer" : Str), none), [true]), ((("is_name" : Str), none), [true]), ((("Columns" : Str), some ("__init__" : Str)), [true]), ((("Columns" : Str), some ("__contains__" : Str)), [true, true]), ((("is_term" : Str), none), [true, true]), ((("is_literal" : Str), none), [true, true]), ((("is_case" : Str), none), [true, false]), ((("RowSet" : Str), some ("__init__" : Str)), [true, false, false]), ((("_law_hand" : Str), none), [true]), ((("_law_mixed" : Str), none), [true, true]), ((("_law_draw" : Str), none), [true, true]), ((("_law_name" : Str), none), [true, true]), ((("_law_names" : Str), none), [true, true]), ((("_law_unit" : Str), none), [true]), ((("_law_number" : Str), none), [true, true]), ((("_law_literal" : Str), none), [true, true, true]), ((("_law_pool" : Str), none), [true, true, true, true]), ((("_law_world" : Str), none), [true, true, true, true, true]), ((("_law_same" : Str), none), [false, false]), ((("_law_columns" : Str), none), [true]), ((("_law_case" : Str), none), [true, true, true]), ((("_law_cases" : Str), none), [true, true, true, true]), ((("_law_spoiled_case" : Str), none), [true, true, false, false]), ((("_law_asked" : Str), none), [false, false]), ((("law" : Str), none), [true])]
def mk : Msk := fun a => (mkL.lookup a).getD []
abbrev Gk (k : Nat) : GP := gp T mk k
def q_is_integer (H : GP) : PSm := pSeq (pRet (pAndV (pCall H.Ψ "isinstance" (pCons (pVar 0) (pCons (pGlob H.Ψ "int") (pNil)))) (pNotV (pCall H.Ψ "isinstance" (pCons (pVar 0) (pCons (pGlob H.Ψ "bool") (pNil))))))) (pNilS)
theorem m_is_integer (cal : Str → Option PFn) (met : Str → Str → Option PFn) : meanP d_is_integer (gpOf T (pgOf T cal met)) = q_is_integer (gpOf T (pgOf T cal met)) := by kernel_rfl
theorem r_is_integer (k : Nat) (a0 : Sl) : runP d_is_integer (Gk k) [a0] = outP [a0] (q_is_integer (Gk k) [some a0]) := by
  have e : meanP d_is_integer (Gk k) = q_is_integer (Gk k) := by cases k <;> exact m_is_integer _ _
  show fnP 1 1 (meanP d_is_integer (Gk k)) [a0] = _
  rw [e]
  rfl
theorem c_is_integer (k : Nat) : (Gk (k + 1)).Ψ.cal "is_integer" = some ⟨[true], runP d_is_integer (Gk k)⟩ := by kernel_rfl
theorem k_is_integer (k : Nat) (m : PAm) (pe : PEnv) : pCall (Gk (k + 1)).Ψ "is_integer" m pe = (m [true] pe).bind fun as pe => callP ⟨[true], runP d_is_integer (Gk k)⟩ as pe := e_call (c_is_integer k)
def q_is_name (H : GP) : PSm := pSeq (pIf (pOrT (pNotT (pTru (pCall H.Ψ "isinstance" (pCons (pVar 0) (pCons (pGlob H.Ψ "str") (pNil)))))) (pNotT (pTest (pChain oLe oLe (pC (.int 1)) (pCall H.Ψ "len" (pCons (pVar 0) (pNil))) (pGlob H.Ψ "LONGEST_NAME"))))) (pSeq (pRet (pC (.bl false))) (pNilS)) (pNilS)) (pSeq (pFor (pIter (pVar 0)) (pNam 1) (pSeq (pIf (pTest (pOp (inT H.Ψ true) (pVar 1) (pGlob H.Ψ "LETTERS"))) (pSeq (pRet (pC (.bl false))) (pNilS)) (pNilS)) (pNilS))) (pSeq (pRet (pOp (inT H.Ψ true) (pVar 0) (pGlob H.Ψ "RESERVED"))) (pNilS)))
theorem m_is_name (cal : Str → Option PFn) (met : Str → Str → Option PFn) : meanP d_is_name (gpOf T (pgOf T cal met)) = q_is_name (gpOf T (pgOf T cal met)) := by kernel_rfl
theorem r_is_name (k : Nat) (a0 : Sl) : runP d_is_name (Gk k) [a0] = outP [a0] (q_is_name (Gk k) [some a0, none]) := by
  have e : meanP d_is_name (Gk k) = q_is_name (Gk k) := by cases k <;> exact m_is_name _ _
  show fnP 2 1 (meanP d_is_name (Gk k)) [a0] = _
  rw [e]
  rfl
theorem c_is_name (k : Nat) : (Gk (k + 1)).Ψ.cal "is_name" = some ⟨[true], runP d_is_name (Gk k)⟩ := by kernel_rfl
theorem k_is_name (k : Nat) (m : PAm) (pe : PEnv) : pCall (Gk (k + 1)).Ψ "is_name" m pe = (m [true] pe).bind fun as pe => callP ⟨[true], runP d_is_name (Gk k)⟩ as pe := e_call (c_is_name k)
def q_Columnsu_initu (H : GP) : PSm := pSeq (pIf (pNotT (pTest (pChain oLe oLe (pC (.int 1)) (pCall H.Ψ "len" (pCons (pVar 1) (pNil))) (pGlob H.Ψ "MOST_COLUMNS")))) (pSeq (pRaise "BadColumns" ["index"] (pCons (pUn oNeg (pC (.int 1))) (pNil))) (pNilS)) (pNilS)) (pSeq (pFor (pRange1 (pCall H.Ψ "len" (pCons (pVar 1) (pNil)))) (pNam 2) (pSeq (pIf (pOrT (pNotT (pTru (pCall H.Ψ "is_name" (pCons (pOp oIx (pVar 1) (pVar 2)) (pNil))))) (pTest (pOp (inT H.Ψ false) (pOp oIx (pVar 1) (pVar 2)) (pSl (pVar 1) pNoPart (pPart (pVar 2)))))) (pSeq (pRaise "BadColumns" ["index"] (pCons (pVar 2) (pNil))) (pNilS)) (pNilS)) (pNilS))) (pSeq (pFld H.Ψ "names" (pCall H.Ψ "tuple" (pCons (pVar 1) (pNil))) (pVar 0)) (pNilS)))
theorem m_Columnsu_initu (cal : Str → Option PFn) (met : Str → Str → Option PFn) : meanP d_Columnsu_initu (gpOf T (pgOf T cal met)) = q_Columnsu_initu (gpOf T (pgOf T cal met)) := by kernel_rfl
theorem r_Columnsu_initu (k : Nat) (a0 : Sl) (ps : List P) (hz : ps.length ≤ sizeLine) : runP d_Columnsu_initu (Gk k) (a0 :: ps.map Sl.sh) = outP [a0] (q_Columnsu_initu (Gk k) [some a0, some (.sh (.tup ps)), none]) := by
  have e : meanP d_Columnsu_initu (Gk k) = q_Columnsu_initu (Gk k) := by cases k <;> exact m_Columnsu_initu _ _
  show fnPS 3 1 (meanP d_Columnsu_initu (Gk k)) (a0 :: ps.map Sl.sh) = _
  rw [e]
  unfold fnPS
  rw [if_pos ⟨by simp, by simpa using hz⟩]
  have e2 : shsS ((a0 :: ps.map Sl.sh).drop 1) = some ps := shsS_map ps
  rw [e2]
  rfl
theorem c_Columns (k : Nat) : (Gk (k + 1)).Ψ.cal "Columns" = some (makeP "Columns" ⟨[true], runP d_Columnsu_initu (Gk k)⟩) := by kernel_rfl
theorem k_Columns (k : Nat) (m : PAm) (pe : PEnv) : pCall (Gk (k + 1)).Ψ "Columns" m pe = (m [] pe).bind fun as pe => callP (makeP "Columns" ⟨[true], runP d_Columnsu_initu (Gk k)⟩) as pe := e_call (c_Columns k)
theorem k0_Columns (k : Nat) (pe : PEnv) : pCall0 (Gk (k + 1)).Ψ "Columns" pe = callP (makeP "Columns" ⟨[true], runP d_Columnsu_initu (Gk k)⟩) [] pe := e_call0 (c_Columns k)
def q_Columnsu_containsu (H : GP) : PSm := pSeq (pRet (pAndV (pCall H.Ψ "isinstance" (pCons (pVar 1) (pCons (pGlob H.Ψ "str") (pNil)))) (pOp (inT H.Ψ false) (pVar 1) (pUn (oAttr H.Ψ "names") (pVar 0))))) (pNilS)
theorem m_Columnsu_containsu (cal : Str → Option PFn) (met : Str → Str → Option PFn) : meanP d_Columnsu_containsu (gpOf T (pgOf T cal met)) = q_Columnsu_containsu (gpOf T (pgOf T cal met)) := by kernel_rfl
theorem r_Columnsu_containsu (k : Nat) (a0 a1 : Sl) : runP d_Columnsu_containsu (Gk k) [a0, a1] = outP [a0, a1] (q_Columnsu_containsu (Gk k) [some a0, some a1]) := by
  have e : meanP d_Columnsu_containsu (Gk k) = q_Columnsu_containsu (Gk k) := by cases k <;> exact m_Columnsu_containsu _ _
  show fnP 2 2 (meanP d_Columnsu_containsu (Gk k)) [a0, a1] = _
  rw [e]
  rfl
theorem c_Columnsu_containsu (k : Nat) : (Gk (k + 1)).Ψ.met "Columns" "__contains__" = some ⟨[true, true], runP d_Columnsu_containsu (Gk k)⟩ := by kernel_rfl
def q_is_term (H : GP) : PSm := pSeq (pRet (pAndV (pCall H.Ψ "isinstance" (pCons (pVar 1) (pCons (pGlob H.Ψ "str") (pNil)))) (pOrV (pOp (eqT H.Ψ) (pVar 1) (pC (.str ""))) (pOp (inT H.Ψ false) (pVar 1) (pUn (oAttr H.Ψ "names") (pVar 0)))))) (pNilS)
theorem m_is_term (cal : Str → Option PFn) (met : Str → Str → Option PFn) : meanP d_is_term (gpOf T (pgOf T cal met)) = q_is_term (gpOf T (pgOf T cal met)) := by kernel_rfl
theorem r_is_term (k : Nat) (a0 a1 : Sl) : runP d_is_term (Gk k) [a0, a1] = outP [a0, a1] (q_is_term (Gk k) [some a0, some a1]) := by
  have e : meanP d_is_term (Gk k) = q_is_term (Gk k) := by cases k <;> exact m_is_term _ _
  show fnP 2 2 (meanP d_is_term (Gk k)) [a0, a1] = _
  rw [e]
  rfl
theorem c_is_term (k : Nat) : (Gk (k + 1)).Ψ.cal "is_term" = some ⟨[true, true], runP d_is_term (Gk k)⟩ := by kernel_rfl
theorem k_is_term (k : Nat) (m : PAm) (pe : PEnv) : pCall (Gk (k + 1)).Ψ "is_term" m pe = (m [true, true] pe).bind fun as pe => callP ⟨[true, true], runP d_is_term (Gk k)⟩ as pe := e_call (c_is_term k)
def q_is_literal (H : GP) : PSm := pSeq (pIf (pOrT (pNotT (pTru (pCall H.Ψ "isinstance" (pCons (pVar 1) (pCons (pGlob H.Ψ "tuple") (pNil)))))) (pOrT (pTest (pOp neT (pCall H.Ψ "len" (pCons (pVar 1) (pNil))) (pC (.int 3)))) (pNotT (pTru (pCall H.Ψ "is_integer" (pCons (pOp oIx (pVar 1) (pC (.int 2))) (pNil))))))) (pSeq (pRet (pC (.bl false))) (pNilS)) (pNilS)) (pSeq (pRet (pAndV (pCall H.Ψ "is_term" (pCons (pVar 0) (pCons (pOp oIx (pVar 1) (pC (.int 0))) (pNil)))) (pAndV (pCall H.Ψ "is_term" (pCons (pVar 0) (pCons (pOp oIx (pVar 1) (pC (.int 1))) (pNil)))) (pOp neT (pOp oIx (pVar 1) (pC (.int 0))) (pOp oIx (pVar 1) (pC (.int 1))))))) (pNilS))
theorem m_is_literal (cal : Str → Option PFn) (met : Str → Str → Option PFn) : meanP d_is_literal (gpOf T (pgOf T cal met)) = q_is_literal (gpOf T (pgOf T cal met)) := by kernel_rfl
theorem r_is_literal (k : Nat) (a0 a1 : Sl) : runP d_is_literal (Gk k) [a0, a1] = outP [a0, a1] (q_is_literal (Gk k) [some a0, some a1]) := by
  have e : meanP d_is_literal (Gk k) = q_is_literal (Gk k) := by cases k <;> exact m_is_literal _ _
  show fnP 2 2 (meanP d_is_literal (Gk k)) [a0, a1] = _
  rw [e]
  rfl
theorem c_is_literal (k : Nat) : (Gk (k + 1)).Ψ.cal "is_literal" = some ⟨[true, true], runP d_is_literal (Gk k)⟩ := by kernel_rfl
theorem k_is_literal (k : Nat) (m : PAm) (pe : PEnv) : pCall (Gk (k + 1)).Ψ "is_literal" m pe = (m [true, true] pe).bind fun as pe => callP ⟨[true, true], runP d_is_literal (Gk k)⟩ as pe := e_call (c_is_literal k)
def q_is_case (H : GP) : PSm := pSeq (pIf (pOrT (pNotT (pTru (pCall H.Ψ "isinstance" (pCons (pVar 1) (pCons (pGlob H.Ψ "tuple") (pNil)))))) (pTest (pOp neT (pCall H.Ψ "len" (pCons (pVar 1) (pNil))) (pC (.int 2))))) (pSeq (pRet (pC (.bl false))) (pNilS)) (pNilS)) (pSeq (pAsg (pVar 1) (pTupG [2, 3])) (pSeq (pIf (pOrT (pNotT (pTru (pCall H.Ψ "isinstance" (pCons (pVar 2) (pCons (pGlob H.Ψ "tuple") (pNil)))))) (pNotT (pTru (pCall H.Ψ "isinstance" (pCons (pVar 3) (pCons (pGlob H.Ψ "tuple") (pNil))))))) (pSeq (pRet (pC (.bl false))) (pNilS)) (pNilS)) (pSeq (pFor (pRange1 (pCall H.Ψ "len" (pCons (pVar 2) (pNil)))) (pNam 4) (pSeq (pIf (pOrT (pTest (pOp (inT H.Ψ true) (pOp oIx (pVar 2) (pVar 4)) (pVar 0))) (pTest (pOp (inT H.Ψ false) (pOp oIx (pVar 2) (pVar 4)) (pSl (pVar 2) pNoPart (pPart (pVar 4)))))) (pSeq (pRet (pC (.bl false))) (pNilS)) (pNilS)) (pNilS))) (pSeq (pFor (pIter (pVar 3)) (pNam 5) (pSeq (pIf (pOrT (pNotT (pTru (pCall H.Ψ "is_literal" (pCons (pVar 0) (pCons (pVar 5) (pNil)))))) (pOrT (pTest (pOp (inT H.Ψ false) (pOp oIx (pVar 5) (pC (.int 0))) (pVar 2))) (pTest (pOp (inT H.Ψ false) (pOp oIx (pVar 5) (pC (.int 1))) (pVar 2))))) (pSeq (pRet (pC (.bl false))) (pNilS)) (pNilS)) (pNilS))) (pSeq (pRet (pC (.bl true))) (pNilS))))))
theorem m_is_case (cal : Str → Option PFn) (met : Str → Str → Option PFn) : meanP d_is_case (gpOf T (pgOf T cal met)) = q_is_case (gpOf T (pgOf T cal met)) := by kernel_rfl
theorem r_is_case (k : Nat) (a0 a1 : Sl) : runP d_is_case (Gk k) [a0, a1] = outP [a0, a1] (q_is_case (Gk k) [some a0, some a1, none, none, none, none]) := by
  have e : meanP d_is_case (Gk k) = q_is_case (Gk k) := by cases k <;> exact m_is_case _ _
  show fnP 6 2 (meanP d_is_case (Gk k)) [a0, a1] = _
  rw [e]
  rfl
theorem c_is_case (k : Nat) : (Gk (k + 1)).Ψ.cal "is_case" = some ⟨[true, false], runP d_is_case (Gk k)⟩ := by kernel_rfl
theorem k_is_case (k : Nat) (m : PAm) (pe : PEnv) : pCall (Gk (k + 1)).Ψ "is_case" m pe = (m [true, false] pe).bind fun as pe => callP ⟨[true, false], runP d_is_case (Gk k)⟩ as pe := e_call (c_is_case k)
def q_RowSetu_initu (H : GP) : PSm := pSeq (pIf (pNotT (pTru (pCall H.Ψ "isinstance" (pCons (pVar 2) (pCons (pGlob H.Ψ "tuple") (pNil)))))) (pSeq (pRaise "BadCases" ["index"] (pCons (pUn oNeg (pC (.int 1))) (pNil))) (pNilS)) (pNilS)) (pSeq (pFor (pRange1 (pCall H.Ψ "len" (pCons (pVar 2) (pNil)))) (pNam 3) (pSeq (pIf (pNotT (pTru (pCall H.Ψ "is_case" (pCons (pVar 1) (pCons (pOp oIx (pVar 2) (pVar 3)) (pNil)))))) (pSeq (pRaise "BadCases" ["index"] (pCons (pVar 3) (pNil))) (pNilS)) (pNilS)) (pNilS))) (pSeq (pFld H.Ψ "columns" (pVar 1) (pVar 0)) (pSeq (pFld H.Ψ "given_cases" (pVar 2) (pVar 0)) (pNilS))))
theorem m_RowSetu_initu (cal : Str → Option PFn) (met : Str → Str → Option PFn) : meanP d_RowSetu_initu (gpOf T (pgOf T cal met)) = q_RowSetu_initu (gpOf T (pgOf T cal met)) := by kernel_rfl
theorem r_RowSetu_initu (k : Nat) (a0 a1 a2 : Sl) : runP d_RowSetu_initu (Gk k) [a0, a1, a2] = outP [a0, a1, a2] (q_RowSetu_initu (Gk k) [some a0, some a1, some a2, none]) := by
  have e : meanP d_RowSetu_initu (Gk k) = q_RowSetu_initu (Gk k) := by cases k <;> exact m_RowSetu_initu _ _
  show fnP 4 3 (meanP d_RowSetu_initu (Gk k)) [a0, a1, a2] = _
  rw [e]
  rfl
theorem c_RowSet (k : Nat) : (Gk (k + 1)).Ψ.cal "RowSet" = some (makeP "RowSet" ⟨[true, false, false], runP d_RowSetu_initu (Gk k)⟩) := by kernel_rfl
theorem k_RowSet (k : Nat) (m : PAm) (pe : PEnv) : pCall (Gk (k + 1)).Ψ "RowSet" m pe = (m [false, false] pe).bind fun as pe => callP (makeP "RowSet" ⟨[true, false, false], runP d_RowSetu_initu (Gk k)⟩) as pe := e_call (c_RowSet k)
theorem k0_RowSet (k : Nat) (pe : PEnv) : pCall0 (Gk (k + 1)).Ψ "RowSet" pe = callP (makeP "RowSet" ⟨[true, false, false], runP d_RowSetu_initu (Gk k)⟩) [] pe := e_call0 (c_RowSet k)
def q__law_hand (H : GP) : PSm := pSeq (pAsg (pCall H.Ψ "list" (pCons (pSl (pVar 0) pNoPart (pPart (pC (.int 63)))) (pNil))) (pNam 1)) (pSeq (pAsg (pC (.int 7)) (pNam 2)) (pSeq (pFor (pIter (pVar 1)) (pNam 3) (pSeq (pAsg (pOp oMod (pCall H.Ψ "int" (pCons (pOp oAdd (pOp oAdd (pOp oMul (pVar 2) (pC (.int 31))) (pVar 3)) (pC (.int 11))) (pNil))) (pC (.int 2147483629))) (pNam 2)) (pNilS))) (pSeq (pRet (pLst (pCons (pVar 1) (pCons (pC (.int 0)) (pCons (pC (.int 0)) (pCons (pC (.int 0)) (pCons (pVar 2) (pNil)))))))) (pNilS))))
theorem m__law_hand (cal : Str → Option PFn) (met : Str → Str → Option PFn) : meanP d__law_hand (gpOf T (pgOf T cal met)) = q__law_hand (gpOf T (pgOf T cal met)) := by kernel_rfl
theorem r__law_hand (k : Nat) (a0 : Sl) : runP d__law_hand (Gk k) [a0] = outP [a0] (q__law_hand (Gk k) [some a0, none, none, none]) := by
  have e : meanP d__law_hand (Gk k) = q__law_hand (Gk k) := by cases k <;> exact m__law_hand _ _
  show fnP 4 1 (meanP d__law_hand (Gk k)) [a0] = _
  rw [e]
  rfl
theorem c__law_hand (k : Nat) : (Gk (k + 1)).Ψ.cal "_law_hand" = some ⟨[true], runP d__law_hand (Gk k)⟩ := by kernel_rfl
theorem k__law_hand (k : Nat) (m : PAm) (pe : PEnv) : pCall (Gk (k + 1)).Ψ "_law_hand" m pe = (m [true] pe).bind fun as pe => callP ⟨[true], runP d__law_hand (Gk k)⟩ as pe := e_call (c__law_hand k)
def q__law_mixed (H : GP) : PSm := pSeq (pAsg (pOp oMod (pCall H.Ψ "int" (pCons (pOp oAdd (pOp oAdd (pOp oMul (pVar 0) (pC (.int 48271))) (pOp oMul (pVar 1) (pC (.int 7919)))) (pC (.int 30103))) (pNil))) (pC (.int 2147483647))) (pNam 2)) (pSeq (pAsg (pOp oMod (pCall H.Ψ "int" (pCons (pOp oMul (pVar 2) (pOp oAdd (pOp oDiv (pVar 2) (pC (.int 1009))) (pC (.int 69621)))) (pNil))) (pC (.int 2147483647))) (pNam 3)) (pSeq (pRet (pOp oMod (pCall H.Ψ "int" (pCons (pOp oAdd (pOp oMul (pVar 3) (pOp oAdd (pOp oDiv (pVar 3) (pC (.int 2003))) (pC (.int 40692)))) (pOp oMul (pVar 1) (pC (.int 104729)))) (pNil))) (pC (.int 2147483399)))) (pNilS)))
theorem m__law_mixed (cal : Str → Option PFn) (met : Str → Str → Option PFn) : meanP d__law_mixed (gpOf T (pgOf T cal met)) = q__law_mixed (gpOf T (pgOf T cal met)) := by kernel_rfl
theorem r__law_mixed (k : Nat) (a0 a1 : Sl) : runP d__law_mixed (Gk k) [a0, a1] = outP [a0, a1] (q__law_mixed (Gk k) [some a0, some a1, none, none]) := by
  have e : meanP d__law_mixed (Gk k) = q__law_mixed (Gk k) := by cases k <;> exact m__law_mixed _ _
  show fnP 4 2 (meanP d__law_mixed (Gk k)) [a0, a1] = _
  rw [e]
  rfl
theorem c__law_mixed (k : Nat) : (Gk (k + 1)).Ψ.cal "_law_mixed" = some ⟨[true, true], runP d__law_mixed (Gk k)⟩ := by kernel_rfl
theorem k__law_mixed (k : Nat) (m : PAm) (pe : PEnv) : pCall (Gk (k + 1)).Ψ "_law_mixed" m pe = (m [true, true] pe).bind fun as pe => callP ⟨[true, true], runP d__law_mixed (Gk k)⟩ as pe := e_call (c__law_mixed k)
def q__law_draw (H : GP) : PSm := pSeq (pAsg (pOp oAdd (pOp oIx (pVar 0) (pC (.int 3))) (pC (.int 1))) (pSub (pVar 0) (pC (.int 3)))) (pSeq (pIf (pAndT (pTest (pOp (eqT H.Ψ) (pOp oIx (pVar 0) (pC (.int 2))) (pC (.int 0)))) (pTest (pOp oLt (pOp oIx (pVar 0) (pC (.int 1))) (pCall H.Ψ "len" (pCons (pOp oIx (pVar 0) (pC (.int 0))) (pNil)))))) (pSeq (pAsg (pOp oIx (pOp oIx (pVar 0) (pC (.int 0))) (pOp oIx (pVar 0) (pC (.int 1)))) (pNam 2)) (pSeq (pAsg (pOp oAdd (pOp oIx (pVar 0) (pC (.int 1))) (pC (.int 1))) (pSub (pVar 0) (pC (.int 1)))) (pSeq (pIf (pTest (pOp oLt (pVar 2) (pOp oPow (pC (.int 10)) (pC (.int 18))))) (pSeq (pRet (pOp oMod (pCall H.Ψ "int" (pCons (pOp oDiv (pCall H.Ψ "_law_mixed" (pCons (pOp oAdd (pVar 2) (pOp oIx (pVar 0) (pC (.int 4)))) (pCons (pOp oIx (pVar 0) (pC (.int 3))) (pNil)))) (pC (.int 16))) (pNil))) (pVar 1))) (pNilS)) (pNilS)) (pSeq (pAsg (pVar 2) (pSub (pVar 0) (pC (.int 2)))) (pNilS))))) (pNilS)) (pSeq (pIf (pTest (pOp oGt (pOp oIx (pVar 0) (pC (.int 2))) (pC (.int 0)))) (pSeq (pAsg (pOp oMod (pCall H.Ψ "int" (pCons (pOp oIx (pVar 0) (pC (.int 2))) (pNil))) (pVar 1)) (pNam 3)) (pSeq (pAsg (pOp oDiv (pOp oIx (pVar 0) (pC (.int 2))) (pVar 1)) (pSub (pVar 0) (pC (.int 2)))) (pSeq (pRet (pVar 3)) (pNilS)))) (pNilS)) (pSeq (pRet (pOp oMod (pCall H.Ψ "int" (pCons (pOp oDiv (pCall H.Ψ "_law_mixed" (pCons (pOp oIx (pVar 0) (pC (.int 4))) (pCons (pOp oIx (pVar 0) (pC (.int 3))) (pNil)))) (pC (.int 16))) (pNil))) (pVar 1))) (pNilS))))
theorem m__law_draw (cal : Str → Option PFn) (met : Str → Str → Option PFn) : meanP d__law_draw (gpOf T (pgOf T cal met)) = q__law_draw (gpOf T (pgOf T cal met)) := by kernel_rfl
theorem r__law_draw (k : Nat) (a0 a1 : Sl) : runP d__law_draw (Gk k) [a0, a1] = outP [a0, a1] (q__law_draw (Gk k) [some a0, some a1, none, none]) := by
  have e : meanP d__law_draw (Gk k) = q__law_draw (Gk k) := by cases k <;> exact m__law_draw _ _
  show fnP 4 2 (meanP d__law_draw (Gk k)) [a0, a1] = _
  rw [e]
  rfl
theorem c__law_draw (k : Nat) : (Gk (k + 1)).Ψ.cal "_law_draw" = some ⟨[true, true], runP d__law_draw (Gk k)⟩ := by kernel_rfl
theorem k__law_draw (k : Nat) (m : PAm) (pe : PEnv) : pCall (Gk (k + 1)).Ψ "_law_draw" m pe = (m [true, true] pe).bind fun as pe => callP ⟨[true, true], runP d__law_draw (Gk k)⟩ as pe := e_call (c__law_draw k)
def q__law_name (H : GP) : PSm := pSeq (pAsg (pC (.str "abcdefghijklmnopqrstuvwxyz")) (pNam 2)) (pSeq (pAsg (pOp oIx (pLst (pCons (pC (.int 1)) (pCons (pC (.int 2)) (pCons (pC (.int 3)) (pCons (pC (.int 8)) (pNil)))))) (pCall H.Ψ "_law_draw" (pCons (pVar 0) (pCons (pC (.int 4)) (pNil))))) (pNam 3)) (pSeq (pAsg (pMeth H.Ψ "join" (pC (.str "")) (pCons (pLc (pRange1 (pVar 3)) [7] (.one 7) pYes (pOp oIx (pVar 2) (pCall H.Ψ "_law_draw" (pCons (pVar 0) (pCons (pC (.int 26)) (pNil)))))) (pNil))) (pNam 4)) (pSeq (pAsg (pOp oAdd (pVar 1) (pLst (pCons (pC (.str "and")) (pCons (pC (.str "case")) (pCons (pC (.str "else")) (pCons (pC (.str "is")) (pCons (pC (.str "missing")) (pCons (pC (.str "must")) (pCons (pC (.str "not")) (pCons (pC (.str "or")) (pNil))))))))))) (pNam 5)) (pSeq (pIf (pTest (pOp (inT H.Ψ false) (pVar 4) (pVar 5))) (pSeq (pAsg (pLc (pIter (pLst (pCons (pC (.str "ka")) (pCons (pC (.str "kb")) (pCons (pC (.str "kc")) (pCons (pC (.str "kd")) (pCons (pC (.str "ke")) (pCons (pC (.str "kf")) (pNil))))))))) [8] (.one 8) (pTest (pOp (inT H.Ψ true) (pVar 8) (pVar 5))) (pVar 8)) (pNam 6)) (pSeq (pRet (pOp oIx (pVar 6) (pC (.int 0)))) (pNilS))) (pNilS)) (pSeq (pRet (pVar 4)) (pNilS))))))
theorem m__law_name (cal : Str → Option PFn) (met : Str → Str → Option PFn) : meanP d__law_name (gpOf T (pgOf T cal met)) = q__law_name (gpOf T (pgOf T cal met)) := by kernel_rfl
theorem r__law_name (k : Nat) (a0 a1 : Sl) : runP d__law_name (Gk k) [a0, a1] = outP [a0, a1] (q__law_name (Gk k) [some a0, some a1, none, none, none, none, none, none, none]) := by
  have e : meanP d__law_name (Gk k) = q__law_name (Gk k) := by cases k <;> exact m__law_name _ _
  show fnP 9 2 (meanP d__law_name (Gk k)) [a0, a1] = _
  rw [e]
  rfl
theorem c__law_name (k : Nat) : (Gk (k + 1)).Ψ.cal "_law_name" = some ⟨[true, true], runP d__law_name (Gk k)⟩ := by kernel_rfl
theorem k__law_name (k : Nat) (m : PAm) (pe : PEnv) : pCall (Gk (k + 1)).Ψ "_law_name" m pe = (m [true, true] pe).bind fun as pe => callP ⟨[true, true], runP d__law_name (Gk k)⟩ as pe := e_call (c__law_name k)
def q__law_names (H : GP) : PSm := pSeq (pAsg (pLst (pNil)) (pNam 2)) (pSeq (pFor (pRange1 (pVar 1)) (pNam 3) (pSeq (pExpr (pMeth H.Ψ "append" (pVar 2) (pCons (pCall H.Ψ "_law_name" (pCons (pVar 0) (pCons (pVar 2) (pNil)))) (pNil)))) (pNilS))) (pSeq (pRet (pVar 2)) (pNilS)))
theorem m__law_names (cal : Str → Option PFn) (met : Str → Str → Option PFn) : meanP d__law_names (gpOf T (pgOf T cal met)) = q__law_names (gpOf T (pgOf T cal met)) := by kernel_rfl
theorem r__law_names (k : Nat) (a0 a1 : Sl) : runP d__law_names (Gk k) [a0, a1] = outP [a0, a1] (q__law_names (Gk k) [some a0, some a1, none, none]) := by
  have e : meanP d__law_names (Gk k) = q__law_names (Gk k) := by cases k <;> exact m__law_names _ _
  show fnP 4 2 (meanP d__law_names (Gk k)) [a0, a1] = _
  rw [e]
  rfl
theorem c__law_names (k : Nat) : (Gk (k + 1)).Ψ.cal "_law_names" = some ⟨[true, true], runP d__law_names (Gk k)⟩ := by kernel_rfl
theorem k__law_names (k : Nat) (m : PAm) (pe : PEnv) : pCall (Gk (k + 1)).Ψ "_law_names" m pe = (m [true, true] pe).bind fun as pe => callP ⟨[true, true], runP d__law_names (Gk k)⟩ as pe := e_call (c__law_names k)
def q__law_unit (H : GP) : PSm := pSeq (pAsg (pCall H.Ψ "_law_draw" (pCons (pVar 0) (pCons (pC (.int 5)) (pNil)))) (pNam 1)) (pSeq (pIf (pTest (pOp (eqT H.Ψ) (pVar 1) (pC (.int 3)))) (pSeq (pRet (pOp oAdd (pOp oPow (pC (.int 10)) (pC (.int 12))) (pC (.int 39)))) (pNilS)) (pNilS)) (pSeq (pIf (pTest (pOp (eqT H.Ψ) (pVar 1) (pC (.int 4)))) (pSeq (pRet (pOp oAdd (pOp oPow (pC (.int 10)) (pC (.int 60))) (pCall H.Ψ "_law_draw" (pCons (pVar 0) (pCons (pOp oPow (pC (.int 10)) (pC (.int 6))) (pNil)))))) (pNilS)) (pNilS)) (pSeq (pRet (pC (.int 1))) (pNilS))))
theorem m__law_unit (cal : Str → Option PFn) (met : Str → Str → Option PFn) : meanP d__law_unit (gpOf T (pgOf T cal met)) = q__law_unit (gpOf T (pgOf T cal met)) := by kernel_rfl
theorem r__law_unit (k : Nat) (a0 : Sl) : runP d__law_unit (Gk k) [a0] = outP [a0] (q__law_unit (Gk k) [some a0, none]) := by
  have e : meanP d__law_unit (Gk k) = q__law_unit (Gk k) := by cases k <;> exact m__law_unit _ _
  show fnP 2 1 (meanP d__law_unit (Gk k)) [a0] = _
  rw [e]
  rfl
theorem c__law_unit (k : Nat) : (Gk (k + 1)).Ψ.cal "_law_unit" = some ⟨[true], runP d__law_unit (Gk k)⟩ := by kernel_rfl
theorem k__law_unit (k : Nat) (m : PAm) (pe : PEnv) : pCall (Gk (k + 1)).Ψ "_law_unit" m pe = (m [true] pe).bind fun as pe => callP ⟨[true], runP d__law_unit (Gk k)⟩ as pe := e_call (c__law_unit k)
def q__law_number (H : GP) : PSm := pSeq (pRet (pOp oSub (pOp oAdd (pOp oMul (pVar 1) (pOp oSub (pCall H.Ψ "_law_draw" (pCons (pVar 0) (pCons (pC (.int 7)) (pNil)))) (pC (.int 3)))) (pCall H.Ψ "_law_draw" (pCons (pVar 0) (pCons (pC (.int 3)) (pNil))))) (pC (.int 1)))) (pNilS)
theorem m__law_number (cal : Str → Option PFn) (met : Str → Str → Option PFn) : meanP d__law_number (gpOf T (pgOf T cal met)) = q__law_number (gpOf T (pgOf T cal met)) := by kernel_rfl
theorem r__law_number (k : Nat) (a0 a1 : Sl) : runP d__law_number (Gk k) [a0, a1] = outP [a0, a1] (q__law_number (Gk k) [some a0, some a1]) := by
  have e : meanP d__law_number (Gk k) = q__law_number (Gk k) := by cases k <;> exact m__law_number _ _
  show fnP 2 2 (meanP d__law_number (Gk k)) [a0, a1] = _
  rw [e]
  rfl
theorem c__law_number (k : Nat) : (Gk (k + 1)).Ψ.cal "_law_number" = some ⟨[true, true], runP d__law_number (Gk k)⟩ := by kernel_rfl
theorem k__law_number (k : Nat) (m : PAm) (pe : PEnv) : pCall (Gk (k + 1)).Ψ "_law_number" m pe = (m [true, true] pe).bind fun as pe => callP ⟨[true, true], runP d__law_number (Gk k)⟩ as pe := e_call (c__law_number k)
def q__law_literal (H : GP) : PSm := pSeq (pAsg (pOp oAdd (pLst (pCons (pC (.str "")) (pNil))) (pCall H.Ψ "list" (pCons (pVar 1) (pNil)))) (pNam 3)) (pSeq (pAsg (pCall H.Ψ "_law_draw" (pCons (pVar 0) (pCons (pCall H.Ψ "len" (pCons (pVar 3) (pNil))) (pNil)))) (pNam 4)) (pSeq (pAsg (pCall H.Ψ "_law_draw" (pCons (pVar 0) (pCons (pOp oSub (pCall H.Ψ "len" (pCons (pVar 3) (pNil))) (pC (.int 1))) (pNil)))) (pNam 5)) (pSeq (pIf (pTest (pOp oGe (pVar 5) (pVar 4))) (pSeq (pAsg (pOp oAdd (pVar 5) (pC (.int 1))) (pNam 5)) (pNilS)) (pNilS)) (pSeq (pRet (pTup (pCons (pOp oIx (pVar 3) (pVar 4)) (pCons (pOp oIx (pVar 3) (pVar 5)) (pCons (pCall H.Ψ "_law_number" (pCons (pVar 0) (pCons (pVar 2) (pNil)))) (pNil)))))) (pNilS)))))
theorem m__law_literal (cal : Str → Option PFn) (met : Str → Str → Option PFn) : meanP d__law_literal (gpOf T (pgOf T cal met)) = q__law_literal (gpOf T (pgOf T cal met)) := by kernel_rfl
theorem r__law_literal (k : Nat) (a0 a1 a2 : Sl) : runP d__law_literal (Gk k) [a0, a1, a2] = outP [a0, a1, a2] (q__law_literal (Gk k) [some a0, some a1, some a2, none, none, none]) := by
  have e : meanP d__law_literal (Gk k) = q__law_literal (Gk k) := by cases k <;> exact m__law_literal _ _
  show fnP 6 3 (meanP d__law_literal (Gk k)) [a0, a1, a2] = _
  rw [e]
  rfl
theorem c__law_literal (k : Nat) : (Gk (k + 1)).Ψ.cal "_law_literal" = some ⟨[true, true, true], runP d__law_literal (Gk k)⟩ := by kernel_rfl
theorem k__law_literal (k : Nat) (m : PAm) (pe : PEnv) : pCall (Gk (k + 1)).Ψ "_law_literal" m pe = (m [true, true, true] pe).bind fun as pe => callP ⟨[true, true, true], runP d__law_literal (Gk k)⟩ as pe := e_call (c__law_literal k)
def q__law_pool (H : GP) : PSm := pSeq (pAsg (pLst (pNil)) (pNam 4)) (pSeq (pFor (pRange1 (pVar 2)) (pNam 5) (pSeq (pAsg (pCall H.Ψ "_law_literal" (pCons (pVar 0) (pCons (pVar 1) (pCons (pVar 3) (pNil))))) (pNam 6)) (pSeq (pIf (pTest (pOp (inT H.Ψ true) (pVar 6) (pVar 4))) (pSeq (pExpr (pMeth H.Ψ "append" (pVar 4) (pCons (pVar 6) (pNil)))) (pNilS)) (pNilS)) (pNilS)))) (pSeq (pRet (pVar 4)) (pNilS)))
theorem m__law_pool (cal : Str → Option PFn) (met : Str → Str → Option PFn) : meanP d__law_pool (gpOf T (pgOf T cal met)) = q__law_pool (gpOf T (pgOf T cal met)) := by kernel_rfl
theorem r__law_pool (k : Nat) (a0 a1 a2 a3 : Sl) : runP d__law_pool (Gk k) [a0, a1, a2, a3] = outP [a0, a1, a2, a3] (q__law_pool (Gk k) [some a0, some a1, some a2, some a3, none, none, none]) := by
  have e : meanP d__law_pool (Gk k) = q__law_pool (Gk k) := by cases k <;> exact m__law_pool _ _
  show fnP 7 4 (meanP d__law_pool (Gk k)) [a0, a1, a2, a3] = _
  rw [e]
  rfl
theorem c__law_pool (k : Nat) : (Gk (k + 1)).Ψ.cal "_law_pool" = some ⟨[true, true, true, true], runP d__law_pool (Gk k)⟩ := by kernel_rfl
theorem k__law_pool (k : Nat) (m : PAm) (pe : PEnv) : pCall (Gk (k + 1)).Ψ "_law_pool" m pe = (m [true, true, true, true] pe).bind fun as pe => callP ⟨[true, true, true, true], runP d__law_pool (Gk k)⟩ as pe := e_call (c__law_pool k)
def q__law_world (H : GP) : PSm := pSeq (pAsg (pCall H.Ψ "_law_names" (pCons (pVar 0) (pCons (pOp oAdd (pC (.int 1)) (pCall H.Ψ "_law_draw" (pCons (pVar 0) (pCons (pVar 1) (pNil))))) (pNil)))) (pNam 5)) (pSeq (pAsg (pCall H.Ψ "_law_pool" (pCons (pVar 0) (pCons (pVar 5) (pCons (pOp oAdd (pC (.int 1)) (pCall H.Ψ "_law_draw" (pCons (pVar 0) (pCons (pVar 2) (pNil))))) (pCons (pVar 3) (pNil)))))) (pNam 6)) (pSeq (pAsg (pCall H.Ψ "_law_names" (pCons (pVar 0) (pCons (pOp oAdd (pC (.int 1)) (pCall H.Ψ "_law_draw" (pCons (pVar 0) (pCons (pC (.int 3)) (pNil))))) (pNil)))) (pNam 7)) (pSeq (pRet (pLst (pCons (pVar 5) (pCons (pVar 6) (pCons (pVar 7) (pCons (pCall H.Ψ "list" (pCons (pVar 4) (pNil))) (pNil))))))) (pNilS))))
theorem m__law_world (cal : Str → Option PFn) (met : Str → Str → Option PFn) : meanP d__law_world (gpOf T (pgOf T cal met)) = q__law_world (gpOf T (pgOf T cal met)) := by kernel_rfl
theorem r__law_world (k : Nat) (a0 a1 a2 a3 a4 : Sl) : runP d__law_world (Gk k) [a0, a1, a2, a3, a4] = outP [a0, a1, a2, a3, a4] (q__law_world (Gk k) [some a0, some a1, some a2, some a3, some a4, none, none, none]) := by
  have e : meanP d__law_world (Gk k) = q__law_world (Gk k) := by cases k <;> exact m__law_world _ _
  show fnP 8 5 (meanP d__law_world (Gk k)) [a0, a1, a2, a3, a4] = _
  rw [e]
  rfl
theorem c__law_world (k : Nat) : (Gk (k + 1)).Ψ.cal "_law_world" = some ⟨[true, true, true, true, true], runP d__law_world (Gk k)⟩ := by kernel_rfl
theorem k__law_world (k : Nat) (m : PAm) (pe : PEnv) : pCall (Gk (k + 1)).Ψ "_law_world" m pe = (m [true, true, true, true, true] pe).bind fun as pe => callP ⟨[true, true, true, true, true], runP d__law_world (Gk k)⟩ as pe := e_call (c__law_world k)
def q__law_same (H : GP) : PSm := pSeq (pIf (pTest (pOp oIs (pVar 1) (pC .non))) (pSeq (pRet (pOp oIs (pVar 0) (pC .non))) (pNilS)) (pNilS)) (pSeq (pIf (pTru (pCall H.Ψ "isinstance" (pCons (pVar 1) (pCons (pGlob H.Ψ "bool") (pNil))))) (pSeq (pRet (pAndV (pCall H.Ψ "isinstance" (pCons (pVar 0) (pCons (pGlob H.Ψ "bool") (pNil)))) (pOp (eqT H.Ψ) (pVar 0) (pVar 1)))) (pNilS)) (pNilS)) (pSeq (pIf (pTru (pCall H.Ψ "isinstance" (pCons (pVar 1) (pCons (pGlob H.Ψ "int") (pNil))))) (pSeq (pRet (pAndV (pCall H.Ψ "isinstance" (pCons (pVar 0) (pCons (pGlob H.Ψ "int") (pNil)))) (pAndV (pNotV (pCall H.Ψ "isinstance" (pCons (pVar 0) (pCons (pGlob H.Ψ "bool") (pNil))))) (pOp (eqT H.Ψ) (pVar 0) (pVar 1))))) (pNilS)) (pNilS)) (pSeq (pIf (pTru (pCall H.Ψ "isinstance" (pCons (pVar 1) (pCons (pGlob H.Ψ "str") (pNil))))) (pSeq (pRet (pAndV (pCall H.Ψ "isinstance" (pCons (pVar 0) (pCons (pGlob H.Ψ "str") (pNil)))) (pOp (eqT H.Ψ) (pVar 0) (pVar 1)))) (pNilS)) (pNilS)) (pSeq (pIf (pTru (pCall H.Ψ "isinstance" (pCons (pVar 1) (pCons (pGlob H.Ψ "dict") (pNil))))) (pSeq (pIf (pOrT (pNotT (pTru (pCall H.Ψ "isinstance" (pCons (pVar 0) (pCons (pGlob H.Ψ "dict") (pNil)))))) (pTest (pOp neT (pCall H.Ψ "len" (pCons (pVar 0) (pNil))) (pCall H.Ψ "len" (pCons (pVar 1) (pNil)))))) (pSeq (pRet (pC (.bl false))) (pNilS)) (pNilS)) (pSeq (pRet (pOp (eqT H.Ψ) (pCall H.Ψ "len" (pCons (pLc (pIter (pVar 1)) [2] (.one 2) (pOrT (pTest (pOp (inT H.Ψ true) (pVar 2) (pVar 0))) (pNotT (pTru (pCall H.Ψ "_law_same" (pCons (pOp oIx (pVar 0) (pVar 2)) (pCons (pOp oIx (pVar 1) (pVar 2)) (pNil))))))) (pVar 2)) (pNil))) (pC (.int 0)))) (pNilS))) (pNilS)) (pSeq (pIf (pOrT (pTest (pOp neT (pCall H.Ψ "isinstance" (pCons (pVar 1) (pCons (pGlob H.Ψ "tuple") (pNil)))) (pCall H.Ψ "isinstance" (pCons (pVar 0) (pCons (pGlob H.Ψ "tuple") (pNil)))))) (pNotT (pTru (pCall H.Ψ "isinstance" (pCons (pVar 0) (pCons (pTup (pCons (pGlob H.Ψ "tuple") (pCons (pGlob H.Ψ "list") (pNil)))) (pNil))))))) (pSeq (pRet (pC (.bl false))) (pNilS)) (pNilS)) (pSeq (pIf (pTest (pOp neT (pCall H.Ψ "len" (pCons (pVar 0) (pNil))) (pCall H.Ψ "len" (pCons (pVar 1) (pNil))))) (pSeq (pRet (pC (.bl false))) (pNilS)) (pNilS)) (pSeq (pRet (pOp (eqT H.Ψ) (pCall H.Ψ "len" (pCons (pLc (pRange1 (pCall H.Ψ "len" (pCons (pVar 1) (pNil)))) [3] (.one 3) (pNotT (pTru (pCall H.Ψ "_law_same" (pCons (pOp oIx (pVar 0) (pVar 3)) (pCons (pOp oIx (pVar 1) (pVar 3)) (pNil)))))) (pVar 3)) (pNil))) (pC (.int 0)))) (pNilS))))))))
theorem m__law_same (cal : Str → Option PFn) (met : Str → Str → Option PFn) : meanP d__law_same (gpOf T (pgOf T cal met)) = q__law_same (gpOf T (pgOf T cal met)) := by kernel_rfl
theorem r__law_same (k : Nat) (a0 a1 : Sl) : runP d__law_same (Gk k) [a0, a1] = outP [a0, a1] (q__law_same (Gk k) [some a0, some a1, none, none]) := by
  have e : meanP d__law_same (Gk k) = q__law_same (Gk k) := by cases k <;> exact m__law_same _ _
  show fnP 4 2 (meanP d__law_same (Gk k)) [a0, a1] = _
  rw [e]
  rfl
theorem c__law_same (k : Nat) : (Gk (k + 1)).Ψ.cal "_law_same" = some ⟨[false, false], runP d__law_same (Gk k)⟩ := by kernel_rfl
theorem k__law_same (k : Nat) (m : PAm) (pe : PEnv) : pCall (Gk (k + 1)).Ψ "_law_same" m pe = (m [false, false] pe).bind fun as pe => callP ⟨[false, false], runP d__law_same (Gk k)⟩ as pe := e_call (c__law_same k)
def q__law_columns (H : GP) : PSm := pSeq (pIf (pTest (pOp (eqT H.Ψ) (pCall H.Ψ "len" (pCons (pVar 0) (pNil))) (pC (.int 1)))) (pSeq (pRet (pCall H.Ψ "Columns" (pCons (pOp oIx (pVar 0) (pC (.int 0))) (pNil)))) (pNilS)) (pNilS)) (pSeq (pIf (pTest (pOp (eqT H.Ψ) (pCall H.Ψ "len" (pCons (pVar 0) (pNil))) (pC (.int 2)))) (pSeq (pRet (pCall H.Ψ "Columns" (pCons (pOp oIx (pVar 0) (pC (.int 0))) (pCons (pOp oIx (pVar 0) (pC (.int 1))) (pNil))))) (pNilS)) (pNilS)) (pSeq (pIf (pTest (pOp (eqT H.Ψ) (pCall H.Ψ "len" (pCons (pVar 0) (pNil))) (pC (.int 3)))) (pSeq (pRet (pCall H.Ψ "Columns" (pCons (pOp oIx (pVar 0) (pC (.int 0))) (pCons (pOp oIx (pVar 0) (pC (.int 1))) (pCons (pOp oIx (pVar 0) (pC (.int 2))) (pNil)))))) (pNilS)) (pNilS)) (pSeq (pRet (pCall H.Ψ "Columns" (pCons (pOp oIx (pVar 0) (pC (.int 0))) (pCons (pOp oIx (pVar 0) (pC (.int 1))) (pCons (pOp oIx (pVar 0) (pC (.int 2))) (pCons (pOp oIx (pVar 0) (pC (.int 3))) (pNil))))))) (pNilS))))
theorem m__law_columns (cal : Str → Option PFn) (met : Str → Str → Option PFn) : meanP d__law_columns (gpOf T (pgOf T cal met)) = q__law_columns (gpOf T (pgOf T cal met)) := by kernel_rfl
theorem r__law_columns (k : Nat) (a0 : Sl) : runP d__law_columns (Gk k) [a0] = outP [a0] (q__law_columns (Gk k) [some a0]) := by
  have e : meanP d__law_columns (Gk k) = q__law_columns (Gk k) := by cases k <;> exact m__law_columns _ _
  show fnP 1 1 (meanP d__law_columns (Gk k)) [a0] = _
  rw [e]
  rfl
theorem c__law_columns (k : Nat) : (Gk (k + 1)).Ψ.cal "_law_columns" = some ⟨[true], runP d__law_columns (Gk k)⟩ := by kernel_rfl
theorem k__law_columns (k : Nat) (m : PAm) (pe : PEnv) : pCall (Gk (k + 1)).Ψ "_law_columns" m pe = (m [true] pe).bind fun as pe => callP ⟨[true], runP d__law_columns (Gk k)⟩ as pe := e_call (c__law_columns k)
def q__law_case (H : GP) : PSm := pSeq (pAsg (pLc (pIter (pVar 1)) [7] (.one 7) (pTest (pOp (eqT H.Ψ) (pCall H.Ψ "_law_draw" (pCons (pVar 0) (pCons (pC (.int 3)) (pNil)))) (pC (.int 0)))) (pVar 7)) (pNam 3)) (pSeq (pIf (pTest (pOp (eqT H.Ψ) (pCall H.Ψ "_law_draw" (pCons (pVar 0) (pCons (pC (.int 2)) (pNil)))) (pC (.int 0)))) (pSeq (pExpr (pMeth H.Ψ "reverse" (pVar 3) (pNil))) (pNilS)) (pNilS)) (pSeq (pAsg (pLst (pNil)) (pNam 4)) (pSeq (pFor (pRange1 (pCall H.Ψ "_law_draw" (pCons (pVar 0) (pCons (pC (.int 4)) (pNil))))) (pNam 5) (pSeq (pAsg (pOp oIx (pVar 2) (pCall H.Ψ "_law_draw" (pCons (pVar 0) (pCons (pCall H.Ψ "len" (pCons (pVar 2) (pNil))) (pNil))))) (pNam 6)) (pSeq (pIf (pAndT (pTest (pOp (inT H.Ψ true) (pOp oIx (pVar 6) (pC (.int 0))) (pVar 3))) (pTest (pOp (inT H.Ψ true) (pOp oIx (pVar 6) (pC (.int 1))) (pVar 3)))) (pSeq (pExpr (pMeth H.Ψ "append" (pVar 4) (pCons (pVar 6) (pNil)))) (pNilS)) (pNilS)) (pNilS)))) (pSeq (pRet (pTup (pCons (pCall H.Ψ "tuple" (pCons (pVar 3) (pNil))) (pCons (pCall H.Ψ "tuple" (pCons (pVar 4) (pNil))) (pNil))))) (pNilS)))))
theorem m__law_case (cal : Str → Option PFn) (met : Str → Str → Option PFn) : meanP d__law_case (gpOf T (pgOf T cal met)) = q__law_case (gpOf T (pgOf T cal met)) := by kernel_rfl
theorem r__law_case (k : Nat) (a0 a1 a2 : Sl) : runP d__law_case (Gk k) [a0, a1, a2] = outP [a0, a1, a2] (q__law_case (Gk k) [some a0, some a1, some a2, none, none, none, none, none]) := by
  have e : meanP d__law_case (Gk k) = q__law_case (Gk k) := by cases k <;> exact m__law_case _ _
  show fnP 8 3 (meanP d__law_case (Gk k)) [a0, a1, a2] = _
  rw [e]
  rfl
theorem c__law_case (k : Nat) : (Gk (k + 1)).Ψ.cal "_law_case" = some ⟨[true, true, true], runP d__law_case (Gk k)⟩ := by kernel_rfl
theorem k__law_case (k : Nat) (m : PAm) (pe : PEnv) : pCall (Gk (k + 1)).Ψ "_law_case" m pe = (m [true, true, true] pe).bind fun as pe => callP ⟨[true, true, true], runP d__law_case (Gk k)⟩ as pe := e_call (c__law_case k)
def q__law_cases (H : GP) : PSm := pSeq (pRet (pCall H.Ψ "tuple" (pCons (pLc (pRange1 (pCall H.Ψ "_law_draw" (pCons (pVar 0) (pCons (pOp oAdd (pVar 3) (pC (.int 1))) (pNil))))) [4] (.one 4) pYes (pCall H.Ψ "_law_case" (pCons (pVar 0) (pCons (pVar 1) (pCons (pVar 2) (pNil)))))) (pNil)))) (pNilS)
theorem m__law_cases (cal : Str → Option PFn) (met : Str → Str → Option PFn) : meanP d__law_cases (gpOf T (pgOf T cal met)) = q__law_cases (gpOf T (pgOf T cal met)) := by kernel_rfl
theorem r__law_cases (k : Nat) (a0 a1 a2 a3 : Sl) : runP d__law_cases (Gk k) [a0, a1, a2, a3] = outP [a0, a1, a2, a3] (q__law_cases (Gk k) [some a0, some a1, some a2, some a3, none]) := by
  have e : meanP d__law_cases (Gk k) = q__law_cases (Gk k) := by cases k <;> exact m__law_cases _ _
  show fnP 5 4 (meanP d__law_cases (Gk k)) [a0, a1, a2, a3] = _
  rw [e]
  rfl
theorem c__law_cases (k : Nat) : (Gk (k + 1)).Ψ.cal "_law_cases" = some ⟨[true, true, true, true], runP d__law_cases (Gk k)⟩ := by kernel_rfl
theorem k__law_cases (k : Nat) (m : PAm) (pe : PEnv) : pCall (Gk (k + 1)).Ψ "_law_cases" m pe = (m [true, true, true, true] pe).bind fun as pe => callP ⟨[true, true, true, true], runP d__law_cases (Gk k)⟩ as pe := e_call (c__law_cases k)
def q__law_spoiled_case (H : GP) : PSm := pSeq (pAsg (pOp oIx (pVar 1) (pCall H.Ψ "_law_draw" (pCons (pVar 0) (pCons (pCall H.Ψ "len" (pCons (pVar 1) (pNil))) (pNil))))) (pNam 4)) (pSeq (pAsg (pCall H.Ψ "_law_draw" (pCons (pVar 0) (pCons (pC (.int 12)) (pNil)))) (pNam 5)) (pSeq (pAsg (pVar 2) (pTupG [6, 7])) (pSeq (pAsg (pLst (pCons (pC .non) (pCons (pTup (pCons (pVar 6) (pNil))) (pCons (pTup (pCons (pVar 6) (pCons (pVar 7) (pCons (pTup (pNil)) (pNil))))) (pCons (pTup (pCons (pCall H.Ψ "list" (pCons (pVar 6) (pNil))) (pCons (pVar 7) (pNil)))) (pCons (pTup (pCons (pVar 6) (pCons (pCall H.Ψ "list" (pCons (pVar 7) (pNil))) (pNil)))) (pCons (pC (.int 7)) (pNil)))))))) (pNam 8)) (pSeq (pAsg (pOp oAdd (pVar 8) (pLst (pCons (pTup (pCons (pOp oAdd (pVar 6) (pTup (pCons (pVar 3) (pNil)))) (pCons (pVar 7) (pNil)))) (pCons (pTup (pCons (pTup (pCons (pVar 4) (pCons (pVar 4) (pNil)))) (pCons (pTup (pNil)) (pNil)))) (pCons (pTup (pCons (pVar 6) (pCons (pOp oAdd (pVar 7) (pTup (pCons (pTup (pCons (pVar 4) (pCons (pVar 4) (pCons (pC (.int 0)) (pNil))))) (pNil)))) (pNil)))) (pNil)))))) (pNam 8)) (pSeq (pAsg (pOp oAdd (pVar 8) (pLst (pCons (pTup (pCons (pTup (pCons (pVar 4) (pNil))) (pCons (pTup (pCons (pTup (pCons (pVar 4) (pCons (pC (.str "")) (pCons (pC (.int 0)) (pNil))))) (pNil))) (pNil)))) (pCons (pTup (pCons (pVar 6) (pCons (pOp oAdd (pVar 7) (pTup (pCons (pTup (pCons (pC (.str "")) (pCons (pVar 4) (pCons (pC (.bl true)) (pNil))))) (pNil)))) (pNil)))) (pCons (pTup (pCons (pVar 6) (pCons (pOp oAdd (pVar 7) (pTup (pCons (pTup (pCons (pVar 4) (pCons (pC (.str "")) (pNil)))) (pNil)))) (pNil)))) (pNil)))))) (pNam 8)) (pSeq (pRet (pOp oIx (pVar 8) (pVar 5))) (pNilS)))))))
theorem m__law_spoiled_case (cal : Str → Option PFn) (met : Str → Str → Option PFn) : meanP d__law_spoiled_case (gpOf T (pgOf T cal met)) = q__law_spoiled_case (gpOf T (pgOf T cal met)) := by kernel_rfl
theorem r__law_spoiled_case (k : Nat) (a0 a1 a2 a3 : Sl) : runP d__law_spoiled_case (Gk k) [a0, a1, a2, a3] = outP [a0, a1, a2, a3] (q__law_spoiled_case (Gk k) [some a0, some a1, some a2, some a3, none, none, none, none, none]) := by
  have e : meanP d__law_spoiled_case (Gk k) = q__law_spoiled_case (Gk k) := by cases k <;> exact m__law_spoiled_case _ _
  show fnP 9 4 (meanP d__law_spoiled_case (Gk k)) [a0, a1, a2, a3] = _
  rw [e]
  rfl
theorem c__law_spoiled_case (k : Nat) : (Gk (k + 1)).Ψ.cal "_law_spoiled_case" = some ⟨[true, true, false, false], runP d__law_spoiled_case (Gk k)⟩ := by kernel_rfl
theorem k__law_spoiled_case (k : Nat) (m : PAm) (pe : PEnv) : pCall (Gk (k + 1)).Ψ "_law_spoiled_case" m pe = (m [true, true, false, false] pe).bind fun as pe => callP ⟨[true, true, false, false], runP d__law_spoiled_case (Gk k)⟩ as pe := e_call (c__law_spoiled_case k)
def q__law_asked (H : GP) : PSm := pSeq (pTryAs (H.mt "BadCases") 2 (pSeq (pExpr (pCall H.Ψ "RowSet" (pCons (pVar 0) (pCons (pVar 1) (pNil))))) (pNilS)) (fun ex => pSeq (pRet (pTup (pCons (pC (.str "wrong")) (pCons (pErrF H.xf 2 ex "index") (pNil))))) (pNilS))) (pSeq (pRet (pTup (pCons (pC (.str "made")) (pCons (pC .non) (pNil))))) (pNilS))
theorem m__law_asked (cal : Str → Option PFn) (met : Str → Str → Option PFn) : meanP d__law_asked (gpOf T (pgOf T cal met)) = q__law_asked (gpOf T (pgOf T cal met)) := by kernel_rfl
theorem r__law_asked (k : Nat) (a0 a1 : Sl) : runP d__law_asked (Gk k) [a0, a1] = outP [a0, a1] (q__law_asked (Gk k) [some a0, some a1, none]) := by
  have e : meanP d__law_asked (Gk k) = q__law_asked (Gk k) := by cases k <;> exact m__law_asked _ _
  show fnP 3 2 (meanP d__law_asked (Gk k)) [a0, a1] = _
  rw [e]
  rfl
theorem c__law_asked (k : Nat) : (Gk (k + 1)).Ψ.cal "_law_asked" = some ⟨[false, false], runP d__law_asked (Gk k)⟩ := by kernel_rfl
theorem k__law_asked (k : Nat) (m : PAm) (pe : PEnv) : pCall (Gk (k + 1)).Ψ "_law_asked" m pe = (m [false, false] pe).bind fun as pe => callP ⟨[false, false], runP d__law_asked (Gk k)⟩ as pe := e_call (c__law_asked k)
def q_law (H : GP) : PSm := pSeq (pAsg (pCall H.Ψ "_law_hand" (pCons (pVar 0) (pNil))) (pNam 1)) (pSeq (pAsg (pCall H.Ψ "_law_unit" (pCons (pVar 1) (pNil))) (pNam 2)) (pSeq (pAsg (pCall H.Ψ "_law_world" (pCons (pVar 1) (pCons (pC (.int 3)) (pCons (pC (.int 4)) (pCons (pVar 2) (pCons (pLst (pCons (pC (.int 0)) (pCons (pC (.int 0)) (pCons (pC (.int 0)) (pNil))))) (pNil))))))) (pNam 3)) (pSeq (pAsg (pOp oIx (pVar 3) (pC (.int 0))) (pNam 4)) (pSeq (pAsg (pCall H.Ψ "_law_columns" (pCons (pVar 4) (pNil))) (pNam 5)) (pSeq (pAsg (pCall H.Ψ "list" (pCons (pCall H.Ψ "_law_cases" (pCons (pVar 1) (pCons (pVar 4) (pCons (pOp oIx (pVar 3) (pC (.int 1))) (pCons (pC (.int 5)) (pNil)))))) (pNil))) (pNam 6)) (pSeq (pAsg (pCall H.Ψ "_law_name" (pCons (pVar 1) (pCons (pCall H.Ψ "list" (pCons (pVar 4) (pNil))) (pNil)))) (pNam 7)) (pSeq (pIf (pTest (pOp (eqT H.Ψ) (pCall H.Ψ "_law_draw" (pCons (pVar 1) (pCons (pC (.int 8)) (pNil)))) (pC (.int 1)))) (pSeq (pAsg (pOp oIx (pLst (pCons (pC .non) (pCons (pC (.int 5)) (pCons (pCall H.Ψ "list" (pCons (pVar 6) (pNil))) (pCons (pC (.str "")) (pCons (pDic0) (pNil))))))) (pCall H.Ψ "_law_draw" (pCons (pVar 1) (pCons (pC (.int 5)) (pNil))))) (pNam 8)) (pSeq (pRet (pCall H.Ψ "_law_same" (pCons (pCall H.Ψ "_law_asked" (pCons (pVar 5) (pCons (pVar 8) (pNil)))) (pCons (pTup (pCons (pC (.str "wrong")) (pCons (pUn oNeg (pC (.int 1))) (pNil)))) (pNil))))) (pNilS))) (pNilS)) (pSeq (pAsg (pTup (pCons (pC (.str "made")) (pCons (pC .non) (pNil)))) (pNam 9)) (pSeq (pFor (pRange1 (pCall H.Ψ "_law_draw" (pCons (pVar 1) (pCons (pC (.int 3)) (pNil))))) (pNam 10) (pSeq (pIf (pTest (pOp oGt (pCall H.Ψ "len" (pCons (pVar 6) (pNil))) (pC (.int 0)))) (pSeq (pAsg (pCall H.Ψ "_law_draw" (pCons (pVar 1) (pCons (pCall H.Ψ "len" (pCons (pVar 6) (pNil))) (pNil)))) (pNam 11)) (pSeq (pIf (pOrT (pTest (pOp oIs (pOp oIx (pVar 9) (pC (.int 1))) (pC .non))) (pTest (pOp neT (pVar 11) (pOp oIx (pVar 9) (pC (.int 1)))))) (pSeq (pIf (pAndT (pTru (pCall H.Ψ "isinstance" (pCons (pOp oIx (pVar 6) (pVar 11)) (pCons (pGlob H.Ψ "tuple") (pNil))))) (pAndT (pTest (pOp (eqT H.Ψ) (pCall H.Ψ "len" (pCons (pOp oIx (pVar 6) (pVar 11)) (pNil))) (pC (.int 2)))) (pTest (pOp (eqT H.Ψ) (pVar 10) (pC (.int 0)))))) (pSeq (pAsg (pCall H.Ψ "_law_spoiled_case" (pCons (pVar 1) (pCons (pVar 4) (pCons (pOp oIx (pVar 6) (pVar 11)) (pCons (pVar 7) (pNil)))))) (pSub (pVar 6) (pVar 11))) (pSeq (pAsg (pTup (pCons (pC (.str "wrong")) (pCons (pVar 11) (pNil)))) (pNam 9)) (pNilS))) (pSeq (pIf (pTest (pOp (eqT H.Ψ) (pVar 10) (pC (.int 1)))) (pSeq (pAsg (pCall H.Ψ "_law_spoiled_case" (pCons (pVar 1) (pCons (pVar 4) (pCons (pOp oIx (pVar 6) (pVar 11)) (pCons (pVar 7) (pNil)))))) (pSub (pVar 6) (pVar 11))) (pSeq (pIf (pOrT (pTest (pOp oIs (pOp oIx (pVar 9) (pC (.int 1))) (pC .non))) (pTest (pOp oLt (pVar 11) (pOp oIx (pVar 9) (pC (.int 1)))))) (pSeq (pAsg (pTup (pCons (pC (.str "wrong")) (pCons (pVar 11) (pNil)))) (pNam 9)) (pNilS)) (pNilS)) (pNilS))) (pNilS)) (pNilS))) (pNilS)) (pNilS)) (pNilS))) (pNilS)) (pNilS))) (pSeq (pRet (pCall H.Ψ "_law_same" (pCons (pCall H.Ψ "_law_asked" (pCons (pVar 5) (pCons (pCall H.Ψ "tuple" (pCons (pVar 6) (pNil))) (pNil)))) (pCons (pVar 9) (pNil))))) (pNilS)))))))))))
theorem m_law (cal : Str → Option PFn) (met : Str → Str → Option PFn) : meanP d_law (gpOf T (pgOf T cal met)) = q_law (gpOf T (pgOf T cal met)) := by kernel_rfl
theorem r_law (k : Nat) (a0 : Sl) : runP d_law (Gk k) [a0] = outP [a0] (q_law (Gk k) [some a0, none, none, none, none, none, none, none, none, none, none, none]) := by
  have e : meanP d_law (Gk k) = q_law (Gk k) := by cases k <;> exact m_law _ _
  show fnP 12 1 (meanP d_law (Gk k)) [a0] = _
  rw [e]
  rfl
theorem k_len (k : Nat) (m : PAm) (pe : PEnv) : pCall (Gk k).Ψ "len" m pe = (m bm pe).bind fun as pe => lenT (Gk k).Ψ as pe := e_callB (by cases k <;> kernel_rfl) (by cases k <;> kernel_rfl) (by cases k <;> kernel_rfl)
theorem k_isinstance (k : Nat) (m : PAm) (pe : PEnv) : pCall (Gk k).Ψ "isinstance" m pe = (m bm pe).bind fun as pe => isiT (Gk k).Ψ as pe := e_callB (by cases k <;> kernel_rfl) (by cases k <;> kernel_rfl) (by cases k <;> kernel_rfl)
theorem k_int (k : Nat) (m : PAm) (pe : PEnv) : pCall (Gk k).Ψ "int" m pe = (m bm pe).bind fun as pe => blt1 intV as pe := e_callB (by cases k <;> kernel_rfl) (by cases k <;> kernel_rfl) (by cases k <;> kernel_rfl)
theorem k_list (k : Nat) (m : PAm) (pe : PEnv) : pCall (Gk k).Ψ "list" m pe = (m bm pe).bind fun as pe => blt1 listV as pe := e_callB (by cases k <;> kernel_rfl) (by cases k <;> kernel_rfl) (by cases k <;> kernel_rfl)
theorem k_tuple (k : Nat) (m : PAm) (pe : PEnv) : pCall (Gk k).Ψ "tuple" m pe = (m bm pe).bind fun as pe => blt1 tupV as pe := e_callB (by cases k <;> kernel_rfl) (by cases k <;> kernel_rfl) (by cases k <;> kernel_rfl)
theorem g_int (k : Nat) (pe : PEnv) : pGlob (Gk k).Ψ "int" pe = .ok (.v (.ty "int")) pe := by cases k <;> kernel_rfl
theorem g_str (k : Nat) (pe : PEnv) : pGlob (Gk k).Ψ "str" pe = .ok (.v (.ty "str")) pe := by cases k <;> kernel_rfl
theorem g_bool (k : Nat) (pe : PEnv) : pGlob (Gk k).Ψ "bool" pe = .ok (.v (.ty "bool")) pe := by cases k <;> kernel_rfl
theorem g_tuple (k : Nat) (pe : PEnv) : pGlob (Gk k).Ψ "tuple" pe = .ok (.v (.ty "tuple")) pe := by cases k <;> kernel_rfl
theorem g_list (k : Nat) (pe : PEnv) : pGlob (Gk k).Ψ "list" pe = .ok (.v (.ty "list")) pe := by cases k <;> kernel_rfl
theorem g_dict (k : Nat) (pe : PEnv) : pGlob (Gk k).Ψ "dict" pe = .ok (.v (.ty "dict")) pe := by cases k <;> kernel_rfl
theorem g_LETTERS (k : Nat) (pe : PEnv) : pGlob (Gk k).Ψ "LETTERS" pe = .ok (.v (.str "abcdefghijklmnopqrstuvwxyz")) pe := by cases k <;> kernel_rfl
theorem g_RESERVED (k : Nat) (pe : PEnv) : pGlob (Gk k).Ψ "RESERVED" pe = .ok (.v (.tup [.str "and", .str "case", .str "else", .str "is", .str "missing", .str "must", .str "not", .str "or"])) pe := by cases k <;> kernel_rfl
theorem g_MOST_COLUMNS (k : Nat) (pe : PEnv) : pGlob (Gk k).Ψ "MOST_COLUMNS" pe = .ok (.v (.int 4)) pe := by cases k <;> kernel_rfl
theorem g_LONGEST_NAME (k : Nat) (pe : PEnv) : pGlob (Gk k).Ψ "LONGEST_NAME" pe = .ok (.v (.int 8)) pe := by cases k <;> kernel_rfl
theorem g_Columns (k : Nat) (pe : PEnv) : pGlob (Gk k).Ψ "Columns" pe = .ok (.v (.glo "Columns")) pe := by cases k <;> kernel_rfl
theorem g_RowSet (k : Nat) (pe : PEnv) : pGlob (Gk k).Ψ "RowSet" pe = .ok (.v (.glo "RowSet")) pe := by cases k <;> kernel_rfl
theorem g_BadColumns (k : Nat) (pe : PEnv) : pGlob (Gk k).Ψ "BadColumns" pe = .ok (.v (.glo "BadColumns")) pe := by cases k <;> kernel_rfl
theorem g_BadCases (k : Nat) (pe : PEnv) : pGlob (Gk k).Ψ "BadCases" pe = .ok (.v (.glo "BadCases")) pe := by cases k <;> kernel_rfl
@[simp] theorem i_NoneType_tuple_list (k : Nat)  : isiP (Gk k).Ψ (.non) (.tup [.ty "tuple", .ty "list"]) = some false := by cases k <;> kernel_rfl
@[simp] theorem i_bool_tuple_list (k : Nat) (b : Bool) : isiP (Gk k).Ψ (.bl b) (.tup [.ty "tuple", .ty "list"]) = some false := by cases k <;> kernel_rfl
@[simp] theorem i_int_tuple_list (k : Nat) (b : Int) : isiP (Gk k).Ψ (.int b) (.tup [.ty "tuple", .ty "list"]) = some false := by cases k <;> kernel_rfl
@[simp] theorem i_str_tuple_list (k : Nat) (b : Str) : isiP (Gk k).Ψ (.str b) (.tup [.ty "tuple", .ty "list"]) = some false := by cases k <;> kernel_rfl
@[simp] theorem i_tuple_tuple_list (k : Nat) (b : List P) : isiP (Gk k).Ψ (.tup b) (.tup [.ty "tuple", .ty "list"]) = some true := by cases k <;> kernel_rfl
@[simp] theorem i_list_tuple_list (k : Nat) (b : List P) : isiP (Gk k).Ψ (.lst b) (.tup [.ty "tuple", .ty "list"]) = some true := by cases k <;> kernel_rfl
@[simp] theorem i_dict_tuple_list (k : Nat) (b : List (Key × P)) : isiP (Gk k).Ψ (.dic b) (.tup [.ty "tuple", .ty "list"]) = some false := by cases k <;> kernel_rfl
@[simp] theorem i_NoneType_bool (k : Nat)  : isiP (Gk k).Ψ (.non) (.ty "bool") = some false := by cases k <;> kernel_rfl
@[simp] theorem i_bool_bool (k : Nat) (b : Bool) : isiP (Gk k).Ψ (.bl b) (.ty "bool") = some true := by cases k <;> kernel_rfl
@[simp] theorem i_int_bool (k : Nat) (b : Int) : isiP (Gk k).Ψ (.int b) (.ty "bool") = some false := by cases k <;> kernel_rfl
@[simp] theorem i_str_bool (k : Nat) (b : Str) : isiP (Gk k).Ψ (.str b) (.ty "bool") = some false := by cases k <;> kernel_rfl
@[simp] theorem i_tuple_bool (k : Nat) (b : List P) : isiP (Gk k).Ψ (.tup b) (.ty "bool") = some false := by cases k <;> kernel_rfl
@[simp] theorem i_list_bool (k : Nat) (b : List P) : isiP (Gk k).Ψ (.lst b) (.ty "bool") = some false := by cases k <;> kernel_rfl
@[simp] theorem i_dict_bool (k : Nat) (b : List (Key × P)) : isiP (Gk k).Ψ (.dic b) (.ty "bool") = some false := by cases k <;> kernel_rfl
@[simp] theorem i_Columns_bool (k : Nat) (fs : List (Str × P)) : isiP (Gk k).Ψ (.ins "Columns" fs) (.ty "bool") = some false := by cases k <;> kernel_rfl
@[simp] theorem i_RowSet_bool (k : Nat) (fs : List (Str × P)) : isiP (Gk k).Ψ (.ins "RowSet" fs) (.ty "bool") = some false := by cases k <;> kernel_rfl
@[simp] theorem i_NoneType_dict (k : Nat)  : isiP (Gk k).Ψ (.non) (.ty "dict") = some false := by cases k <;> kernel_rfl
@[simp] theorem i_bool_dict (k : Nat) (b : Bool) : isiP (Gk k).Ψ (.bl b) (.ty "dict") = some false := by cases k <;> kernel_rfl
@[simp] theorem i_int_dict (k : Nat) (b : Int) : isiP (Gk k).Ψ (.int b) (.ty "dict") = some false := by cases k <;> kernel_rfl
@[simp] theorem i_str_dict (k : Nat) (b : Str) : isiP (Gk k).Ψ (.str b) (.ty "dict") = some false := by cases k <;> kernel_rfl
@[simp] theorem i_tuple_dict (k : Nat) (b : List P) : isiP (Gk k).Ψ (.tup b) (.ty "dict") = some false := by cases k <;> kernel_rfl
@[simp] theorem i_list_dict (k : Nat) (b : List P) : isiP (Gk k).Ψ (.lst b) (.ty "dict") = some false := by cases k <;> kernel_rfl
@[simp] theorem i_dict_dict (k : Nat) (b : List (Key × P)) : isiP (Gk k).Ψ (.dic b) (.ty "dict") = some true := by cases k <;> kernel_rfl
@[simp] theorem i_Columns_dict (k : Nat) (fs : List (Str × P)) : isiP (Gk k).Ψ (.ins "Columns" fs) (.ty "dict") = some false := by cases k <;> kernel_rfl
@[simp] theorem i_RowSet_dict (k : Nat) (fs : List (Str × P)) : isiP (Gk k).Ψ (.ins "RowSet" fs) (.ty "dict") = some false := by cases k <;> kernel_rfl
@[simp] theorem i_NoneType_int (k : Nat)  : isiP (Gk k).Ψ (.non) (.ty "int") = some false := by cases k <;> kernel_rfl
@[simp] theorem i_bool_int (k : Nat) (b : Bool) : isiP (Gk k).Ψ (.bl b) (.ty "int") = some true := by cases k <;> kernel_rfl
@[simp] theorem i_int_int (k : Nat) (b : Int) : isiP (Gk k).Ψ (.int b) (.ty "int") = some true := by cases k <;> kernel_rfl
@[simp] theorem i_str_int (k : Nat) (b : Str) : isiP (Gk k).Ψ (.str b) (.ty "int") = some false := by cases k <;> kernel_rfl
@[simp] theorem i_tuple_int (k : Nat) (b : List P) : isiP (Gk k).Ψ (.tup b) (.ty "int") = some false := by cases k <;> kernel_rfl
@[simp] theorem i_list_int (k : Nat) (b : List P) : isiP (Gk k).Ψ (.lst b) (.ty "int") = some false := by cases k <;> kernel_rfl
@[simp] theorem i_dict_int (k : Nat) (b : List (Key × P)) : isiP (Gk k).Ψ (.dic b) (.ty "int") = some false := by cases k <;> kernel_rfl
@[simp] theorem i_Columns_int (k : Nat) (fs : List (Str × P)) : isiP (Gk k).Ψ (.ins "Columns" fs) (.ty "int") = some false := by cases k <;> kernel_rfl
@[simp] theorem i_RowSet_int (k : Nat) (fs : List (Str × P)) : isiP (Gk k).Ψ (.ins "RowSet" fs) (.ty "int") = some false := by cases k <;> kernel_rfl
@[simp] theorem i_NoneType_list (k : Nat)  : isiP (Gk k).Ψ (.non) (.ty "list") = some false := by cases k <;> kernel_rfl
@[simp] theorem i_bool_list (k : Nat) (b : Bool) : isiP (Gk k).Ψ (.bl b) (.ty "list") = some false := by cases k <;> kernel_rfl
@[simp] theorem i_int_list (k : Nat) (b : Int) : isiP (Gk k).Ψ (.int b) (.ty "list") = some false := by cases k <;> kernel_rfl
@[simp] theorem i_str_list (k : Nat) (b : Str) : isiP (Gk k).Ψ (.str b) (.ty "list") = some false := by cases k <;> kernel_rfl
@[simp] theorem i_tuple_list (k : Nat) (b : List P) : isiP (Gk k).Ψ (.tup b) (.ty "list") = some false := by cases k <;> kernel_rfl
@[simp] theorem i_list_list (k : Nat) (b : List P) : isiP (Gk k).Ψ (.lst b) (.ty "list") = some true := by cases k <;> kernel_rfl
@[simp] theorem i_dict_list (k : Nat) (b : List (Key × P)) : isiP (Gk k).Ψ (.dic b) (.ty "list") = some false := by cases k <;> kernel_rfl
@[simp] theorem i_Columns_list (k : Nat) (fs : List (Str × P)) : isiP (Gk k).Ψ (.ins "Columns" fs) (.ty "list") = some false := by cases k <;> kernel_rfl
@[simp] theorem i_RowSet_list (k : Nat) (fs : List (Str × P)) : isiP (Gk k).Ψ (.ins "RowSet" fs) (.ty "list") = some false := by cases k <;> kernel_rfl
@[simp] theorem i_NoneType_str (k : Nat)  : isiP (Gk k).Ψ (.non) (.ty "str") = some false := by cases k <;> kernel_rfl
@[simp] theorem i_bool_str (k : Nat) (b : Bool) : isiP (Gk k).Ψ (.bl b) (.ty "str") = some false := by cases k <;> kernel_rfl
@[simp] theorem i_int_str (k : Nat) (b : Int) : isiP (Gk k).Ψ (.int b) (.ty "str") = some false := by cases k <;> kernel_rfl
@[simp] theorem i_str_str (k : Nat) (b : Str) : isiP (Gk k).Ψ (.str b) (.ty "str") = some true := by cases k <;> kernel_rfl
@[simp] theorem i_tuple_str (k : Nat) (b : List P) : isiP (Gk k).Ψ (.tup b) (.ty "str") = some false := by cases k <;> kernel_rfl
@[simp] theorem i_list_str (k : Nat) (b : List P) : isiP (Gk k).Ψ (.lst b) (.ty "str") = some false := by cases k <;> kernel_rfl
@[simp] theorem i_dict_str (k : Nat) (b : List (Key × P)) : isiP (Gk k).Ψ (.dic b) (.ty "str") = some false := by cases k <;> kernel_rfl
@[simp] theorem i_Columns_str (k : Nat) (fs : List (Str × P)) : isiP (Gk k).Ψ (.ins "Columns" fs) (.ty "str") = some false := by cases k <;> kernel_rfl
@[simp] theorem i_RowSet_str (k : Nat) (fs : List (Str × P)) : isiP (Gk k).Ψ (.ins "RowSet" fs) (.ty "str") = some false := by cases k <;> kernel_rfl
@[simp] theorem i_NoneType_tuple (k : Nat)  : isiP (Gk k).Ψ (.non) (.ty "tuple") = some false := by cases k <;> kernel_rfl
@[simp] theorem i_bool_tuple (k : Nat) (b : Bool) : isiP (Gk k).Ψ (.bl b) (.ty "tuple") = some false := by cases k <;> kernel_rfl
@[simp] theorem i_int_tuple (k : Nat) (b : Int) : isiP (Gk k).Ψ (.int b) (.ty "tuple") = some false := by cases k <;> kernel_rfl
@[simp] theorem i_str_tuple (k : Nat) (b : Str) : isiP (Gk k).Ψ (.str b) (.ty "tuple") = some false := by cases k <;> kernel_rfl
@[simp] theorem i_tuple_tuple (k : Nat) (b : List P) : isiP (Gk k).Ψ (.tup b) (.ty "tuple") = some true := by cases k <;> kernel_rfl
@[simp] theorem i_list_tuple (k : Nat) (b : List P) : isiP (Gk k).Ψ (.lst b) (.ty "tuple") = some false := by cases k <;> kernel_rfl
@[simp] theorem i_dict_tuple (k : Nat) (b : List (Key × P)) : isiP (Gk k).Ψ (.dic b) (.ty "tuple") = some false := by cases k <;> kernel_rfl
@[simp] theorem i_Columns_tuple (k : Nat) (fs : List (Str × P)) : isiP (Gk k).Ψ (.ins "Columns" fs) (.ty "tuple") = some false := by cases k <;> kernel_rfl
@[simp] theorem i_RowSet_tuple (k : Nat) (fs : List (Str × P)) : isiP (Gk k).Ψ (.ins "RowSet" fs) (.ty "tuple") = some false := by cases k <;> kernel_rfl
theorem at_Columns_names (k : Nat) (fs : List (Str × P)) : attrV (Gk k).Ψ "names" (.ins "Columns" fs) = (fs.lookup ("names" : Str)).map .v := by cases k <;> kernel_rfl
theorem fl_Columns_names (k : Nat) (x : P) (fs : List (Str × P)) : fldV (Gk k).Ψ "names" x (.ins "Columns" fs) = if decide (fs.length < 1000) then some (.ins "Columns" (putP "names" x fs)) else none := by cases k <;> kernel_rfl
theorem ty_Columns (k : Nat) (fs : List (Str × P)) : tyP (Gk k).Ψ (.ins "Columns" fs) = some (.o "Columns") := by cases k <;> kernel_rfl
theorem at_RowSet_columns (k : Nat) (fs : List (Str × P)) : attrV (Gk k).Ψ "columns" (.ins "RowSet" fs) = (fs.lookup ("columns" : Str)).map .v := by cases k <;> kernel_rfl
theorem fl_RowSet_columns (k : Nat) (x : P) (fs : List (Str × P)) : fldV (Gk k).Ψ "columns" x (.ins "RowSet" fs) = if decide (fs.length < 1000) then some (.ins "RowSet" (putP "columns" x fs)) else none := by cases k <;> kernel_rfl
theorem at_RowSet_given_cases (k : Nat) (fs : List (Str × P)) : attrV (Gk k).Ψ "given_cases" (.ins "RowSet" fs) = (fs.lookup ("given_cases" : Str)).map .v := by cases k <;> kernel_rfl
theorem fl_RowSet_given_cases (k : Nat) (x : P) (fs : List (Str × P)) : fldV (Gk k).Ψ "given_cases" x (.ins "RowSet" fs) = if decide (fs.length < 1000) then some (.ins "RowSet" (putP "given_cases" x fs)) else none := by cases k <;> kernel_rfl
theorem ty_RowSet (k : Nat) (fs : List (Str × P)) : tyP (Gk k).Ψ (.ins "RowSet" fs) = some (.o "RowSet") := by cases k <;> kernel_rfl
theorem mt_BadCases_BatchError (k : Nat) : (Gk k).mt "BadCases" "BatchError" = some false := by cases k <;> kernel_rfl
theorem mt_BadCases_BadColumns (k : Nat) : (Gk k).mt "BadCases" "BadColumns" = some false := by cases k <;> kernel_rfl
theorem mt_BadCases_NoRow (k : Nat) : (Gk k).mt "BadCases" "NoRow" = some false := by cases k <;> kernel_rfl
theorem mt_BadCases_BadCases (k : Nat) : (Gk k).mt "BadCases" "BadCases" = some true := by cases k <;> kernel_rfl
theorem mt_BadCases_Unlike (k : Nat) : (Gk k).mt "BadCases" "Unlike" = some false := by cases k <;> kernel_rfl
theorem xi_BatchError (k : Nat) : (Gk k).xi "BatchError" = true := by cases k <;> kernel_rfl
theorem ii_BatchError_bool (k : Nat) : (Gk k).Ψ.isi (.o "BatchError") (.b "bool") = some false := by cases k <;> kernel_rfl
theorem ii_BatchError_dict (k : Nat) : (Gk k).Ψ.isi (.o "BatchError") (.b "dict") = some false := by cases k <;> kernel_rfl
theorem ii_BatchError_int (k : Nat) : (Gk k).Ψ.isi (.o "BatchError") (.b "int") = some false := by cases k <;> kernel_rfl
theorem ii_BatchError_list (k : Nat) : (Gk k).Ψ.isi (.o "BatchError") (.b "list") = some false := by cases k <;> kernel_rfl
theorem ii_BatchError_str (k : Nat) : (Gk k).Ψ.isi (.o "BatchError") (.b "str") = some false := by cases k <;> kernel_rfl
theorem ii_BatchError_tuple (k : Nat) : (Gk k).Ψ.isi (.o "BatchError") (.b "tuple") = some false := by cases k <;> kernel_rfl
theorem xf_BadColumns_index (k : Nat) : (Gk k).xf "BadColumns" "index" = true := by cases k <;> kernel_rfl
theorem xi_BadColumns (k : Nat) : (Gk k).xi "BadColumns" = true := by cases k <;> kernel_rfl
theorem ii_BadColumns_bool (k : Nat) : (Gk k).Ψ.isi (.o "BadColumns") (.b "bool") = some false := by cases k <;> kernel_rfl
theorem ii_BadColumns_dict (k : Nat) : (Gk k).Ψ.isi (.o "BadColumns") (.b "dict") = some false := by cases k <;> kernel_rfl
theorem ii_BadColumns_int (k : Nat) : (Gk k).Ψ.isi (.o "BadColumns") (.b "int") = some false := by cases k <;> kernel_rfl
theorem ii_BadColumns_list (k : Nat) : (Gk k).Ψ.isi (.o "BadColumns") (.b "list") = some false := by cases k <;> kernel_rfl
theorem ii_BadColumns_str (k : Nat) : (Gk k).Ψ.isi (.o "BadColumns") (.b "str") = some false := by cases k <;> kernel_rfl
theorem ii_BadColumns_tuple (k : Nat) : (Gk k).Ψ.isi (.o "BadColumns") (.b "tuple") = some false := by cases k <;> kernel_rfl
theorem xf_NoRow_name (k : Nat) : (Gk k).xf "NoRow" "name" = true := by cases k <;> kernel_rfl
theorem xi_NoRow (k : Nat) : (Gk k).xi "NoRow" = true := by cases k <;> kernel_rfl
theorem ii_NoRow_bool (k : Nat) : (Gk k).Ψ.isi (.o "NoRow") (.b "bool") = some false := by cases k <;> kernel_rfl
theorem ii_NoRow_dict (k : Nat) : (Gk k).Ψ.isi (.o "NoRow") (.b "dict") = some false := by cases k <;> kernel_rfl
theorem ii_NoRow_int (k : Nat) : (Gk k).Ψ.isi (.o "NoRow") (.b "int") = some false := by cases k <;> kernel_rfl
theorem ii_NoRow_list (k : Nat) : (Gk k).Ψ.isi (.o "NoRow") (.b "list") = some false := by cases k <;> kernel_rfl
theorem ii_NoRow_str (k : Nat) : (Gk k).Ψ.isi (.o "NoRow") (.b "str") = some false := by cases k <;> kernel_rfl
theorem ii_NoRow_tuple (k : Nat) : (Gk k).Ψ.isi (.o "NoRow") (.b "tuple") = some false := by cases k <;> kernel_rfl
theorem xf_BadCases_index (k : Nat) : (Gk k).xf "BadCases" "index" = true := by cases k <;> kernel_rfl
theorem xi_BadCases (k : Nat) : (Gk k).xi "BadCases" = true := by cases k <;> kernel_rfl
theorem ii_BadCases_bool (k : Nat) : (Gk k).Ψ.isi (.o "BadCases") (.b "bool") = some false := by cases k <;> kernel_rfl
theorem ii_BadCases_dict (k : Nat) : (Gk k).Ψ.isi (.o "BadCases") (.b "dict") = some false := by cases k <;> kernel_rfl
theorem ii_BadCases_int (k : Nat) : (Gk k).Ψ.isi (.o "BadCases") (.b "int") = some false := by cases k <;> kernel_rfl
theorem ii_BadCases_list (k : Nat) : (Gk k).Ψ.isi (.o "BadCases") (.b "list") = some false := by cases k <;> kernel_rfl
theorem ii_BadCases_str (k : Nat) : (Gk k).Ψ.isi (.o "BadCases") (.b "str") = some false := by cases k <;> kernel_rfl
theorem ii_BadCases_tuple (k : Nat) : (Gk k).Ψ.isi (.o "BadCases") (.b "tuple") = some false := by cases k <;> kernel_rfl
theorem xi_Unlike (k : Nat) : (Gk k).xi "Unlike" = true := by cases k <;> kernel_rfl
theorem ii_Unlike_bool (k : Nat) : (Gk k).Ψ.isi (.o "Unlike") (.b "bool") = some false := by cases k <;> kernel_rfl
theorem ii_Unlike_dict (k : Nat) : (Gk k).Ψ.isi (.o "Unlike") (.b "dict") = some false := by cases k <;> kernel_rfl
theorem ii_Unlike_int (k : Nat) : (Gk k).Ψ.isi (.o "Unlike") (.b "int") = some false := by cases k <;> kernel_rfl
theorem ii_Unlike_list (k : Nat) : (Gk k).Ψ.isi (.o "Unlike") (.b "list") = some false := by cases k <;> kernel_rfl
theorem ii_Unlike_str (k : Nat) : (Gk k).Ψ.isi (.o "Unlike") (.b "str") = some false := by cases k <;> kernel_rfl
theorem ii_Unlike_tuple (k : Nat) : (Gk k).Ψ.isi (.o "Unlike") (.b "tuple") = some false := by cases k <;> kernel_rfl
end Lk04

set_option Elab.async false
set_option linter.all false
set_option maxRecDepth 100000
set_option maxHeartbeats 2000000
namespace Lk04
open PySem PySem.Spec PyProof.Rows L2 Bt Bt.Pv
/-! ### the hand and its draws -/
def HandOk (h : P) : Prop := ∃ (cells : List Int) (i : Nat) (cur cnt seed : Int), h = .lst [.lst (cells.map P.int), .int i, .int cur, .int cnt, .int seed] ∧ 0 ≤ cur
theorem mixed_ok (k : Nat) (n c : Int) : ∃ r : Int, 0 ≤ r ∧ r < 2147483399 ∧ runP d__law_mixed (Gk k) [.sh (.int n), .sh (.int c)] = .ok (.v (.int r)) [none, none] := by
  rw [r__law_mixed]
  simp [q__law_mixed, k_int, cmulR (j := 48271) (by decide) (by decide), cmulR (j := 7919) (by decide) (by decide)]
  generalize hf : (n * 48271 + c * 7919 + 30103) % 2147483647 = f
  have f0 : 0 ≤ f := by rw [← hf]; exact Int.emod_nonneg _ (by decide)
  have f1 : f < 2147483647 := by rw [← hf]; exact Int.emod_lt_of_pos _ (by decide)
  have d1 : CDiv f 1009 := ⟨by decide, by decide⟩
  have e1 : CMul f (f / 1009 + 69621) := cmulL (by omega) (by omega)
  simp [k_int, d1, e1]
  generalize hg : f * (f / 1009 + 69621) % 2147483647 = g
  have g0 : 0 ≤ g := by rw [← hg]; exact Int.emod_nonneg _ (by decide)
  have g1 : g < 2147483647 := by rw [← hg]; exact Int.emod_lt_of_pos _ (by decide)
  have d2 : CDiv g 2003 := ⟨by decide, by decide⟩
  have e2 : CMul g (g / 2003 + 40692) := cmulL (by omega) (by omega)
  have e3 : CMul c 104729 := cmulR (by decide) (by decide)
  simp [k_int, d2, e2, e3]
  exact ⟨Int.emod_nonneg _ (by decide), Int.emod_lt_of_pos _ (by decide)⟩
section
variable {cs : List Int} {i : Nat} {cur cnt seed : Int}
theorem hx0 (a b c d e : P) : atI [a, b, c, d, e] 0 = some a := rfl
theorem hx1 (a b c d e : P) : atI [a, b, c, d, e] 1 = some b := rfl
theorem hx2 (a b c d e : P) : atI [a, b, c, d, e] 2 = some c := rfl
theorem hx3 (a b c d e : P) : atI [a, b, c, d, e] 3 = some d := rfl
theorem hx4 (a b c d e : P) : atI [a, b, c, d, e] 4 = some e := rfl
theorem hn1 : ixN 5 1 = some 1 := rfl
theorem hn2 : ixN 5 2 = some 2 := rfl
theorem hn3 : ixN 5 3 = some 3 := rfl
end
/-- the draw: a number below many; the hand is another one -/
theorem draw_ok (k : Nat) {h : P} {many : Int} (H : HandOk h) (m0 : 0 < many) (m1 : many < 1073741824) : ∃ (r : Int) (h' : P), runP d__law_draw (Gk (k + 1)) [.li true false h, .sh (.int many)] = .ok (.v (.int r)) [some (.li true false h'), none] ∧ 0 ≤ r ∧ r < many ∧ HandOk h' := by
  obtain ⟨cells, i, cur, cnt, seed, rfl, hc⟩ := H
  have rb : ∀ z : Int, 0 ≤ z % many ∧ z % many < many := fun z => ⟨Int.emod_nonneg _ (by omega), Int.emod_lt_of_pos _ m0⟩
  have d16 : ∀ z : Int, CDiv z 16 := fun z => ⟨by decide, by decide⟩
  have dm : ∀ z : Int, CDiv z many := fun z => ⟨m0, m1⟩
  have pw : CPow 10 18 := ⟨by decide, by decide, by decide⟩
  rw [r__law_draw]
  by_cases hz : cur = 0
  · subst hz
    by_cases hi : i < cells.length
    · have hx : atI (cells.map P.int) (i : Int) = some (.int cells[i]) := at_nat (by simp [hi])
      by_cases hb : cells[i] < 1000000000000000000
      · obtain ⟨q, q0, q1, qe⟩ := mixed_ok k (cells[i] + seed) (cnt + 1)
        simp [q__law_draw, hx0, hx1, hx2, hx3, hx4, hn1, hn2, hn3, k_len, k_int, k__law_mixed, hi, hx, hb, pw, qe, d16, m0]
        exact ⟨_, _, ⟨rfl, rfl⟩, (rb _).1, (rb _).2, cells, i + 1, 0, cnt + 1, seed, rfl, by decide⟩
      · have hp : 0 < cells[i] := by omega
        simp [q__law_draw, hx0, hx1, hx2, hx3, hx4, hn1, hn2, hn3, k_len, k_int, hi, hx, hb, hp, pw, dm, m0]
        exact ⟨_, _, ⟨rfl, rfl⟩, (rb _).1, (rb _).2, cells, i + 1, cells[i] / many, cnt + 1, seed, rfl, Int.ediv_nonneg (by omega) (by omega)⟩
    · obtain ⟨q, q0, q1, qe⟩ := mixed_ok k seed (cnt + 1)
      simp [q__law_draw, hx0, hx1, hx2, hx3, hx4, hn1, hn2, hn3, k_len, k_int, k__law_mixed, hi, qe, d16, m0]
      exact ⟨_, _, ⟨rfl, rfl⟩, (rb _).1, (rb _).2, cells, i, 0, cnt + 1, seed, rfl, by decide⟩
  · have hp : 0 < cur := by omega
    simp [q__law_draw, hx0, hx1, hx2, hx3, hx4, hn1, hn2, hn3, k_len, k_int, hz, hp, dm, m0]
    exact ⟨_, _, ⟨rfl, rfl⟩, (rb _).1, (rb _).2, cells, i, cur / many, cnt + 1, seed, rfl, Int.ediv_nonneg (by omega) (by omega)⟩
/-- a new hand -/
theorem hand_ok (k : Nat) (ns : List Int) : ∃ h, runP d__law_hand (Gk k) [.sh (.fz (ns.map P.int))] = .ok (.o h) [none] ∧ HandOk h := by
  have ec : ∃ cs : List Int, cutP (ns.map P.int) none (some 63) = cs.map P.int := by
    unfold cutP
    rw [← List.map_drop, ← List.map_take]
    exact ⟨_, rfl⟩
  obtain ⟨cs, ec⟩ := ec
  rw [r__law_hand]
  have key : ∀ (b : PSm), b = pSeq (pAsg (pOp oMod (pCall (Gk k).Ψ "int" (pCons (pOp oAdd (pOp oAdd (pOp oMul (pVar 2) (pC (.int 31))) (pVar 3)) (pC (.int 11))) (pNil))) (pC (.int 2147483629))) (pNam 2)) (pNilS) → ∀ (xs : List Int) (s : Int) (x : Option Sl), asgOk (some x) = true → ∃ (s' : Int) (x' : Option Sl), forP (pNam 3) b (xs.map P.int) [some (.sh (.fz (ns.map P.int))), some (.li false true (.lst (cs.map P.int))), some (.sh (.int s)), x] = .ok .nx [some (.sh (.fz (ns.map P.int))), some (.li false true (.lst (cs.map P.int))), some (.sh (.int s')), x'] := by
    intro b hb xs
    induction xs with
    | nil => intro s x _; exact ⟨s, x, rfl⟩
    | cons y ys ih =>
      intro s x hx
      subst hb
      have e31 : CMul s 31 := cmulR (by decide) (by decide)
      simp [turn_nam, hx, k_int, e31]
      exact ih _ _ rfl
  obtain ⟨s', x', e⟩ := key _ rfl cs 7 none rfl
  simp [q__law_hand, k_list, ec]
  rw [for_slot (i := 1) (c := false) (ps := cs.map P.int) (pe1 := [some (.sh (.fz (ns.map P.int))), some (.li false false (.lst (cs.map P.int))), some (.sh (.int 7)), none]) (by simp) rfl]
  simp only [List.set_cons_succ, List.set_cons_zero]
  rw [e]
  simp [e_unl]
  exact ⟨cs, 0, 0, 0, s', rfl, by decide⟩
/-! ### names that are drawn -/
def Low (x : Str) : Prop := ∀ c ∈ x.cps.toList, 97 ≤ c ∧ c ≤ 122
abbrev lets : Str := Str.ofString "abcdefghijklmnopqrstuvwxyz"
theorem lets_list : lets.cps.toList = List.range' 97 26 := by decide +kernel
theorem lets_len : lets.length = 26 := by decide +kernel
theorem lets_in (c : Nat) : decide (c ∈ lets.cps.toList) = decide (97 ≤ c ∧ c ≤ 122) := by
  rw [lets_list, decide_eq_decide]
  simp only [List.mem_range', Nat.one_mul]
  constructor
  · rintro ⟨i, h, rfl⟩; omega
  · rintro ⟨h1, h2⟩; exact ⟨c - 97, by omega, by omega⟩
theorem lets_at {r : Int} (h0 : 0 ≤ r) (h1 : r < 26) : ∃ c : Nat, ixV (.str lets) (.int r) = some (.v (.str ⟨#[c]⟩)) ∧ 97 ≤ c ∧ c ≤ 122 := by
  obtain ⟨n, rfl⟩ := Int.eq_ofNat_of_zero_le h0
  have hn : n < 26 := by omega
  have e : atI lets.cps.toList (n : Int) = some (97 + n) := at_nat (by rw [lets_list, List.getElem?_range' hn]; simp)
  refine ⟨97 + n, ?_, by omega, by omega⟩
  simp only [ixV, lets_len, e]
  simp
theorem Low.ok {x : Str} (h : Low x) : PyData.strOk x = true := by
  unfold PyData.strOk
  rw [Array.all_eq_true]
  intro i hi
  have := h x.cps[i] (by simp)
  simp
  omega
theorem low_join : ∀ l : List Str, (∀ a ∈ l, Low a ∧ a.length = 1) → Low (Str.join (Str.ofString "") l) ∧ (Str.join (Str.ofString "") l).length = l.length
  | [], _ => ⟨fun c hc => by simp [Str.join, Str.empty] at hc, rfl⟩
  | [x], h => ⟨(h x (by simp)).1, (h x (by simp)).2⟩
  | x :: y :: r, h => by
    obtain ⟨h1, h2⟩ := low_join (y :: r) fun a ha => h a (List.mem_cons_of_mem _ ha)
    obtain ⟨h3, h4⟩ := h x (by simp)
    have e : (Str.ofString "").cps = #[] := by decide +kernel
    constructor
    · intro c hc
      have hc' : c ∈ (x.cps ++ (Str.ofString "").cps ++ (Str.join (Str.ofString "") (y :: r)).cps).toList := hc
      rw [e] at hc'
      simp at hc'
      rcases hc' with hc' | hc'
      · exact h3 c (by simpa using hc')
      · exact h1 c (by simpa using hc')
    · show (x.cps ++ (Str.ofString "").cps ++ (Str.join (Str.ofString "") (y :: r)).cps).size = _
      rw [e]
      have h2' : (Str.join (Str.ofString "") (y :: r)).cps.size = (y :: r).length := h2
      have h4' : x.cps.size = 1 := h4
      simp only [Array.size_append, h2', h4', List.length_cons]
      simp
      omega
theorem low_one {c : Nat} (h0 : 97 ≤ c) (h1 : c ≤ 122) : Low ⟨#[c]⟩ ∧ (⟨#[c]⟩ : Str).length = 1 := by
  refine ⟨fun z hz => ?_, rfl⟩
  have e : z = c := by simpa using hz
  subst e
  exact ⟨h0, h1⟩
theorem strsP_map : ∀ ws : List Str, strsP (ws.map P.str) = some ws
  | [] => rfl
  | w :: ws => by
    show (strsP (ws.map P.str)).map (w :: ·) = _
    rw [strsP_map ws]
    rfl
/-- the reserved words -/
abbrev resv : List Str := ["and", "case", "else", "is", "missing", "must", "not", "or"]
/-- a name -/
structure Nm (x : Str) : Prop where
  low : Low x
  l0 : 1 ≤ x.length
  l1 : x.length ≤ 8
  nr : x ∉ resv
theorem word_lc (k : Nat) {h : P} (H : HandOk h) (n : Nat) (hn : n ≤ 8) (a1 : Sl) (z : Str) (hz : ∀ r : Int, 0 ≤ r → r < 26 → ∃ c : Nat, ixV (.str z) (.int r) = some (.v (.str ⟨#[c]⟩)) ∧ 97 ≤ c ∧ c ≤ 122) : ∃ (ws : List Str) (h' : P),
    pLc (pRange1 (pVar 3)) [7] (.one 7) pYes (pOp oIx (pVar 2) (pCall (Gk (k + 2)).Ψ "_law_draw" (pCons (pVar 0) (pCons (pC (.int 26)) pNil)))) [some (.li true false h), some a1, some (.sh (.str z)), some (.sh (.int n)), none, none, none, none, none] = .ok (.o (.lst (ws.map P.str))) [some (.li true false h'), some a1, some (.sh (.str z)), some (.sh (.int n)), none, none, none, none, none] ∧
    ws.length = n ∧ (∀ w ∈ ws, Low w ∧ w.length = 1) ∧ HandOk h' := by
  have key := lcP_to (own := [7]) (t := .one 7) (ts := pYes) (e := pOp oIx (pVar 2) (pCall (Gk (k + 2)).Ψ "_law_draw" (pCons (pVar 0) (pCons (pC (.int 26)) pNil))))
    (fun r acc pe => ∃ (ws : List Str) (h' : P), acc = ws.map P.str ∧ ws.length + r.length = n ∧ (∀ w ∈ ws, Low w ∧ w.length = 1) ∧ HandOk h' ∧ pe = [some (.li true false h'), some a1, some (.sh (.str z)), some (.sh (.int n)), none, none, none, none, none])
    (fun p r acc pe ⟨ws, h1, e1, e2, e3, e4, e5⟩ => by
      subst e1 e5
      obtain ⟨d, h2, ed, d0, d1, H2⟩ := draw_ok k (many := 26) e4 (by decide) (by decide)
      obtain ⟨c, ec, c0, c1⟩ := hz d d0 d1
      refine ⟨_, _, lcT_yes (y := .str ⟨#[c]⟩) (tm := .v (.str ⟨#[c]⟩)) (pe2 := [some (.li true false h1), some a1, some (.sh (.str z)), some (.sh (.int n)), none, none, none, some (.sh p), none]) (pe3 := [some (.li true false h1), some a1, some (.sh (.str z)), some (.sh (.int n)), none, none, none, some (.sh p), none]) (pe4 := [some (.li true false h2), some a1, some (.sh (.str z)), some (.sh (.int n)), none, none, none, some (.sh p), none]) (pe5 := [some (.li true false h2), some a1, some (.sh (.str z)), some (.sh (.int n)), none, none, none, some (.sh p), none]) rfl rfl (by simp [k__law_draw, ed, ec]) (by simp) (by simp at e2 ⊢; omega), ws ++ [⟨#[c]⟩], h2, by simp, by simp at e2 ⊢; omega, ?_, H2, rfl⟩
      intro w hw
      rcases List.mem_append.mp hw with hw | hw
      · exact e3 w hw
      · rw [List.mem_singleton.mp hw]
        exact low_one c0 c1)
    (rangeP 0 n) [] [some (.li true false h), some a1, some (.sh (.str z)), some (.sh (.int n)), none, none, none, none, none] ⟨[], h, rfl, by simp [rangeP_len], (fun w hw => by cases hw), H, rfl⟩
  obtain ⟨acc, pe, e, ws, h', rfl, e2, e3, e4, rfl⟩ := key
  refine ⟨ws, h', ?_, by simpa using e2, e3, e4⟩
  exact lc_items (pe1 := [some (.li true false h), some a1, some (.sh (.str z)), some (.sh (.int n)), none, none, none, none, none]) (by simp [rg_small (j := n) (by omega)]) rfl e
theorem sub_len {α : Type} [BEq α] [LawfulBEq α] : ∀ (l m : List α), l.Nodup → (∀ x ∈ l, x ∈ m) → l.length ≤ m.length
  | [], _, _, _ => by simp
  | x :: l, m, hn, hs => by
    have hx := hs x (by simp)
    have h1 := List.nodup_cons.mp hn
    have := sub_len l (m.erase x) h1.2 fun y hy => by
      have ne : y ≠ x := by rintro rfl; exact h1.1 hy
      exact (List.mem_erase_of_ne ne).mpr (hs y (by simp [hy]))
    rw [List.length_erase_of_mem hx] at this
    have : 0 < m.length := List.length_pos_of_mem hx
    simp
    omega
abbrev cands : List Str := ["ka", "kb", "kc", "kd", "ke", "kf"]
theorem resv_ok : ∀ x ∈ resv, PyData.strOk x = true := by decide +kernel
theorem cands_ok : ∀ x ∈ cands, PyData.strOk x = true ∧ x ∉ resv ∧ 1 ≤ x.length ∧ x.length ≤ 8 ∧ x.cps.toList.all (fun c => decide (97 ≤ c ∧ c ≤ 122)) = true := by decide +kernel
theorem cands_nd : cands.Nodup := by decide +kernel
theorem cands_nm {x : Str} (h : x ∈ cands) : Nm x := by
  obtain ⟨_, h1, h2, h3, h4⟩ := cands_ok x h
  exact ⟨fun c hc => by simpa using List.all_eq_true.mp h4 c hc, h2, h3, h1⟩
/-- what is left of an argument -/
def finS : Sl → Option Sl
  | .li b k p => some (.li b k p)
  | _ => none
theorem size4 {r : Int} (h0 : 0 ≤ r) (h1 : r < 4) : ∃ n : Nat, atI [P.int 1, P.int 2, P.int 3, P.int 8] r = some (.int n) ∧ 1 ≤ n ∧ n ≤ 8 := by
  have : r = 0 ∨ r = 1 ∨ r = 2 ∨ r = 3 := by omega
  rcases this with rfl | rfl | rfl | rfl
  · exact ⟨1, rfl, by decide, by decide⟩
  · exact ⟨2, rfl, by decide, by decide⟩
  · exact ⟨3, rfl, by decide, by decide⟩
  · exact ⟨8, rfl, by decide, by decide⟩
theorem join_ok (ws : List Str) (hl : ws.length ≤ 8) (h : ∀ w ∈ ws, Low w ∧ w.length = 1) : ∃ x, joinV (Str.ofString "") (.lst (ws.map P.str)) = some (.v (.str x)) ∧ Low x ∧ x.length = ws.length := by
  obtain ⟨h1, h2⟩ := low_join ws h
  have hs : (ws.map (·.length)).sum = ws.length := by
    clear hl h1 h2
    induction ws with
    | nil => rfl
    | cons w ws ih =>
      simp [(h w (by simp)).2, ih fun a ha => h a (by simp [ha])]
      omega
  have e0 : (Str.ofString "").length = 0 := by decide +kernel
  refine ⟨Str.join (Str.ofString "") ws, ?_, h1, h2⟩
  unfold joinV
  simp only [seqP, ob_some, strsP_map]
  rw [if_pos (by rw [hs, e0]; omega), TL.join_eq]
theorem spare_lc (k : Nat) (bs : List Str) (hb : ∀ y ∈ bs, PyData.strOk y = true) (a0 a1 a2 a3 a4 a6 a7 : Option Sl) :
    pLc (pIter (pLst (pCons (pC (.str "ka")) (pCons (pC (.str "kb")) (pCons (pC (.str "kc")) (pCons (pC (.str "kd")) (pCons (pC (.str "ke")) (pCons (pC (.str "kf")) (pNil))))))))) [8] (.one 8) (pTest (pOp (inT (Gk k).Ψ true) (pVar 8) (pVar 5))) (pVar 8) [a0, a1, a2, a3, a4, some (.li false false (.lst (bs.map P.str))), a6, a7, none] = .ok (.o (.lst ((cands.filter fun y => decide (y ∉ bs)).map P.str))) [a0, a1, a2, a3, a4, some (.li false false (.lst (bs.map P.str))), a6, a7, none] := by
  have hp : ([a0, a1, a2, a3, a4, some (.li false false (.lst (bs.map P.str))), a6, a7, none] : PEnv) = [a0, a1, a2, a3, a4, some (.li false false (.lst (bs.map P.str))), a6, a7, none] := rfl
  have key := lcP_on (own := [8]) (t := .one 8) (ts := pTest (pOp (inT (Gk k).Ψ true) (pVar 8) (pVar 5))) (e := pVar 8) (pe := [a0, a1, a2, a3, a4, some (.li false false (.lst (bs.map P.str))), a6, a7, none]) (fun p => p) (fun p => !memB p (bs.map P.str)) (cands.map P.str) [] (fun p hp acc hl => by
    obtain ⟨y, hy, rfl⟩ := List.mem_map.mp hp
    have hin := (inV_dat (n := 0) (p := .str y) (xs := bs.map P.str) (okD_str 0 (cands_ok y hy).1) (okDs_strs hb) (by decide)).1
    cases hm : memB (.str y) (bs.map P.str) with
    | true =>
      rw [hm] at hin
      exact lcT_no (pe2 := [a0, a1, a2, a3, a4, some (.li false false (.lst (bs.map P.str))), a6, a7, some (.sh (.str y))]) (pe3 := [a0, a1, a2, a3, a4, some (.li false false (.lst (bs.map P.str))), a6, a7, some (.sh (.str y))]) rfl (by simp [hin])
    | false =>
      rw [hm] at hin
      exact lcT_yes (pe2 := [a0, a1, a2, a3, a4, some (.li false false (.lst (bs.map P.str))), a6, a7, some (.sh (.str y))]) (pe3 := [a0, a1, a2, a3, a4, some (.li false false (.lst (bs.map P.str))), a6, a7, some (.sh (.str y))]) (pe4 := [a0, a1, a2, a3, a4, some (.li false false (.lst (bs.map P.str))), a6, a7, some (.sh (.str y))]) (pe5 := [a0, a1, a2, a3, a4, some (.li false false (.lst (bs.map P.str))), a6, a7, some (.sh (.str y))]) (tm := .v (.str y)) rfl (by simp [hin]) (by simp) (by simp) (by simp; omega)) (by simp)
  rw [lc_items (ps := cands.map P.str) (pe1 := [a0, a1, a2, a3, a4, some (.li false false (.lst (bs.map P.str))), a6, a7, none]) (by simp) rfl key]
  have e1 : (cands.map P.str).filter (fun p => !memB p (bs.map P.str)) = (cands.filter fun y => decide (y ∉ bs)).map P.str := by
    rw [List.filter_map]
    congr 1
    apply List.filter_congr
    intro y _
    simp [memB_strs]
  rw [e1]
  simp [restP]
theorem name_ok (k : Nat) {h : P} (H : HandOk h) {ws : List Str} (hw : ∀ x ∈ ws, PyData.strOk x = true) (hl : ws.length ≤ 5) {a1 : Sl} (ha : a1 = .sh (.lst (ws.map P.str)) ∨ ∃ b, a1 = .li true b (.lst (ws.map P.str))) :
    ∃ (x : Str) (h' : P), runP d__law_name (Gk (k + 3)) [.li true false h, a1] = .ok (.v (.str x)) [some (.li true false h'), finS a1] ∧ Nm x ∧ x ∉ ws ∧ HandOk h' := by
  obtain ⟨r, h1, e1, r0, r1, H1⟩ := draw_ok (k + 1) (many := 4) H (by decide) (by decide)
  obtain ⟨n, e2, n0, n1⟩ := size4 r0 r1
  obtain ⟨cs, h2, e3, c1, c2, H2⟩ := word_lc (k + 1) H1 n n1 a1 lets fun r h0 h1 => lets_at h0 h1
  obtain ⟨x, e4, x1, x2⟩ := join_ok cs (by omega) c2
  have hx := x1.ok
  have hb : ∀ y ∈ ws ++ resv, PyData.strOk y = true := fun y hy => (List.mem_append.mp hy).elim (hw y) (resv_ok y)
  have eb : ws.map P.str ++ [P.str "and", P.str "case", P.str "else", P.str "is", P.str "missing", P.str "must", P.str "not", P.str "or"] = (ws ++ resv).map P.str := by simp
  have hin : inV (.str x) (.lst ((ws ++ resv).map P.str)) = some (decide (x ∈ ws ++ resv)) := by
    rw [(inV_dat (n := 0) (okD_str 0 hx) (okDs_strs hb) (by decide)).1, memB_strs]
  have l1 : ws.length ≤ 16777208 := by omega
  generalize hbs : ws ++ resv = bs at *
  by_cases hm : x ∈ bs
  · -- a spare name
    have sp := fun a0 a1 a2 a3 a4 a6 a7 => spare_lc (k + 3) bs hb a0 a1 a2 a3 a4 a6 a7
    have ne : cands.filter (fun y => decide (y ∉ bs)) ≠ [] := by
      intro hf
      have : ∀ y ∈ cands, y ∈ ws := fun y hy => by
        have h1 : y ∉ cands.filter (fun y => decide (y ∉ bs)) := by rw [hf]; simp
        have h2 : y ∈ bs := by
          by_cases hh : y ∈ bs
          · exact hh
          · exact absurd (List.mem_filter.mpr ⟨hy, by simpa using hh⟩) h1
        rw [← hbs] at h2
        rcases List.mem_append.mp h2 with h2 | h2
        · exact h2
        · exact absurd h2 (cands_ok y hy).2.1
      have := sub_len cands ws cands_nd this
      simp at this
      omega
    cases hf : cands.filter (fun y => decide (y ∉ bs)) with
    | nil => exact absurd hf ne
    | cons y ys =>
      have hy : y ∈ cands.filter (fun y => decide (y ∉ bs)) := by rw [hf]; simp
      obtain ⟨y1, y2⟩ := List.mem_filter.mp hy
      have y3 : y ∉ bs := by simpa using y2
      rw [hf] at sp
      refine ⟨y, h2, ?_, cands_nm y1, fun hr => y3 (by rw [← hbs]; exact List.mem_append.mpr (.inl hr)), H2⟩
      have a0 : atI (P.str y :: ys.map P.str) 0 = some (.str y) := at_nat (i := 0) rfl
      rw [r__law_name]
      rcases ha with rfl | ⟨b, rfl⟩
      · simp [q__law_name, k__law_draw, e1, e2, e3, e4, l1, eb, hin, hm]
        simp [sp, a0, finS]
      · simp [q__law_name, k__law_draw, e1, e2, e3, e4, l1, eb, hin, hm]
        simp [sp, a0, finS]
  · have nm : Nm x := ⟨x1, by omega, by omega, fun hr => hm (by rw [← hbs]; exact List.mem_append.mpr (.inr hr))⟩
    have nw : x ∉ ws := fun hr => hm (by rw [← hbs]; exact List.mem_append.mpr (.inl hr))
    refine ⟨x, h2, ?_, nm, nw, H2⟩
    rw [r__law_name]
    rcases ha with rfl | ⟨b, rfl⟩
    · simp [q__law_name, k__law_draw, e1, e2, e3, e4, l1, eb, hin, hm, finS]
    · simp [q__law_name, k__law_draw, e1, e2, e3, e4, l1, eb, hin, hm, finS]
end Lk04

set_option Elab.async false
set_option linter.all false
set_option maxRecDepth 100000
set_option maxHeartbeats 2000000
namespace Lk04
open PySem PySem.Spec PyProof.Rows L2 Bt Bt.Pv
/-! ### is it a name -/
def lowB (x : Str) : Bool := x.cps.toList.all fun c => decide (97 ≤ c ∧ c ≤ 122)
def nmB : P → Bool
  | .str x => decide (1 ≤ x.length ∧ x.length ≤ 8) && lowB x && decide (x ∉ resv)
  | _ => false
theorem low_iff {x : Str} : lowB x = true ↔ Low x := by
  unfold lowB Low
  rw [List.all_eq_true]
  simp
theorem nm_iff {x : Str} : nmB (.str x) = true ↔ Nm x := by
  unfold nmB
  simp only [Bool.and_eq_true, decide_eq_true_eq, low_iff]
  constructor
  · rintro ⟨⟨⟨h1, h2⟩, h3⟩, h4⟩; exact ⟨h3, h1, h2, h4⟩
  · rintro ⟨h3, h1, h2, h4⟩; exact ⟨⟨⟨h1, h2⟩, h3⟩, h4⟩
/-- the loop over the letters -/
theorem letters_loop (Ψ : PGe) (L : PEm) (hL : ∀ pe, L pe = .ok (.v (.str lets)) pe) (a0 : Option Sl) : ∀ (cs : List Nat) (s : Option Sl), asgOk (some s) = true → ∃ s', forP (pNam 1) (pSeq (pIf (pTest (pOp (inT Ψ true) (pVar 1) L)) (pSeq (pRet (pC (.bl false))) (pNilS)) (pNilS)) (pNilS)) (cs.map fun c => P.str ⟨#[c]⟩) [a0, s] = (if cs.all (fun c => decide (97 ≤ c ∧ c ≤ 122)) then .ok .nx [a0, s'] else .ok (.rt (.v (.bl false))) [a0, s'])
  | [], s, _ => ⟨s, rfl⟩
  | c :: cs, s, hs => by
    by_cases hc : 97 ≤ c ∧ c ≤ 122
    · obtain ⟨s', ih⟩ := letters_loop Ψ L hL a0 cs (some (.sh (.str ⟨#[c]⟩))) rfl
      refine ⟨s', ?_⟩
      have e : inV (.str ⟨#[c]⟩) (.str lets) = some true := by rw [inV_sign, lets_in]; simp [hc]
      simp only [List.map_cons, f_cons, turn_nam]
      simp [hs, hL, e]
      simp at ih
      rw [ih]
      simp [hc]
    · refine ⟨some (.sh (.str ⟨#[c]⟩)), ?_⟩
      have e : inV (.str ⟨#[c]⟩) (.str lets) = some false := by rw [inV_sign, lets_in]; simp [hc]
      have hc' : decide (97 ≤ c ∧ c ≤ 122) = false := decide_eq_false hc
      simp only [List.map_cons, f_cons, turn_nam]
      rw [List.all_cons, hc']
      simp [hs, hL, e]
theorem len_str' {Ψ : PGe} {pe : PEnv} {x : Str} (h : x.length ≤ 16777216) : lenT Ψ [.sh (.str x)] pe = .ok (.v (.int x.length)) pe := len_at rfl (by simp [lenV, h])
theorem is_name_ok (k : Nat) {n : Nat} (hn : n ≤ 49) {p : P} (hp : okD n p = true) (hl : ∀ x, p = .str x → x.length ≤ 16777216) : runP d_is_name (Gk k) [.sh p] = .ok (.v (.bl (nmB p))) [none] := by
  rw [r_is_name]
  cases p with
  | str x =>
    have hx := hl x rfl
    have ho : PyData.strOk x = true := by unfold okD at hp; exact hp
    have hin : inV (.str x) (.tup (resv.map P.str)) = some (decide (x ∈ resv)) := by
      rw [(inV_dat (n := 0) (okD_str 0 ho) (okDs_strs resv_ok) (by decide)).2, memB_strs]
    simp only [resv, List.map_cons, List.map_nil] at hin
    obtain ⟨s', e⟩ := letters_loop (Gk k).Ψ (pGlob (Gk k).Ψ "LETTERS") (fun pe => g_LETTERS k pe) (some (.sh (.str x))) x.cps.toList none rfl
    have hf := for_items (pe := [some (.sh (.str x)), none]) (m := pIter (pVar 0)) (g := pNam 1) (b := pSeq (pIf (pTest (pOp (inT (Gk k).Ψ true) (pVar 1) (pGlob (Gk k).Ψ "LETTERS"))) (pSeq (pRet (pC (.bl false))) (pNilS)) (pNilS)) (pNilS)) (ps := signsP x) (pe1 := [some (.sh (.str x)), none]) (by simp)
    rw [show signsP x = x.cps.toList.map fun c => P.str ⟨#[c]⟩ from rfl, e] at hf
    have hf2 : (pFor (pIter (pVar 0)) (pNam 1) (pSeq (pIf (pTest (pOp (inT (Gk k).Ψ true) (pVar 1) (pGlob (Gk k).Ψ "LETTERS"))) (pSeq (pRet (pC (.bl false))) (pNilS)) (pNilS)) (pNilS))) [some (.sh (.str x)), none] = if lowB x then .ok .nx [some (.sh (.str x)), s'] else .ok (.rt (.v (.bl false))) [some (.sh (.str x)), s'] := hf
    by_cases h1 : 1 ≤ x.length ∧ x.length ≤ 8
    · have i1 : (1 : Int) ≤ x.length := by omega
      have i2 : (x.length : Int) ≤ 8 := by omega
      by_cases h2 : lowB x = true
      · by_cases h3 : x ∈ resv
        · have h3' := h3
          simp only [resv] at h3'
          simp [q_is_name, k_isinstance, k_len, g_str, g_LONGEST_NAME, len_str' hx, i1, i2, h1, nmB, h2, hf2, g_RESERVED, hin, h3, -List.mem_cons, h3']
        · have h3' := h3
          simp only [resv] at h3'
          simp [q_is_name, k_isinstance, k_len, g_str, g_LONGEST_NAME, len_str' hx, i1, i2, h1, nmB, h2, hf2, g_RESERVED, hin, h3, -List.mem_cons, h3']
      · simp at h2
        simp [q_is_name, k_isinstance, k_len, g_str, g_LONGEST_NAME, len_str' hx, i1, i2, h1, nmB, h2, hf2]
    · by_cases h3 : 1 ≤ x.length
      · have h4 : ¬ x.length ≤ 8 := fun h => h1 ⟨h3, h⟩
        have i1 : (1 : Int) ≤ x.length := by omega
        have i2 : ¬ (x.length : Int) ≤ 8 := by omega
        simp [q_is_name, k_isinstance, k_len, g_str, g_LONGEST_NAME, len_str' hx, i1, i2, h3, h4, nmB]
      · have h5 : x.length = 0 := by omega
        simp [q_is_name, k_isinstance, k_len, g_str, g_LONGEST_NAME, len_str' hx, h5, nmB]
  | non => simp [q_is_name, k_isinstance, g_str, nmB]
  | bl b => simp [q_is_name, k_isinstance, g_str, nmB]
  | int b => simp [q_is_name, k_isinstance, g_str, nmB]
  | tup b => simp [q_is_name, k_isinstance, g_str, nmB]
  | lst b => simp [q_is_name, k_isinstance, g_str, nmB]
  | _ => simp [okD] at hp
/-! ### the law's own equality -/
mutual
/-- data of depth at most n, no part longer than a million -/
def dat : Nat → P → Bool
  | _, .non => true
  | _, .bl _ => true
  | _, .int _ => true
  | _, .str x => PyData.strOk x && decide (x.length ≤ 1000000)
  | n + 1, .tup xs => dats n xs && decide (xs.length ≤ 1000000)
  | n + 1, .lst xs => dats n xs && decide (xs.length ≤ 1000000)
  | _, _ => false
def dats : Nat → List P → Bool
  | _, [] => true
  | n, p :: ps => dat n p && dats n ps
end
mutual
theorem dat_ok : ∀ (n : Nat) (p : P), dat n p = true → okD n p = true
  | _, .non, _ => by unfold okD; rfl
  | _, .bl _, _ => by unfold okD; rfl
  | _, .int _, _ => by unfold okD; rfl
  | _, .str x, h => by unfold dat at h; unfold okD; exact (Bool.and_eq_true_iff.mp h).1
  | 0, .tup _, h => by simp [dat] at h
  | 0, .lst _, h => by simp [dat] at h
  | n + 1, .tup xs, h => by unfold dat at h; unfold okD; exact dats_ok n xs (Bool.and_eq_true_iff.mp h).1
  | n + 1, .lst xs, h => by unfold dat at h; unfold okD; exact dats_ok n xs (Bool.and_eq_true_iff.mp h).1
  | _, .dic _, h => by simp [dat] at h
  | _, .ins _ _, h => by simp [dat] at h
  | _, .glo _, h => by simp [dat] at h
  | _, .ty _, h => by simp [dat] at h
  | _, .fz _, h => by simp [dat] at h
theorem dats_ok : ∀ (n : Nat) (ps : List P), dats n ps = true → okDs n ps = true
  | _, [], _ => by unfold okDs; rfl
  | n, p :: ps, h => by
    unfold dats at h
    obtain ⟨h1, h2⟩ := Bool.and_eq_true_iff.mp h
    unfold okDs
    rw [dat_ok n p h1, dats_ok n ps h2]
    rfl
end
theorem dats_iff {n : Nat} : ∀ {ps : List P}, dats n ps = true ↔ ∀ p ∈ ps, dat n p = true
  | [] => by simp [dats]
  | p :: ps => by simp [dats, dats_iff (ps := ps)]
mutual
def samB : P → P → Bool
  | .non, .non => true
  | .bl a, .bl b => a == b
  | .int a, .int b => a == b
  | .str a, .str b => a == b
  | .tup a, .tup b => samBs a b
  | .lst a, .lst b => samBs a b
  | _, _ => false
def samBs : List P → List P → Bool
  | [], [] => true
  | p :: ps, q :: qs => samB p q && samBs ps qs
  | _, _ => false
end
theorem samBs_len : ∀ {a b : List P}, a.length ≠ b.length → samBs a b = false
  | [], [], h => by simp at h
  | [], _ :: _, _ => by simp [samBs]
  | _ :: _, [], _ => by simp [samBs]
  | p :: a, q :: b, h => by
    unfold samBs
    rw [samBs_len (a := a) (b := b) (by simpa using h)]
    simp
/-- no place where they are unlike -/
theorem samBs_ix : ∀ {a b : List P}, a.length = b.length → (samBs a b = true ↔ ∀ (i : Nat) (p q : P), a[i]? = some p → b[i]? = some q → samB p q = true)
  | [], [], _ => by simp [samBs]
  | [], _ :: _, h => by simp at h
  | _ :: _, [], h => by simp at h
  | x :: a, y :: b, h => by
    unfold samBs
    rw [Bool.and_eq_true, samBs_ix (a := a) (b := b) (by simpa using h)]
    constructor
    · rintro ⟨h1, h2⟩ i p q e1 e2
      cases i with
      | zero => simp at e1 e2; subst e1 e2; exact h1
      | succ i => exact h2 i p q (by simpa using e1) (by simpa using e2)
    · intro hh
      exact ⟨hh 0 x y rfl rfl, fun i p q e1 e2 => hh (i + 1) p q (by simpa using e1) (by simpa using e2)⟩
theorem filter_none {α : Type} {f : α → Bool} {l : List α} : (l.filter f).length = 0 ↔ ∀ x ∈ l, f x = false := by
  rw [List.length_eq_zero_iff, List.filter_eq_nil_iff]
  simp
/-- the comprehension of what is unlike -/
theorem same_lc (k : Nat) (p q : P) (a b : List P) (hl : a.length = b.length) (hb : b.length ≤ 1000000) (va : ∀ (i : Nat) (x : P), a[i]? = some x → ixV p (.int i) = some (.v x)) (vb : ∀ (i : Nat) (x : P), b[i]? = some x → ixV q (.int i) = some (.v x)) (hq : ∀ pe, lenT (Gk (k + 1)).Ψ [.sh q] pe = .ok (.v (.int b.length)) pe)
    (ih : ∀ (i : Nat) (x y : P), a[i]? = some x → b[i]? = some y → runP d__law_same (Gk k) [.sh x, .sh y] = .ok (.v (.bl (samB x y))) [none, none]) :
    ∃ r : List P, (decide (r.length = 0) = samBs a b) ∧ pLc (pRange1 (pCall (Gk (k + 1)).Ψ "len" (pCons (pVar 1) (pNil)))) [3] (.one 3) (pNotT (pTru (pCall (Gk (k + 1)).Ψ "_law_same" (pCons (pOp oIx (pVar 0) (pVar 3)) (pCons (pOp oIx (pVar 1) (pVar 3)) (pNil)))))) (pVar 3) [some (.sh p), some (.sh q), none, none] = .ok (.o (.lst r)) [some (.sh p), some (.sh q), none, none] := by
  let c : P → Bool := fun z => match z with
    | .int i => (match a[i.toNat]?, b[i.toNat]? with
      | some x, some y => !samB x y
      | _, _ => false)
    | _ => false
  have key := lcP_on (own := [3]) (t := .one 3) (ts := pNotT (pTru (pCall (Gk (k + 1)).Ψ "_law_same" (pCons (pOp oIx (pVar 0) (pVar 3)) (pCons (pOp oIx (pVar 1) (pVar 3)) (pNil)))))) (e := pVar 3) (pe := [some (.sh p), some (.sh q), none, none]) (fun p => p) c (rangeP 0 b.length) [] (fun z hz acc hacc => by
    obtain ⟨i, hi⟩ := List.mem_iff_getElem?.mp hz
    obtain ⟨rfl, hi'⟩ := rangeP_at hi
    have ha : a[i]? = some a[i] := by simp [hl, hi']
    have hbb : b[i]? = some b[i] := by simp [hi']
    have r := ih i _ _ ha hbb
    have cc : c (.int i) = !samB a[i] b[i] := by
      show (match a[(i : Int).toNat]?, b[(i : Int).toNat]? with
        | some x, some y => !samB x y
        | _, _ => false) = _
      rw [Int.toNat_natCast, ha, hbb]
    rw [cc]
    cases hs : samB a[i] b[i] with
    | true =>
      rw [hs] at r
      exact lcT_no (pe2 := [some (.sh p), some (.sh q), none, some (.sh (.int i))]) (pe3 := [some (.sh p), some (.sh q), none, some (.sh (.int i))]) rfl (by simp [k__law_same, va i _ ha, vb i _ hbb, r])
    | false =>
      rw [hs] at r
      exact lcT_yes (pe2 := [some (.sh p), some (.sh q), none, some (.sh (.int i))]) (pe3 := [some (.sh p), some (.sh q), none, some (.sh (.int i))]) (pe4 := [some (.sh p), some (.sh q), none, some (.sh (.int i))]) (pe5 := [some (.sh p), some (.sh q), none, some (.sh (.int i))]) (tm := .v (.int i)) rfl (by simp [k__law_same, va i _ ha, vb i _ hbb, r]) (by simp) (by simp) (by simp; omega)) (by simp [rangeP_len]; omega)
  refine ⟨_, ?_, lc_items (ps := rangeP 0 b.length) (pe1 := [some (.sh p), some (.sh q), none, none]) (by simp [k_len, hq, rg_small (j := b.length) (by omega)]) rfl key⟩
  simp only [List.nil_append, List.map_id', List.length_map]
  have e : (((rangeP 0 b.length).filter c).length = 0) ↔ samBs a b = true := by
    rw [filter_none, samBs_ix hl]
    constructor
    · intro h i x y e1 e2
      have hi := get_lt e2
      have hm : P.int i ∈ rangeP 0 b.length := by
        unfold rangeP
        exact List.mem_map.mpr ⟨i, List.mem_range.mpr hi, by simp⟩
      have := h _ hm
      have cc : c (.int i) = !samB x y := by
        show (match a[(i : Int).toNat]?, b[(i : Int).toNat]? with
          | some x, some y => !samB x y
          | _, _ => false) = _
        rw [Int.toNat_natCast, e1, e2]
      rw [cc] at this
      simpa using this
    · intro h z hz
      obtain ⟨i, hi⟩ := List.mem_iff_getElem?.mp hz
      obtain ⟨rfl, hi'⟩ := rangeP_at hi
      have ha : a[i]? = some a[i] := by simp [hl, hi']
      have hbb : b[i]? = some b[i] := by simp [hi']
      show (match a[(i : Int).toNat]?, b[(i : Int).toNat]? with
        | some x, some y => !samB x y
        | _, _ => false) = false
      rw [Int.toNat_natCast, ha, hbb]
      simp [h i _ _ ha hbb]
  by_cases hs : samBs a b = true
  · rw [hs, decide_eq_true (e.mpr hs)]
  · have hs' : samBs a b = false := by simpa using hs
    rw [hs', decide_eq_false (fun h => hs (e.mp h))]
theorem ix_lstn {xs : List P} {i : Nat} {x : P} (h : xs[i]? = some x) : ixV (.lst xs) (.int i) = some (.v x) := by simp [at_nat h]
theorem ix_tupn {xs : List P} {i : Nat} {x : P} (h : xs[i]? = some x) : ixV (.tup xs) (.int i) = some (.v x) := by simp [at_nat h]
theorem eqV_str {x y : Str} (hx : PyData.strOk x = true) (hy : PyData.strOk y = true) : Pv.eqV (.str x) (.str y) = some (x == y) := by
  rw [eqV_dat (n := 0) (okD_str 0 hx) (okD_str 0 hy) (by decide), eqB_str]
@[simp] theorem eqV_bl (x y : Bool) : Pv.eqV (.bl x) (.bl y) = some (x == y) := (rfl)
theorem same_ok : ∀ (n k : Nat) (p q : P), dat n p = true → dat n q = true → runP d__law_same (Gk (k + n)) [.sh p, .sh q] = .ok (.v (.bl (samB p q))) [none, none] := by
  intro n
  have seqs : ∀ (k : Nat) (p q : P) (a b : List P), seqP p = some a → seqP q = some b → (∃ x y, (p = .tup x ∧ q = .tup y) ∨ (p = .lst x ∧ q = .lst y)) → a.length ≤ 1000000 → b.length ≤ 1000000 →
      (a.length = b.length → ∀ (i : Nat) (x y : P), a[i]? = some x → b[i]? = some y → runP d__law_same (Gk k) [.sh x, .sh y] = .ok (.v (.bl (samB x y))) [none, none]) → runP d__law_same (Gk (k + 1)) [.sh p, .sh q] = .ok (.v (.bl (samBs a b))) [none, none] := by
    intro k p q a b ea eb hk ha hb ih
    rw [r__law_same]
    by_cases hl : a.length = b.length
    · have hl' : (a.length : Int) = b.length := by omega
      rcases hk with ⟨x, y, ⟨rfl, rfl⟩ | ⟨rfl, rfl⟩⟩
      · cases ea; cases eb
        obtain ⟨r, h1, h2⟩ := same_lc k (.tup a) (.tup b) a b hl hb (fun i z h => ix_tupn h) (fun i z h => ix_tupn h) (fun pe => by simp) (ih hl)
        have h1' : ((r.length : Int) == 0) = samBs a b := by
          rw [← h1]
          by_cases hr : r.length = 0
          · simp [hr]
          · have : ((r.length : Int) == 0) = false := by simpa using hr
            rw [this, decide_eq_false hr]
        simp [q__law_same, k_isinstance, k_len, g_bool, g_int, g_str, g_dict, g_tuple, g_list, hl, h2, h1']
      · cases ea; cases eb
        obtain ⟨r, h1, h2⟩ := same_lc k (.lst a) (.lst b) a b hl hb (fun i z h => ix_lstn h) (fun i z h => ix_lstn h) (fun pe => by simp) (ih hl)
        have h1' : ((r.length : Int) == 0) = samBs a b := by
          rw [← h1]
          by_cases hr : r.length = 0
          · simp [hr]
          · have : ((r.length : Int) == 0) = false := by simpa using hr
            rw [this, decide_eq_false hr]
        simp [q__law_same, k_isinstance, k_len, g_bool, g_int, g_str, g_dict, g_tuple, g_list, hl, h2, h1']
    · have hl' : ¬ (a.length : Int) = b.length := by omega
      rw [samBs_len hl]
      rcases hk with ⟨x, y, ⟨rfl, rfl⟩ | ⟨rfl, rfl⟩⟩
      · cases ea; cases eb
        simp [q__law_same, k_isinstance, k_len, g_bool, g_int, g_str, g_dict, g_tuple, g_list, hl, hl']
      · cases ea; cases eb
        simp [q__law_same, k_isinstance, k_len, g_bool, g_int, g_str, g_dict, g_tuple, g_list, hl, hl']
  induction n with
  | zero =>
    intro k p q hp hq
    rw [r__law_same]
    cases q <;> first | (simp [dat] at hq; done) | skip
    all_goals (cases p <;> first | (simp [dat] at hp; done) | skip)
    all_goals try (simp [q__law_same, k_isinstance, g_bool, g_int, g_str, g_dict, g_tuple, g_list, samB]; done)
    rename_i y x
    simp [dat] at hp hq
    simp [q__law_same, k_isinstance, g_bool, g_int, g_str, g_dict, g_tuple, g_list, samB, eqV_str hp.1 hq.1]
  | succ n ih =>
    intro k p q hp hq
    cases q <;> first | (simp [dat] at hq; done) | skip
    all_goals (cases p <;> first | (simp [dat] at hp; done) | skip)
    all_goals try (rw [r__law_same]; simp [q__law_same, k_isinstance, g_bool, g_int, g_str, g_dict, g_tuple, g_list, samB]; done)
    · rename_i y x
      simp [dat] at hp hq
      rw [r__law_same]
      simp [q__law_same, k_isinstance, g_bool, g_int, g_str, g_dict, g_tuple, g_list, samB, eqV_str hp.1 hq.1]
    · rename_i y x
      simp [dat] at hp hq
      have := seqs (k + n) (.tup x) (.tup y) x y rfl rfl ⟨x, y, .inl ⟨rfl, rfl⟩⟩ hp.2 hq.2 fun hl i u v e1 e2 => ih k u v (dats_iff.mp hp.1 u (List.mem_of_getElem? e1)) (dats_iff.mp hq.1 v (List.mem_of_getElem? e2))
      rw [show samB (.tup x) (.tup y) = samBs x y by simp [samB]]
      exact this
    · rename_i y x
      simp [dat] at hp hq
      have := seqs (k + n) (.lst x) (.lst y) x y rfl rfl ⟨x, y, .inr ⟨rfl, rfl⟩⟩ hp.2 hq.2 fun hl i u v e1 e2 => ih k u v (dats_iff.mp hp.1 u (List.mem_of_getElem? e1)) (dats_iff.mp hq.1 v (List.mem_of_getElem? e2))
      rw [show samB (.lst x) (.lst y) = samBs x y by simp [samB]]
      exact this
end Lk04

set_option Elab.async false
set_option linter.all false
set_option maxRecDepth 100000
set_option maxHeartbeats 2000000
namespace Lk04
open PySem PySem.Spec PyProof.Rows L2 Bt Bt.Pv
/-! ### Columns -/
/-- the item at this place is no name, or stands twice -/
def badAt (ps : List P) (j : Nat) : Bool := match ps[j]? with
  | some p => !nmB p || memB p (ps.take j)
  | none => false
def dueP (ps : List P) : P := if ps.length = 0 ∨ 4 < ps.length then .int (-1) else match (List.range ps.length).find? (badAt ps) with
  | some j => .int j
  | none => .non
theorem find_some {n j : Nat} {f : Nat → Bool} (hj : j < n) (h1 : f j = true) (h2 : ∀ i, i < j → f i = false) : (List.range n).find? f = some j := by
  exact List.find?_range_eq_some.mpr ⟨h1, List.mem_range.mpr hj, fun i hi => by simp [h2 i hi]⟩
theorem find_no {n : Nat} {f : Nat → Bool} (h : ∀ i, i < n → f i = false) : (List.range n).find? f = none := by
  rw [List.find?_eq_none]
  intro x hx
  simp [h x (List.mem_range.mp hx)]
theorem dats_take {n : Nat} {ps : List P} (h : dats n ps = true) (i : Nat) : dats n (ps.take i) = true := dats_iff.mpr fun p hp => dats_iff.mp h p (List.mem_of_mem_take hp)
theorem in_take {n : Nat} (hn : n ≤ 49) {ps : List P} (h : dats n ps = true) {i : Nat} {p : P} (hp : ps[i]? = some p) : inV p (.lst (ps.take i)) = some (memB p (ps.take i)) ∧ inV p (.tup (ps.take i)) = some (memB p (ps.take i)) :=
  inV_dat (dat_ok n p (dats_iff.mp h p (List.mem_of_getElem? hp))) (dats_ok n _ (dats_take h i)) hn
/-- an argument that is a list -/
def ArgL (a : Sl) (ps : List P) : Prop := a = .sh (.lst ps) ∨ ∃ b, a = .li true b (.lst ps)
abbrev badC (q : P) : PX := ⟨"BadColumns", [("index", q)]⟩
abbrev colsV (ps : List P) : P := .ins "Columns" [("names", .tup ps)]
/-- what Columns(*ps) gives -/
def colsR (ps : List P) (fin : List (Option Sl)) : PF := match dueP ps with
  | .non => .ok (.o (colsV ps)) fin
  | q => .exc (badC q) fin
theorem init_ok (k : Nat) {n : Nat} (hn : n ≤ 49) {ps : List P} (h : dats n ps = true) (hl : ps.length ≤ 1000000) :
    runP d_Columnsu_initu (Gk (k + 1)) (.li true false (.ins "Columns" []) :: ps.map Sl.sh) = (match dueP ps with
      | .non => .ok (.v .non) [some (.li true false (colsV ps))]
      | q => .exc (badC q) [some (.li true false (.ins "Columns" []))]) := by
  have loop := forP_range (n := ps.length) (g := pNam 2) (b := pSeq (pIf (pOrT (pNotT (pTru (pCall (Gk (k + 1)).Ψ "is_name" (pCons (pOp oIx (pVar 1) (pVar 2)) (pNil))))) (pTest (pOp (inT (Gk (k + 1)).Ψ false) (pOp oIx (pVar 1) (pVar 2)) (pSl (pVar 1) pNoPart (pPart (pVar 2)))))) (pSeq (pRaise "BadColumns" ["index"] (pCons (pVar 2) (pNil))) (pNilS)) (pNilS)) (pNilS))
    (fun i pe => (∀ j, j < i → badAt ps j = false) ∧ ∃ s, pe = [some (.li true false (.ins "Columns" [])), some (.sh (.tup ps)), s] ∧ asgOk (some s) = true)
    (fun q => ((∀ j, j < ps.length → badAt ps j = false) ∧ ∃ s, q = .ok .nx [some (.li true false (.ins "Columns" [])), some (.sh (.tup ps)), s]) ∨ ∃ j s, j < ps.length ∧ badAt ps j = true ∧ (∀ i, i < j → badAt ps i = false) ∧ q = .exc (badC (.int (j : Nat))) [some (.li true false (.ins "Columns" [])), some (.sh (.tup ps)), s])
    (fun pe ⟨h1, s, h2, _⟩ => .inl ⟨h1, s, by rw [h2]⟩)
    (fun i pe hi ⟨h1, s, h2, h3⟩ kk => by
      subst h2
      have hp : ps[i]? = some ps[i] := by simp [hi]
      obtain ⟨m1, m2⟩ := in_take hn h hp
      have hd := dats_iff.mp h _ (List.mem_of_getElem? hp)
      have g1 := is_name_ok k hn (dat_ok n _ hd) (fun x e => by rw [e] at hd; simp [dat] at hd; omega)
      have hb : badAt ps i = (!nmB ps[i] || memB ps[i] (ps.take i)) := by unfold badAt; rw [hp]
      have hx : atI ps (i : Int) = some ps[i] := at_nat hp
      cases hg : nmB ps[i] with
      | false =>
        rw [hg] at g1
        right; right
        refine ⟨i, some (.sh (.int i)), hi, by rw [hb, hg]; rfl, h1, ?_⟩
        simp [turn_nam, h3, k_is_name, hx, g1]
      | true =>
        rw [hg] at g1
        cases hm : memB ps[i] (ps.take i) with
        | true =>
          rw [hm] at m2
          right; right
          refine ⟨i, some (.sh (.int i)), hi, by rw [hb, hg, hm]; rfl, h1, ?_⟩
          simp [turn_nam, h3, k_is_name, hx, g1, cut_take, m2]
        | false =>
          rw [hm] at m2
          left
          refine ⟨[some (.li true false (.ins "Columns" [])), some (.sh (.tup ps)), some (.sh (.int i))], ?_, fun j hj => ?_, _, rfl, rfl⟩
          · simp [turn_nam, h3, k_is_name, hx, g1, cut_take, m2]
          · by_cases e : j < i
            · exact h1 j e
            · have : j = i := by omega
              subst this
              rw [hb, hg, hm]; rfl)
    (pe := [some (.li true false (.ins "Columns" [])), some (.sh (.tup ps)), none]) ⟨fun j hj => by omega, none, rfl, rfl⟩
  have hf : pFor (pRange1 (pCall (Gk (k + 1)).Ψ "len" (pCons (pVar 1) (pNil)))) (pNam 2) (pSeq (pIf (pOrT (pNotT (pTru (pCall (Gk (k + 1)).Ψ "is_name" (pCons (pOp oIx (pVar 1) (pVar 2)) (pNil))))) (pTest (pOp (inT (Gk (k + 1)).Ψ false) (pOp oIx (pVar 1) (pVar 2)) (pSl (pVar 1) pNoPart (pPart (pVar 2)))))) (pSeq (pRaise "BadColumns" ["index"] (pCons (pVar 2) (pNil))) (pNilS)) (pNilS)) (pNilS)) [some (.li true false (.ins "Columns" [])), some (.sh (.tup ps)), none] = _ := for_items (ps := rangeP 0 ps.length) (pe1 := [some (.li true false (.ins "Columns" [])), some (.sh (.tup ps)), none]) (by simp [k_len, rg_small (j := ps.length) (by omega)])
  rw [r_Columnsu_initu (k + 1) _ ps (by simp; omega)]
  unfold dueP
  by_cases h0 : ps.length = 0 ∨ 4 < ps.length
  · rw [if_pos h0]
    by_cases hz : ps.length = 0
    · simp [q_Columnsu_initu, k_len, g_MOST_COLUMNS, hz]
    · have h4 : ¬ (ps.length : Int) ≤ 4 := by omega
      have h4' : (1 : Int) ≤ ps.length := by omega
      simp [q_Columnsu_initu, k_len, g_MOST_COLUMNS, h4, h4']
  · rw [if_neg h0]
    have h4 : (ps.length : Int) ≤ 4 := by omega
    have h4' : (1 : Int) ≤ ps.length := by omega
    rcases loop with ⟨l1, s, l2⟩ | ⟨j, s, l1, l2, l3, l4⟩
    · rw [l2] at hf
      rw [find_no l1]
      simp [q_Columnsu_initu, k_len, k_tuple, g_MOST_COLUMNS, h4, h4', hf, fl_Columns_names, putP]
    · rw [l4] at hf
      rw [find_some l1 l2 l3]
      simp [q_Columnsu_initu, k_len, g_MOST_COLUMNS, h4, h4', hf]
theorem make_ok (k : Nat) {n : Nat} (hn : n ≤ 49) {ps : List P} (h : dats n ps = true) (hl : ps.length ≤ 1000000) : (makeP "Columns" ⟨[true], runP d_Columnsu_initu (Gk (k + 1))⟩).run (ps.map Sl.sh) = colsR ps [] := by
  have i := init_ok k hn h hl
  unfold colsR
  have hd : (∃ d, dueP ps = .int d) ∨ dueP ps = .non := by
    unfold dueP
    split
    · exact .inl ⟨_, rfl⟩
    · split
      · exact .inl ⟨_, rfl⟩
      · exact .inr rfl
  rcases hd with ⟨d, hd⟩ | hd
  · rw [hd] at i ⊢
    exact mk_exc (f := ⟨[true], runP d_Columnsu_initu (Gk (k + 1))⟩) i
  · rw [hd] at i ⊢
    exact mk_ok (f := ⟨[true], runP d_Columnsu_initu (Gk (k + 1))⟩) i
theorem due_cases (ps : List P) : (∃ d, dueP ps = .int d) ∨ dueP ps = .non := by
  unfold dueP
  split
  · exact .inl ⟨_, rfl⟩
  · split
    · exact .inl ⟨_, rfl⟩
    · exact .inr rfl
theorem columns_ok (k : Nat) {n : Nat} (hn : n ≤ 49) {ps : List P} (h : dats n ps = true) (h1 : 1 ≤ ps.length) (h2 : ps.length ≤ 4) {a0 : Sl} (ha : ArgL a0 ps) : runP d__law_columns (Gk (k + 2)) [a0] = colsR ps [finS a0] := by
  have mk := make_ok k hn h (by omega)
  rw [r__law_columns]
  rcases due_cases ps with ⟨dd, hd⟩ | hd
  · simp only [colsR, hd] at mk ⊢
    rcases ps with _ | ⟨a, _ | ⟨b, _ | ⟨c, _ | ⟨d, _ | ⟨e, r⟩⟩⟩⟩⟩
    · simp at h1
    · skip
      have x0 : atI [a] 0 = some a := rfl
      simp only [List.map_cons, List.map_nil] at mk
      rcases ha with rfl | ⟨b', rfl⟩ <;> simp [q__law_columns, k_len, len_l, k_Columns, x0, mk, finS]
    · skip
      have x0 : atI [a, b] 0 = some a := rfl
      have x1 : atI [a, b] 1 = some b := rfl
      simp only [List.map_cons, List.map_nil] at mk
      rcases ha with rfl | ⟨b', rfl⟩ <;> simp [q__law_columns, k_len, len_l, k_Columns, x0, x1, mk, finS]
    · skip
      have x0 : atI [a, b, c] 0 = some a := rfl
      have x1 : atI [a, b, c] 1 = some b := rfl
      have x2 : atI [a, b, c] 2 = some c := rfl
      simp only [List.map_cons, List.map_nil] at mk
      rcases ha with rfl | ⟨b', rfl⟩ <;> simp [q__law_columns, k_len, len_l, k_Columns, x0, x1, x2, mk, finS]
    · skip
      have x0 : atI [a, b, c, d] 0 = some a := rfl
      have x1 : atI [a, b, c, d] 1 = some b := rfl
      have x2 : atI [a, b, c, d] 2 = some c := rfl
      have x3 : atI [a, b, c, d] 3 = some d := rfl
      simp only [List.map_cons, List.map_nil] at mk
      rcases ha with rfl | ⟨b', rfl⟩ <;> simp [q__law_columns, k_len, len_l, k_Columns, x0, x1, x2, x3, mk, finS]
    · simp at h2
  · simp only [colsR, hd] at mk ⊢
    rcases ps with _ | ⟨a, _ | ⟨b, _ | ⟨c, _ | ⟨d, _ | ⟨e, r⟩⟩⟩⟩⟩
    · simp at h1
    · skip
      have x0 : atI [a] 0 = some a := rfl
      simp only [List.map_cons, List.map_nil] at mk
      rcases ha with rfl | ⟨b', rfl⟩ <;> simp [q__law_columns, k_len, len_l, k_Columns, x0, mk, finS]
    · skip
      have x0 : atI [a, b] 0 = some a := rfl
      have x1 : atI [a, b] 1 = some b := rfl
      simp only [List.map_cons, List.map_nil] at mk
      rcases ha with rfl | ⟨b', rfl⟩ <;> simp [q__law_columns, k_len, len_l, k_Columns, x0, x1, mk, finS]
    · skip
      have x0 : atI [a, b, c] 0 = some a := rfl
      have x1 : atI [a, b, c] 1 = some b := rfl
      have x2 : atI [a, b, c] 2 = some c := rfl
      simp only [List.map_cons, List.map_nil] at mk
      rcases ha with rfl | ⟨b', rfl⟩ <;> simp [q__law_columns, k_len, len_l, k_Columns, x0, x1, x2, mk, finS]
    · skip
      have x0 : atI [a, b, c, d] 0 = some a := rfl
      have x1 : atI [a, b, c, d] 1 = some b := rfl
      have x2 : atI [a, b, c, d] 2 = some c := rfl
      have x3 : atI [a, b, c, d] 3 = some d := rfl
      simp only [List.map_cons, List.map_nil] at mk
      rcases ha with rfl | ⟨b', rfl⟩ <;> simp [q__law_columns, k_len, len_l, k_Columns, x0, x1, x2, x3, mk, finS]
    · simp at h2
theorem due_of {xs : List Str} (hx : ∀ x ∈ xs, Nm x) (nd : xs.Nodup) (l1 : 1 ≤ xs.length) (l4 : xs.length ≤ 4) : dueP (xs.map P.str) = .non := by
  unfold dueP
  rw [if_neg (by rw [List.length_map]; omega), find_no]
  intro i hi
  have hi' : i < xs.length := by simpa using hi
  have e : (xs.map P.str)[i]? = some (.str xs[i]) := by simp [hi']
  unfold badAt
  rw [e]
  have h1 : nmB (.str xs[i]) = true := nm_iff.mpr (hx _ (List.getElem_mem hi'))
  have h2 : memB (.str xs[i]) ((xs.map P.str).take i) = false := by
    rw [← List.map_take, memB_strs, decide_eq_false]
    intro hm
    obtain ⟨j, hj⟩ := List.mem_iff_getElem?.mp hm
    have hji : j < i := by have := get_lt hj; simp at this; omega
    rw [List.getElem?_take_of_lt hji] at hj
    have hjl := get_lt hj
    have := List.pairwise_iff_getElem.mp nd j i hjl hi' hji
    apply this
    have e2 : xs[j]? = some xs[j] := by simp [hjl]
    rw [e2] at hj
    exact Option.some.inj hj
  simp [h1, h2]
end Lk04

set_option Elab.async false
set_option linter.all false
set_option maxRecDepth 100000
set_option maxHeartbeats 2000000
namespace Lk04
open PySem PySem.Spec PyProof.Rows L2 Bt Bt.Pv
/-! ### names, numbers, literals -/
/-- a loop over range(n) -/
theorem for_rng {m : PIm} {g : PGm} {b : PSm} {pe pe1 : PEnv} {n : Nat} (hm : m pe = .ok (.items (rangeP 0 n)) pe1) (I : Nat → PEnv → Prop) (Z : PR PFl → Prop) (hn : ∀ pe, I n pe → Z (.ok .nx pe))
    (st : ∀ i pe, i < n → I i pe → ∀ k : PSm, (∃ pe', turnP g b (.int i) k pe = k pe' ∧ I (i + 1) pe') ∨ Z (turnP g b (.int i) k pe)) (h : I 0 pe1) : Z (pFor m g b pe) := by
  rw [for_items hm]
  exact forP_range I Z hn st h
/-- a loop that goes on to its end -/
theorem for_end {m : PIm} {g : PGm} {b : PSm} {pe pe1 : PEnv} {n : Nat} (hm : m pe = .ok (.items (rangeP 0 n)) pe1) (I : Nat → PEnv → Prop)
    (st : ∀ i pe, i < n → I i pe → ∀ k : PSm, ∃ pe', turnP g b (.int i) k pe = k pe' ∧ I (i + 1) pe') (h : I 0 pe1) : ∃ pe', pFor m g b pe = .ok .nx pe' ∧ I n pe' :=
  for_rng hm I (fun q => ∃ pe', q = .ok .nx pe' ∧ I n pe') (fun pe h => ⟨pe, rfl, h⟩) (fun i pe hi h k => .inl (st i pe hi h k)) h
theorem Nm.ok {x : Str} (h : Nm x) : PyData.strOk x = true := h.low.ok
theorem names_ok (k : Nat) {h : P} (H : HandOk h) (n : Nat) (hn : n ≤ 5) : ∃ (ws : List Str) (h' : P),
    runP d__law_names (Gk (k + 4)) [.li true false h, .sh (.int n)] = .ok (.o (.lst (ws.map P.str))) [some (.li true false h'), none] ∧ ws.length = n ∧ ws.Nodup ∧ (∀ x ∈ ws, Nm x) ∧ HandOk h' := by
  rw [r__law_names]
  simp [q__law_names]
  generalize hF : pFor _ _ _ _ = F
  have hz : ∃ pe', F = .ok .nx pe' ∧ ∃ (ws : List Str) (h' : P) (s : Option Sl), pe' = [some (.li true false h'), some (.sh (.int n)), some (.li false false (.lst (ws.map P.str))), s] ∧ asgOk (some s) = true ∧ ws.length = n ∧ ws.Nodup ∧ (∀ x ∈ ws, Nm x) ∧ HandOk h' := by
    rw [← hF]
    refine for_end (n := n) (by simp [rg_small (j := n) (by omega)] <;> rfl) (fun i pe' => ∃ (ws : List Str) (h' : P) (s : Option Sl), pe' = [some (.li true false h'), some (.sh (.int n)), some (.li false false (.lst (ws.map P.str))), s] ∧ asgOk (some s) = true ∧ ws.length = i ∧ ws.Nodup ∧ (∀ x ∈ ws, Nm x) ∧ HandOk h') ?_ ⟨[], h, none, rfl, rfl, rfl, List.nodup_nil, by simp, H⟩
    rintro i pe hi ⟨ws, h1, s, rfl, hs, hl, hd, hw, H1⟩ kk
    obtain ⟨x, h2, e, hx, hx', H2⟩ := name_ok k H1 (ws := ws) (fun x hx => (hw x hx).ok) (by omega) (a1 := .li true false (.lst (ws.map P.str))) (.inr ⟨_, rfl⟩)
    have hl' : ws.length < 16777216 := by omega
    refine ⟨[some (.li true false h2), some (.sh (.int n)), some (.li false false (.lst ((ws ++ [x]).map P.str))), some (.sh (.int i))], ?_, ws ++ [x], h2, _, rfl, rfl, by simp [hl], ?_, ?_, H2⟩
    · simp [turn_nam, hs, k__law_name, e, finS, hl']
    · rw [List.nodup_append]
      refine ⟨hd, by simp, fun a ha b hb => ?_⟩
      rw [List.mem_singleton.mp hb]
      rintro rfl
      exact hx' ha
    · intro y hy
      rcases List.mem_append.mp hy with hy | hy
      · exact hw y hy
      · rw [List.mem_singleton.mp hy]; exact hx
  obtain ⟨pe', e, ws, h', s, rfl, hs, hl, hd, hw, H'⟩ := hz
  exact ⟨ws, h', by rw [e]; simp, hl, hd, hw, H'⟩
theorem unit_ok (k : Nat) {h : P} (H : HandOk h) : ∃ (u : Int) (h' : P), runP d__law_unit (Gk (k + 2)) [.li true false h] = .ok (.v (.int u)) [some (.li true false h')] ∧ HandOk h' := by
  obtain ⟨r, h1, e1, r0, r1, H1⟩ := draw_ok k (many := 5) H (by decide) (by decide)
  obtain ⟨s, h2, e2, s0, s1, H2⟩ := draw_ok k (many := 1000000) H1 (by decide) (by decide)
  have c1 : CPow 10 12 := by unfold CPow; decide
  have c2 : CPow 10 60 := by unfold CPow; decide
  have c3 : CPow 10 6 := by unfold CPow; decide
  rw [r__law_unit]
  by_cases h3 : r = 3
  · exact ⟨_, h1, by simp [q__law_unit, k__law_draw, e1, h3, c1]; rfl, H1⟩
  · by_cases h4 : r = 4
    · exact ⟨_, h2, by simp [q__law_unit, k__law_draw, e1, h3, h4, c2, c3, e2]; rfl, H2⟩
    · exact ⟨_, h1, by simp [q__law_unit, k__law_draw, e1, h3, h4]; rfl, H1⟩
theorem number_ok (k : Nat) {h : P} (H : HandOk h) (u : Int) : ∃ (z : Int) (h' : P), runP d__law_number (Gk (k + 2)) [.li true false h, .sh (.int u)] = .ok (.v (.int z)) [some (.li true false h'), none] ∧ HandOk h' := by
  obtain ⟨r, h1, e1, r0, r1, H1⟩ := draw_ok k (many := 7) H (by decide) (by decide)
  obtain ⟨s, h2, e2, s0, s1, H2⟩ := draw_ok k (many := 3) H1 (by decide) (by decide)
  have c := cmulR (i := u) (j := r - 3) (by omega) (by omega)
  rw [r__law_number]
  exact ⟨_, h2, by simp [q__law_number, k__law_draw, e1, e2, c]; rfl, H2⟩

/-- the terms: "" and the names -/
abbrev terms (ws : List Str) : List Str := "" :: ws
theorem terms_nd {ws : List Str} (hd : ws.Nodup) (hw : ∀ x ∈ ws, Nm x) : (terms ws).Nodup := by
  refine List.nodup_cons.mpr ⟨fun h => ?_, hd⟩
  have h1 := (hw _ h).l0
  have h2 : (Str.ofString "").length = 0 := by decide +kernel
  omega
theorem str0_ok : PyData.strOk (Str.ofString "") = true := by decide +kernel
theorem terms_ok {ws : List Str} (hw : ∀ x ∈ ws, Nm x) : ∀ x ∈ terms ws, PyData.strOk x = true := by
  intro x hx
  rcases List.mem_cons.mp hx with rfl | hx
  · exact str0_ok
  · exact (hw x hx).ok
theorem at_strs {ws : List Str} {i : Int} (h0 : 0 ≤ i) (h1 : i < ws.length) : ∃ (j : Nat) (hj : j < ws.length), i = j ∧ atI (ws.map P.str) i = some (.str ws[j]) := by
  obtain ⟨j, rfl⟩ := Int.eq_ofNat_of_zero_le h0
  have hj : j < ws.length := by omega
  exact ⟨j, hj, rfl, at_nat (by simp [hj])⟩
theorem nd_inj {α : Type} {l : List α} (h : l.Nodup) {i j : Nat} (hi : i < l.length) (hj : j < l.length) (e : l[i] = l[j]) : i = j := by
  have h1 := List.pairwise_iff_getElem.mp h
  rcases Nat.lt_trichotomy i j with hl | hl | hl
  · exact absurd e (h1 i j hi hj hl)
  · exact hl
  · exact absurd e.symm (h1 j i hj hi hl)
/-- a literal over these names -/
def litP (a b : Str) (z : Int) : P := .tup [.str a, .str b, .int z]
theorem literal_ok (k : Nat) {h : P} (H : HandOk h) {ws : List Str} (w0 : 1 ≤ ws.length) (w1 : ws.length ≤ 5) (hd : ws.Nodup) (hw : ∀ x ∈ ws, Nm x) (u : Int) {a1 : Sl} (ha : ArgL a1 (ws.map P.str)) :
    ∃ (a b : Str) (z : Int) (h' : P), runP d__law_literal (Gk (k + 3)) [.li true false h, a1, .sh (.int u)] = .ok (.v (litP a b z)) [some (.li true false h'), finS a1, none] ∧ a ∈ terms ws ∧ b ∈ terms ws ∧ a ≠ b ∧ HandOk h' := by
  have ht : (terms ws).length = ws.length + 1 := by simp
  have nd := terms_nd hd hw
  obtain ⟨r, h1, e1, r0, r1, H1⟩ := draw_ok (k + 1) (many := ((ws.length : Nat) : Int) + 1) H (by omega) (by omega)
  obtain ⟨s, h2, e2, s0, s1, H2⟩ := draw_ok (k + 1) (many := ((ws.length : Nat) : Int)) H1 (by omega) (by omega)
  obtain ⟨z, h3, e3, H3⟩ := number_ok k H2 u
  obtain ⟨i, hi, ei, ai⟩ := at_strs (ws := terms ws) r0 (by omega)
  have l1 : 1 + ws.length ≤ 16777216 := by omega
  have l2 : ((ws.length : Nat) : Int) + 1 - 1 = ws.length := by omega
  simp only [List.map_cons] at ai
  rw [r__law_literal]
  by_cases hc : r ≤ s
  · obtain ⟨j, hj, ej, aj⟩ := at_strs (ws := terms ws) (i := s + 1) (by omega) (by omega)
    simp only [List.map_cons] at aj
    refine ⟨(terms ws)[i], (terms ws)[j], z, h3, ?_, List.getElem_mem hi, List.getElem_mem hj, fun e => ?_, H3⟩
    · rcases ha with rfl | ⟨b, rfl⟩ <;> simp [q__law_literal, k_list, k_len, len_l, k__law_draw, k__law_number, e1, e2, e3, l1, l2, hc, ai, aj, finS, litP]
    · have := nd_inj nd hi hj e
      omega
  · obtain ⟨j, hj, ej, aj⟩ := at_strs (ws := terms ws) (i := s) (by omega) (by omega)
    simp only [List.map_cons] at aj
    refine ⟨(terms ws)[i], (terms ws)[j], z, h3, ?_, List.getElem_mem hi, List.getElem_mem hj, fun e => ?_, H3⟩
    · rcases ha with rfl | ⟨b, rfl⟩ <;> simp [q__law_literal, k_list, k_len, len_l, k__law_draw, k__law_number, e1, e2, e3, l1, l2, hc, ai, aj, finS, litP]
    · have := nd_inj nd hi hj e
      omega
abbrev Tri := Str × Str × Int
def litT (t : Tri) : P := litP t.1 t.2.1 t.2.2
/-- a literal of these columns -/
def LitOk (ws : List Str) (t : Tri) : Prop := t.1 ∈ terms ws ∧ t.2.1 ∈ terms ws ∧ t.1 ≠ t.2.1
def LitsOk (ws : List Str) (ts : List Tri) : Prop := ∀ t ∈ ts, LitOk ws t
theorem eqB_lit (t u : Tri) : eqB (litT t) (litT u) = decide (t = u) := by
  obtain ⟨a, b, z⟩ := t
  obtain ⟨c, d, y⟩ := u
  rw [Bool.eq_iff_iff]
  simp [litT, litP]
theorem memB_lits (t : Tri) : ∀ ts : List Tri, memB (litT t) (ts.map litT) = decide (t ∈ ts)
  | [] => by simp [memB]
  | x :: ts => by
    have ih := memB_lits t ts
    unfold memB at ih ⊢
    simp only [List.map_cons, List.any_cons, ih, eqB_lit, List.mem_cons]
    by_cases h : x = t
    · simp [h]
    · have h' : ¬ t = x := fun e => h e.symm
      simp [h, h']
theorem LitOk.okD {ws : List Str} (hw : ∀ x ∈ ws, Nm x) {t : Tri} (h : LitOk ws t) : okD 1 (litT t) = true := by
  have h1 := terms_ok hw _ h.1
  have h2 := terms_ok hw _ h.2.1
  simp [litT, litP, Pv.okD, okDs, h1, h2]
theorem lits_okD {ws : List Str} (hw : ∀ x ∈ ws, Nm x) {ts : List Tri} (h : LitsOk ws ts) : okDs 1 (ts.map litT) = true := by
  rw [okDs_iff]
  intro p hp
  obtain ⟨t, ht, rfl⟩ := List.mem_map.mp hp
  exact (h t ht).okD hw
theorem pool_ok (k : Nat) {h : P} (H : HandOk h) {ws : List Str} (w0 : 1 ≤ ws.length) (w1 : ws.length ≤ 5) (hd : ws.Nodup) (hw : ∀ x ∈ ws, Nm x) (n : Nat) (n0 : 1 ≤ n) (hn : n ≤ 1000) (u : Int) {a1 : Sl} (ha : ArgL a1 (ws.map P.str)) :
    ∃ (ts : List Tri) (h' : P), runP d__law_pool (Gk (k + 4)) [.li true false h, a1, .sh (.int n), .sh (.int u)] = .ok (.o (.lst (ts.map litT))) [some (.li true false h'), finS a1, none, none] ∧ ts.Nodup ∧ LitsOk ws ts ∧ 1 ≤ ts.length ∧ ts.length ≤ n ∧ HandOk h' := by
  rw [r__law_pool]
  simp [q__law_pool]
  generalize hF : pFor _ _ _ _ = F
  have hz : ∃ pe', F = .ok .nx pe' ∧ ∃ (ts : List Tri) (h' : P) (s s' : Option Sl), pe' = [some (.li true false h'), some a1, some (.sh (.int n)), some (.sh (.int u)), some (.li false false (.lst (ts.map litT))), s, s'] ∧ asgOk (some s) = true ∧ asgOk (some s') = true ∧ ts.Nodup ∧ LitsOk ws ts ∧ (1 ≤ n → 1 ≤ ts.length) ∧ ts.length ≤ n ∧ HandOk h' := by
    rw [← hF]
    refine for_end (n := n) (by simp [rg_small (j := n) (by omega)] <;> rfl) (fun i pe' => ∃ (ts : List Tri) (h' : P) (s s' : Option Sl), pe' = [some (.li true false h'), some a1, some (.sh (.int n)), some (.sh (.int u)), some (.li false false (.lst (ts.map litT))), s, s'] ∧ asgOk (some s) = true ∧ asgOk (some s') = true ∧ ts.Nodup ∧ LitsOk ws ts ∧ (1 ≤ i → 1 ≤ ts.length) ∧ ts.length ≤ i ∧ HandOk h') ?_ ⟨[], h, none, none, rfl, rfl, rfl, List.nodup_nil, fun t ht => by simp at ht, by omega, by simp, H⟩
    rintro i pe hi ⟨ts, h1, s, s', rfl, hs, hs', td, tw, t0, t1, H1⟩ kk
    obtain ⟨a, b, z, h2, e, m1, m2, m3, H2⟩ := literal_ok k H1 w0 w1 hd hw u ha
    have hm := (inV_dat (n := 1) (p := litP a b z) (xs := ts.map litT) (LitOk.okD (t := (a, b, z)) hw ⟨m1, m2, m3⟩) (lits_okD hw tw) (by decide)).1
    have hm2 := memB_lits (a, b, z) ts
    rw [show litT (a, b, z) = litP a b z from rfl] at hm2
    rw [hm2] at hm
    have hl' : ts.length < 16777216 := by omega
    by_cases hi : (a, b, z) ∈ ts
    · refine ⟨[some (.li true false h2), some a1, some (.sh (.int n)), some (.sh (.int u)), some (.li false false (.lst (ts.map litT))), some (.sh (.int i)), some (.sh (litP a b z))], ?_, ts, h2, _, _, rfl, rfl, rfl, td, tw, fun _ => List.length_pos_of_mem hi, by omega, H2⟩
      rcases ha with rfl | ⟨b, rfl⟩ <;> simp [turn_nam, hs, hs', k__law_literal, e, finS, hm, hi]
    · refine ⟨[some (.li true false h2), some a1, some (.sh (.int n)), some (.sh (.int u)), some (.li false false (.lst ((ts ++ [(a, b, z)]).map litT))), some (.sh (.int i)), some (.sh (litP a b z))], ?_, ts ++ [(a, b, z)], h2, _, _, rfl, rfl, rfl, ?_, ?_, by simp, by simp; omega, H2⟩
      · rcases ha with rfl | ⟨b, rfl⟩ <;> simp [turn_nam, hs, hs', k__law_literal, e, finS, hm, hi, hl', litT]
      · rw [List.nodup_append]
        refine ⟨td, by simp, fun x hx y hy => ?_⟩
        rw [List.mem_singleton.mp hy]
        rintro rfl
        exact hi hx
      · intro y hy
        rcases List.mem_append.mp hy with hy | hy
        · exact tw y hy
        · rw [List.mem_singleton.mp hy]; exact ⟨m1, m2, m3⟩
  obtain ⟨pe', e, ts, h', s, s', rfl, hs, hs', td, tw, t0, t1, H'⟩ := hz
  refine ⟨ts, h', ?_, td, tw, t0 n0, t1, H'⟩
  rw [e]
  rcases ha with rfl | ⟨b, rfl⟩ <;> simp [finS]
end Lk04

set_option Elab.async false
set_option linter.all false
set_option maxRecDepth 100000
set_option maxHeartbeats 2000000
namespace Lk04
open PySem PySem.Spec PyProof.Rows L2 Bt Bt.Pv
/-! ### the world: names, pool, codes, room -/
/-- how many: 1 + draw -/
theorem some_ok (k : Nat) {h : P} (H : HandOk h) (m : Nat) (m0 : 1 ≤ m) (m1 : m ≤ 1000) : ∃ (n : Nat) (h' : P) (r : Int), runP d__law_draw (Gk (k + 1)) [.li true false h, .sh (.int m)] = .ok (.v (.int r)) [some (.li true false h'), none] ∧ 1 + r = n ∧ 1 ≤ n ∧ n ≤ m ∧ HandOk h' := by
  obtain ⟨r, h1, e1, r0, r1, H1⟩ := draw_ok k (many := m) H (by omega) (by omega)
  exact ⟨(1 + r).toNat, h1, r, e1, by omega, by omega, by omega, H1⟩
theorem world_ok (k : Nat) {h : P} (H : HandOk h) (c l : Nat) (c0 : 1 ≤ c) (c1 : c ≤ 5) (l0 : 1 ≤ l) (l1 : l ≤ 1000) (u : Int) (rm : List P) :
    ∃ (ws : List Str) (ts : List Tri) (cs : List Str) (h' : P), runP d__law_world (Gk (k + 5)) [.li true false h, .sh (.int c), .sh (.int l), .sh (.int u), .sh (.lst rm)] = .ok (.o (.lst [.lst (ws.map P.str), .lst (ts.map litT), .lst (cs.map P.str), .lst rm])) [some (.li true false h'), none, none, none, none] ∧
    1 ≤ ws.length ∧ ws.length ≤ c ∧ ws.Nodup ∧ (∀ x ∈ ws, Nm x) ∧ ts.Nodup ∧ LitsOk ws ts ∧ 1 ≤ ts.length ∧ ts.length ≤ l ∧ 1 ≤ cs.length ∧ cs.length ≤ 3 ∧ cs.Nodup ∧ (∀ x ∈ cs, Nm x) ∧ HandOk h' := by
  obtain ⟨n1, h1, r1, e1, x1, y1, z1, H1⟩ := some_ok (k + 3) H c c0 (by omega)
  obtain ⟨ws, h2, e2, wl, wd, wn, H2⟩ := names_ok k H1 n1 (by omega)
  obtain ⟨n2, h3, r2, e3, x2, y2, z2, H3⟩ := some_ok (k + 3) H2 l l0 l1
  obtain ⟨ts, h4, e4, td, tw, t0, t1, H4⟩ := pool_ok k H3 (by omega) (by omega) wd wn n2 y2 (by omega) u (a1 := .li true false (.lst (ws.map P.str))) (.inr ⟨_, rfl⟩)
  obtain ⟨n3, h5, r3, e5, x3, y3, z3, H5⟩ := some_ok (k + 3) H4 3 (by decide) (by decide)
  obtain ⟨cs, h6, e6, cl, cd, cn, H6⟩ := names_ok k H5 n3 (by omega)
  refine ⟨ws, ts, cs, h6, ?_, by omega, by omega, wd, wn, td, tw, t0, by omega, by omega, by omega, cd, cn, H6⟩
  rw [r__law_world]
  simp at e5
  simp [q__law_world, k__law_draw, k__law_names, k__law_pool, k_list, e1, x1, e2, e3, x2, e4, e5, x3, e6, finS]
end Lk04

set_option Elab.async false
set_option linter.all false
set_option maxRecDepth 100000
set_option maxHeartbeats 2000000
namespace Lk04
open PySem PySem.Spec PyProof.Rows L2 Bt Bt.Pv
/-! ### cases -/
abbrev Cas := List Str × List Tri
def caseP (c : Cas) : P := .tup [.tup (c.1.map P.str), .tup (c.2.map litT)]
structure CaseOk (ws : List Str) (c : Cas) : Prop where
  sub : ∀ x ∈ c.1, x ∈ ws
  nd : c.1.Nodup
  lit : LitsOk ws c.2
  off : ∀ t ∈ c.2, t.1 ∉ c.1 ∧ t.2.1 ∉ c.1
  len : c.2.length ≤ 4
theorem blank_lc (k : Nat) {h : P} (H : HandOk h) (ws : List Str) (hl : ws.length ≤ 5) (a2 : Sl) (o3 o4 o5 o6 : Option Sl) : ∃ (bs : List Str) (h' : P),
    pLc (pIter (pVar 1)) [7] (.one 7) (pTest (pOp (eqT (Gk (k + 2)).Ψ) (pCall (Gk (k + 2)).Ψ "_law_draw" (pCons (pVar 0) (pCons (pC (.int 3)) (pNil)))) (pC (.int 0)))) (pVar 7) [some (.li true false h), some (.sh (.lst (ws.map P.str))), some a2, o3, o4, o5, o6, none] = .ok (.o (.lst (bs.map P.str))) [some (.li true false h'), some (.sh (.lst (ws.map P.str))), some a2, o3, o4, o5, o6, none] ∧
    bs.Sublist ws ∧ HandOk h' := by
  have key := lcP_to (own := [7]) (t := .one 7) (ts := pTest (pOp (eqT (Gk (k + 2)).Ψ) (pCall (Gk (k + 2)).Ψ "_law_draw" (pCons (pVar 0) (pCons (pC (.int 3)) (pNil)))) (pC (.int 0)))) (e := pVar 7)
    (fun r acc pe => ∃ (bs pre post : List Str) (h' : P), r = post.map P.str ∧ pre ++ post = ws ∧ acc = bs.map P.str ∧ bs.Sublist pre ∧ HandOk h' ∧ pe = [some (.li true false h'), some (.sh (.lst (ws.map P.str))), some a2, o3, o4, o5, o6, none])
    (fun p r acc pe ⟨bs, pre, post, h1, e1, e2, e3, e4, H1, e5⟩ => by
      subst e3 e5
      cases post with
      | nil => simp at e1
      | cons x post =>
        simp at e1
        obtain ⟨rfl, rfl⟩ := e1
        obtain ⟨d, h2, ed, d0, d1, H2⟩ := draw_ok k (many := 3) H1 (by decide) (by decide)
        by_cases hd : d = 0
        · refine ⟨_, _, lcT_yes (y := .str x) (tm := .v (.str x)) (pe2 := [some (.li true false h1), some (.sh (.lst (ws.map P.str))), some a2, o3, o4, o5, o6, some (.sh (.str x))]) (pe3 := [some (.li true false h2), some (.sh (.lst (ws.map P.str))), some a2, o3, o4, o5, o6, some (.sh (.str x))]) (pe4 := [some (.li true false h2), some (.sh (.lst (ws.map P.str))), some a2, o3, o4, o5, o6, some (.sh (.str x))]) (pe5 := [some (.li true false h2), some (.sh (.lst (ws.map P.str))), some a2, o3, o4, o5, o6, some (.sh (.str x))]) rfl (by simp [k__law_draw, ed, hd]) (by simp) (by simp) ?_, bs ++ [x], pre ++ [x], post, h2, rfl, by simp [← e2], by simp, List.Sublist.append e4 (List.Sublist.refl _), H2, rfl⟩
          have := e4.length_le
          have : (pre ++ x :: post).length = ws.length := by rw [e2]
          simp at this ⊢
          omega
        · refine ⟨_, _, lcT_no (pe2 := [some (.li true false h1), some (.sh (.lst (ws.map P.str))), some a2, o3, o4, o5, o6, some (.sh (.str x))]) (pe3 := [some (.li true false h2), some (.sh (.lst (ws.map P.str))), some a2, o3, o4, o5, o6, some (.sh (.str x))]) rfl (by simp [k__law_draw, ed, hd]), bs, pre ++ [x], post, h2, rfl, by simp [← e2], rfl, e4.trans (List.sublist_append_left _ _), H2, rfl⟩)
    (ws.map P.str) [] [some (.li true false h), some (.sh (.lst (ws.map P.str))), some a2, o3, o4, o5, o6, none] ⟨[], [], ws, h, rfl, rfl, rfl, List.Sublist.refl _, H, rfl⟩
  obtain ⟨acc, pe, e, bs, pre, post, h', e1, e2, rfl, e4, H', rfl⟩ := key
  have : post = [] := by cases post with
    | nil => rfl
    | cons x post => simp at e1
  subst this
  simp at e2
  subst e2
  refine ⟨bs, h', ?_, e4, H'⟩
  exact lc_items (pe1 := [some (.li true false h), some (.sh (.lst (pre.map P.str))), some a2, o3, o4, o5, o6, none]) (by simp) rfl e
theorem at_lits {ts : List Tri} {i : Int} (h0 : 0 ≤ i) (h1 : i < ts.length) : ∃ t ∈ ts, atI (ts.map litT) i = some (litT t) := by
  obtain ⟨j, rfl⟩ := Int.eq_ofNat_of_zero_le h0
  have hj : j < ts.length := by omega
  exact ⟨ts[j], List.getElem_mem hj, at_nat (by simp [hj])⟩
theorem case_ok (k : Nat) {h : P} (H : HandOk h) {ws : List Str} (w1 : ws.length ≤ 5) (hd : ws.Nodup) (hw : ∀ x ∈ ws, Nm x) {ts : List Tri} (t0 : 1 ≤ ts.length) (t1 : ts.length ≤ 1000) (tw : LitsOk ws ts) :
    ∃ (c : Cas) (h' : P), runP d__law_case (Gk (k + 2)) [.li true false h, .sh (.lst (ws.map P.str)), .sh (.lst (ts.map litT))] = .ok (.v (caseP c)) [some (.li true false h'), none, none] ∧ CaseOk ws c ∧ HandOk h' := by
  obtain ⟨bs, h1, e1, s1, H1⟩ := blank_lc k H ws w1 (.sh (.lst (ts.map litT))) none none none none
  obtain ⟨d, h2, e2, d0, d1, H2⟩ := draw_ok k (many := 2) H1 (by decide) (by decide)
  obtain ⟨q, h3, e3, q0, q1, H3⟩ := draw_ok k (many := 4) H2 (by decide) (by decide)
  obtain ⟨n, rfl⟩ := Int.eq_ofNat_of_zero_le q0
  obtain ⟨bs', sub', nd', eb⟩ : ∃ bs' : List Str, (∀ x ∈ bs', x ∈ ws) ∧ bs'.Nodup ∧ bs' = if d = 0 then bs.reverse else bs := by
    refine ⟨_, ?_, ?_, rfl⟩
    · split
      · intro x hx; exact s1.subset (List.mem_reverse.mp hx)
      · exact fun x hx => s1.subset hx
    · split
      · exact List.pairwise_reverse.mpr ((hd.sublist s1).imp fun h => Ne.symm h)
      · exact hd.sublist s1
  have lb : bs'.length ≤ 5 := by
    have := s1.length_le
    rw [eb]; split <;> simp <;> omega
  have ob : okDs 1 (bs'.map P.str) = true := okDs_strs fun x hx => (hw x (sub' x hx)).ok
  rw [r__law_case]
  have step1 : (if d = 0 then some (Sl.li false false (.lst (bs.map P.str).reverse)) else some (.li false false (.lst (bs.map P.str)))) = some (.li false false (.lst (bs'.map P.str))) := by
    rw [eb]; split <;> simp
  have key : ∀ F : PR PFl, F = pFor (pRange1 (pCall (Gk (k + 2)).Ψ "_law_draw" (pCons (pVar 0) (pCons (pC (.int 4)) (pNil))))) (pNam 5) (pSeq (pAsg (pOp oIx (pVar 2) (pCall (Gk (k + 2)).Ψ "_law_draw" (pCons (pVar 0) (pCons (pCall (Gk (k + 2)).Ψ "len" (pCons (pVar 2) (pNil))) (pNil))))) (pNam 6)) (pSeq (pIf (pAndT (pTest (pOp (inT (Gk (k + 2)).Ψ true) (pOp oIx (pVar 6) (pC (.int 0))) (pVar 3))) (pTest (pOp (inT (Gk (k + 2)).Ψ true) (pOp oIx (pVar 6) (pC (.int 1))) (pVar 3)))) (pSeq (pExpr (pMeth (Gk (k + 2)).Ψ "append" (pVar 4) (pCons (pVar 6) (pNil)))) (pNilS)) (pNilS)) (pNilS))) [some (.li true false h2), some (.sh (.lst (ws.map P.str))), some (.sh (.lst (ts.map litT))), some (.li false false (.lst (bs'.map P.str))), some (.li false false (.lst [])), none, none, none] →
    ∃ (ls : List Tri) (h' : P) (s5 s6 : Option Sl), F = .ok .nx [some (.li true false h'), some (.sh (.lst (ws.map P.str))), some (.sh (.lst (ts.map litT))), some (.li false false (.lst (bs'.map P.str))), some (.li false false (.lst (ls.map litT))), s5, s6, none] ∧ LitsOk ws ls ∧ (∀ t ∈ ls, t.1 ∉ bs' ∧ t.2.1 ∉ bs') ∧ ls.length ≤ n ∧ HandOk h' := by
    rintro F rfl
    obtain ⟨pe', e, ls, h', s5, s6, rfl, _, _, l1, l2, l3, l4⟩ := for_end (n := n) (b := pSeq (pAsg (pOp oIx (pVar 2) (pCall (Gk (k + 2)).Ψ "_law_draw" (pCons (pVar 0) (pCons (pCall (Gk (k + 2)).Ψ "len" (pCons (pVar 2) (pNil))) (pNil))))) (pNam 6)) (pSeq (pIf (pAndT (pTest (pOp (inT (Gk (k + 2)).Ψ true) (pOp oIx (pVar 6) (pC (.int 0))) (pVar 3))) (pTest (pOp (inT (Gk (k + 2)).Ψ true) (pOp oIx (pVar 6) (pC (.int 1))) (pVar 3)))) (pSeq (pExpr (pMeth (Gk (k + 2)).Ψ "append" (pVar 4) (pCons (pVar 6) (pNil)))) (pNilS)) (pNilS)) (pNilS))) (g := pNam 5) (m := (pRange1 (pCall (Gk (k + 2)).Ψ "_law_draw" (pCons (pVar 0) (pCons (pC (.int 4)) (pNil)))))) (pe := [some (.li true false h2), some (.sh (.lst (ws.map P.str))), some (.sh (.lst (ts.map litT))), some (.li false false (.lst (bs'.map P.str))), some (.li false false (.lst [])), none, none, none]) (pe1 := [some (.li true false h3), some (.sh (.lst (ws.map P.str))), some (.sh (.lst (ts.map litT))), some (.li false false (.lst (bs'.map P.str))), some (.li false false (.lst [])), none, none, none]) (by simp [k__law_draw, e3, rg_small (j := n) (by omega)])
      (fun i pe => ∃ (ls : List Tri) (h' : P) (s5 s6 : Option Sl), pe = [some (.li true false h'), some (.sh (.lst (ws.map P.str))), some (.sh (.lst (ts.map litT))), some (.li false false (.lst (bs'.map P.str))), some (.li false false (.lst (ls.map litT))), s5, s6, none] ∧ asgOk (some s5) = true ∧ asgOk (some s6) = true ∧ LitsOk ws ls ∧ (∀ t ∈ ls, t.1 ∉ bs' ∧ t.2.1 ∉ bs') ∧ ls.length ≤ i ∧ HandOk h')
      (by
        rintro i pe hi ⟨ls, hh, s5, s6, rfl, h5, h6, l1, l2, l3, l4⟩ kk
        obtain ⟨d, h2, e2, d0, d1, H2⟩ := draw_ok k (many := ts.length) l4 (by omega) (by omega)
        obtain ⟨t, tm, ti⟩ := at_lits d0 d1
        obtain ⟨o1, o2, o3⟩ := tw t tm
        have i1 := (inV_dat (n := 1) (p := .str t.1) (xs := bs'.map P.str) (okD_str 1 (terms_ok hw _ o1)) ob (by decide)).1
        have i2 := (inV_dat (n := 1) (p := .str t.2.1) (xs := bs'.map P.str) (okD_str 1 (terms_ok hw _ o2)) ob (by decide)).1
        rw [memB_strs] at i1 i2
        have x0 : ixV (litT t) (.int 0) = some (.v (.str t.1)) := by simp [litT, litP]; rfl
        have x1 : ixV (litT t) (.int 1) = some (.v (.str t.2.1)) := by simp [litT, litP]; rfl
        have hl' : ls.length < 16777216 := by omega
        by_cases g1 : t.1 ∈ bs'
        · refine ⟨[some (.li true false h2), some (.sh (.lst (ws.map P.str))), some (.sh (.lst (ts.map litT))), some (.li false false (.lst (bs'.map P.str))), some (.li false false (.lst (ls.map litT))), some (.sh (.int i)), some (.sh (litT t)), none], ?_, ls, h2, _, _, rfl, rfl, rfl, l1, l2, by omega, H2⟩
          simp [turn_nam, h5, h6, k__law_draw, k_len, e2, ti, x0, i1, g1]
        · by_cases g2 : t.2.1 ∈ bs'
          · refine ⟨[some (.li true false h2), some (.sh (.lst (ws.map P.str))), some (.sh (.lst (ts.map litT))), some (.li false false (.lst (bs'.map P.str))), some (.li false false (.lst (ls.map litT))), some (.sh (.int i)), some (.sh (litT t)), none], ?_, ls, h2, _, _, rfl, rfl, rfl, l1, l2, by omega, H2⟩
            simp [turn_nam, h5, h6, k__law_draw, k_len, e2, ti, x0, x1, i1, i2, g1, g2]
          · refine ⟨[some (.li true false h2), some (.sh (.lst (ws.map P.str))), some (.sh (.lst (ts.map litT))), some (.li false false (.lst (bs'.map P.str))), some (.li false false (.lst ((ls ++ [t]).map litT))), some (.sh (.int i)), some (.sh (litT t)), none], ?_, ls ++ [t], h2, _, _, rfl, rfl, rfl, ?_, ?_, by simp; omega, H2⟩
            · simp [turn_nam, h5, h6, k__law_draw, k_len, e2, ti, x0, x1, i1, i2, g1, g2, hl']
            · intro y hy
              rcases List.mem_append.mp hy with hy | hy
              · exact l1 y hy
              · rw [List.mem_singleton.mp hy]; exact ⟨o1, o2, o3⟩
            · intro y hy
              rcases List.mem_append.mp hy with hy | hy
              · exact l2 y hy
              · rw [List.mem_singleton.mp hy]; exact ⟨g1, g2⟩)
      ⟨[], h3, none, none, rfl, rfl, rfl, fun t ht => by simp at ht, fun t ht => by simp at ht, by simp, H3⟩
    exact ⟨ls, h', s5, s6, e, l1, l2, l3, l4⟩
  obtain ⟨ls, h', s5, s6, e, l1, l2, l3, l4⟩ := key _ rfl
  refine ⟨(bs', ls), h', ?_, ⟨sub', nd', l1, l2, by simp; omega⟩, l4⟩
  have lb2 : bs.length ≤ 16777216 := by have := s1.length_le; omega
  by_cases hd0 : d = 0
  · rw [if_pos hd0] at eb
    subst eb
    simp [List.map_reverse] at e
    simp [q__law_case, e1, k__law_draw, k_tuple, e2, hd0, e, caseP, List.map_reverse]
  · rw [if_neg hd0] at eb
    subst eb
    simp [q__law_case, e1, k__law_draw, k_tuple, e2, hd0, e, caseP]
end Lk04

set_option Elab.async false
set_option linter.all false
set_option maxRecDepth 100000
set_option maxHeartbeats 2000000
namespace Lk04
open PySem PySem.Spec PyProof.Rows L2 Bt Bt.Pv
def CasesOk (ws : List Str) (cs : List Cas) : Prop := ∀ c ∈ cs, CaseOk ws c
theorem cases_ok (k : Nat) {h : P} (H : HandOk h) {ws : List Str} (w1 : ws.length ≤ 5) (hd : ws.Nodup) (hw : ∀ x ∈ ws, Nm x) {ts : List Tri} (t0 : 1 ≤ ts.length) (t1 : ts.length ≤ 1000) (tw : LitsOk ws ts) (m : Nat) (hm : m ≤ 1000) :
    ∃ (cs : List Cas) (h' : P), runP d__law_cases (Gk (k + 3)) [.li true false h, .sh (.lst (ws.map P.str)), .sh (.lst (ts.map litT)), .sh (.int m)] = .ok (.v (.tup (cs.map caseP))) [some (.li true false h'), none, none, none] ∧ CasesOk ws cs ∧ cs.length ≤ m ∧ HandOk h' := by
  obtain ⟨q, h1, e1, q0, q1, H1⟩ := draw_ok (k + 1) (many := (m : Int) + 1) H (by omega) (by omega)
  obtain ⟨n, rfl⟩ := Int.eq_ofNat_of_zero_le q0
  have key := lcP_to (own := [4]) (t := .one 4) (ts := pYes) (e := pCall (Gk (k + 3)).Ψ "_law_case" (pCons (pVar 0) (pCons (pVar 1) (pCons (pVar 2) (pNil)))))
    (fun r acc pe => ∃ (cs : List Cas) (h' : P), acc = cs.map caseP ∧ cs.length + r.length = n ∧ CasesOk ws cs ∧ HandOk h' ∧ pe = [some (.li true false h'), some (.sh (.lst (ws.map P.str))), some (.sh (.lst (ts.map litT))), some (.sh (.int m)), none])
    (fun p r acc pe ⟨cs, h2, e2, e3, e4, H2, e5⟩ => by
      subst e2 e5
      obtain ⟨c, h3, ec, oc, H3⟩ := case_ok k H2 w1 hd hw t0 t1 tw
      refine ⟨_, _, lcT_yes (y := caseP c) (tm := .v (caseP c)) (pe2 := [some (.li true false h2), some (.sh (.lst (ws.map P.str))), some (.sh (.lst (ts.map litT))), some (.sh (.int m)), some (.sh p)]) (pe3 := [some (.li true false h2), some (.sh (.lst (ws.map P.str))), some (.sh (.lst (ts.map litT))), some (.sh (.int m)), some (.sh p)]) (pe4 := [some (.li true false h3), some (.sh (.lst (ws.map P.str))), some (.sh (.lst (ts.map litT))), some (.sh (.int m)), some (.sh p)]) (pe5 := [some (.li true false h3), some (.sh (.lst (ws.map P.str))), some (.sh (.lst (ts.map litT))), some (.sh (.int m)), some (.sh p)]) rfl rfl (by simp [k__law_case, ec]) (by simp) (by simp at e3 ⊢; omega), cs ++ [c], h3, by simp, by simp at e3 ⊢; omega, ?_, H3, rfl⟩
      intro w hw
      rcases List.mem_append.mp hw with hw | hw
      · exact e4 w hw
      · rw [List.mem_singleton.mp hw]
        exact oc)
    (rangeP 0 n) [] [some (.li true false h1), some (.sh (.lst (ws.map P.str))), some (.sh (.lst (ts.map litT))), some (.sh (.int m)), none] ⟨[], h1, rfl, by simp [rangeP_len], (fun w hw => by cases hw), H1, rfl⟩
  obtain ⟨acc, pe, e, cs, h', rfl, e2, e3, e4, rfl⟩ := key
  simp at e2
  refine ⟨cs, h', ?_, e3, by omega, e4⟩
  have e5 := lc_items (pe := [some (.li true false h), some (.sh (.lst (ws.map P.str))), some (.sh (.lst (ts.map litT))), some (.sh (.int m)), none]) (it := pRange1 (pCall (Gk (k + 3)).Ψ "_law_draw" (pCons (pVar 0) (pCons (pOp oAdd (pVar 3) (pC (.int 1))) (pNil))))) (pe1 := [some (.li true false h1), some (.sh (.lst (ws.map P.str))), some (.sh (.lst (ts.map litT))), some (.sh (.int m)), none]) (by simp [k__law_draw, e1, rg_small (j := n) (by omega)]) rfl e
  rw [r__law_cases]
  have l : cs.length ≤ 16777216 := by omega
  simp [q__law_cases, e5, k_tuple, restP]
end Lk04

set_option Elab.async false
set_option linter.all false
set_option maxRecDepth 100000
set_option maxHeartbeats 2000000
namespace Lk04
open PySem PySem.Spec PyProof.Rows L2 Bt Bt.Pv
/-! ### is_term, is_literal, is_case -/
def intB : P → Bool
  | .int _ => true
  | _ => false
def inC (p : P) (xs : List Str) : Bool := match p with
  | .str x => decide (x ∈ xs)
  | _ => false
def litB (ws : List Str) : P → Bool
  | .tup [a, b, c] => intB c && (inC a (terms ws) && (inC b (terms ws) && !eqB a b))
  | _ => false
/-- an argument that is the columns of these names -/
def ArgC (a : Sl) (ws : List Str) : Prop := a = .sh (colsV (ws.map P.str)) ∨ ∃ b, a = .li true b (colsV (ws.map P.str))
theorem is_integer_ok (k : Nat) {n : Nat} {p : P} (hp : dat n p = true) : runP d_is_integer (Gk k) [.sh p] = .ok (.v (.bl (intB p))) [none] := by
  rw [r_is_integer]
  cases p with
  | str x => simp [q_is_integer, k_isinstance, g_int, g_bool, intB]
  | non => simp [q_is_integer, k_isinstance, g_int, g_bool, intB]
  | bl b => simp [q_is_integer, k_isinstance, g_int, g_bool, intB]
  | int b => simp [q_is_integer, k_isinstance, g_int, g_bool, intB]
  | tup b => simp [q_is_integer, k_isinstance, g_int, g_bool, intB]
  | lst b => simp [q_is_integer, k_isinstance, g_int, g_bool, intB]
  | _ => simp [dat] at hp
theorem str_in {ws : List Str} (hw : ∀ x ∈ ws, Nm x) {x : Str} (hx : PyData.strOk x = true) : inV (.str x) (.tup (ws.map P.str)) = some (decide (x ∈ ws)) := by
  rw [(inV_dat (n := 0) (okD_str 0 hx) (okDs_strs fun y hy => (hw y hy).ok) (by decide)).2, memB_strs]
theorem is_term_ok (k : Nat) {n : Nat} {p : P} (hp : dat n p = true) {ws : List Str} (hw : ∀ x ∈ ws, Nm x) {a0 : Sl} (ha : ArgC a0 ws) : runP d_is_term (Gk k) [a0, .sh p] = .ok (.v (.bl (inC p (terms ws)))) [finS a0, none] := by
  rw [r_is_term]
  cases p with
  | str x =>
    simp [dat] at hp
    have hi := str_in hw hp.1
    have he : Pv.eqV (.str x) (.str (Str.ofString "")) = some (decide (x = Str.ofString "")) := by
      rw [eqV_dat (n := 0) (okD_str 0 hp.1) (okD_str 0 str0_ok) (by decide), eqB_str]
      exact congrArg some (by rw [Bool.eq_iff_iff]; simp)
    by_cases h0 : x = Str.ofString ""
    · rw [h0] at he hi ⊢
      rcases ha with rfl | ⟨b, rfl⟩ <;> simp [q_is_term, k_isinstance, g_str, inC, he, finS]
    · rcases ha with rfl | ⟨b, rfl⟩ <;> simp [q_is_term, k_isinstance, g_str, at_Columns_names, inC, he, h0, hi, finS]
  | non => rcases ha with rfl | ⟨b, rfl⟩ <;> simp [q_is_term, k_isinstance, g_str, inC, finS]
  | bl b => rcases ha with rfl | ⟨b, rfl⟩ <;> simp [q_is_term, k_isinstance, g_str, inC, finS]
  | int b => rcases ha with rfl | ⟨b, rfl⟩ <;> simp [q_is_term, k_isinstance, g_str, inC, finS]
  | tup b => rcases ha with rfl | ⟨b, rfl⟩ <;> simp [q_is_term, k_isinstance, g_str, inC, finS]
  | lst b => rcases ha with rfl | ⟨b, rfl⟩ <;> simp [q_is_term, k_isinstance, g_str, inC, finS]
  | _ => simp [dat] at hp
theorem inC_str {p : P} {xs : List Str} (h : inC p xs = true) : ∃ x ∈ xs, p = .str x := by
  cases p with
  | str x => exact ⟨x, by simpa [inC] using h, rfl⟩
  | _ => simp [inC] at h
theorem dats3 {n : Nat} {a b c : P} (h : dats n [a, b, c] = true) : dat n a = true ∧ dat n b = true ∧ dat n c = true := by
  simpa [dats] using h
theorem is_literal_ok (k : Nat) {n : Nat} {p : P} (hp : dat n p = true) {ws : List Str} (hw : ∀ x ∈ ws, Nm x) {a0 : Sl} (ha : ArgC a0 ws) : runP d_is_literal (Gk (k + 1)) [a0, .sh p] = .ok (.v (.bl (litB ws p))) [finS a0, none] := by
  rw [r_is_literal]
  have no3 : ∀ xs : List P, xs.length ≠ 3 → litB ws (.tup xs) = false := by
    intro xs hx
    unfold litB
    split
    · rename_i e; cases e; simp at hx
    · rfl
  cases p with
  | tup xs =>
    cases n with
    | zero => simp [dat] at hp
    | succ n =>
    simp [dat] at hp
    by_cases h3 : xs.length = 3
    · obtain ⟨a, b, c, rfl⟩ : ∃ a b c, xs = [a, b, c] := by
        match xs, h3 with
        | [a, b, c], _ => exact ⟨a, b, c, rfl⟩
      obtain ⟨da, db, dc⟩ := dats3 hp.1
      have g1 := is_integer_ok k dc
      have x0 : atI [a, b, c] 0 = some a := rfl
      have x1 : atI [a, b, c] 1 = some b := rfl
      have x2 : atI [a, b, c] 2 = some c := rfl
      have ga := is_term_ok k da hw ha
      have gb := is_term_ok k db hw ha
      cases hc : intB c with
      | false =>
        rw [hc] at g1
        rcases ha with rfl | ⟨b, rfl⟩ <;> simp [q_is_literal, k_isinstance, g_tuple, k_len, k_is_integer, x2, g1, litB, hc, finS]
      | true =>
        rw [hc] at g1
        cases ha' : inC a (terms ws) with
        | false =>
          rw [ha'] at ga
          rcases ha with rfl | ⟨b, rfl⟩ <;> simp [q_is_literal, k_isinstance, g_tuple, k_len, k_is_integer, k_is_term, x0, x2, g1, ga, litB, hc, ha', finS]
        | true =>
          rw [ha'] at ga
          cases hb' : inC b (terms ws) with
          | false =>
            rw [hb'] at gb
            rcases ha with rfl | ⟨b, rfl⟩ <;> simp [q_is_literal, k_isinstance, g_tuple, k_len, k_is_integer, k_is_term, x0, x1, x2, g1, ga, gb, litB, hc, ha', hb', finS]
          | true =>
            rw [hb'] at gb
            obtain ⟨a', ma, rfl⟩ := inC_str ha'
            obtain ⟨b', mb, rfl⟩ := inC_str hb'
            have he := eqV_dat (n := 0) (okD_str 0 (terms_ok hw a' ma)) (okD_str 0 (terms_ok hw b' mb)) (by decide)
            rcases ha with rfl | ⟨b, rfl⟩ <;> simp [q_is_literal, k_isinstance, g_tuple, k_len, k_is_integer, k_is_term, x0, x1, x2, g1, ga, gb, litB, hc, ha', hb', finS, he]
    · have h3' : ¬ (xs.length : Int) = 3 := by omega
      rw [no3 xs h3]
      rcases ha with rfl | ⟨b, rfl⟩ <;> simp [q_is_literal, k_isinstance, g_tuple, k_len, finS, h3']
  | str x => rcases ha with rfl | ⟨b, rfl⟩ <;> simp [q_is_literal, k_isinstance, g_tuple, litB, finS]
  | non => rcases ha with rfl | ⟨b, rfl⟩ <;> simp [q_is_literal, k_isinstance, g_tuple, litB, finS]
  | bl x => rcases ha with rfl | ⟨b, rfl⟩ <;> simp [q_is_literal, k_isinstance, g_tuple, litB, finS]
  | int x => rcases ha with rfl | ⟨b, rfl⟩ <;> simp [q_is_literal, k_isinstance, g_tuple, litB, finS]
  | lst x => rcases ha with rfl | ⟨b, rfl⟩ <;> simp [q_is_literal, k_isinstance, g_tuple, litB, finS]
  | _ => simp [dat] at hp
theorem contains_ok (k : Nat) {xs : List Str} (hs : ∀ x ∈ xs, Nm x) {n : Nat} {p : P} (hp : dat n p = true) {a0 : Sl} (ha : ArgC a0 xs) : runP d_Columnsu_containsu (Gk k) [a0, .sh p] = .ok (.v (.bl (inC p xs))) [finS a0, none] := by
  rw [r_Columnsu_containsu]
  cases p with
  | str x =>
    have ho : PyData.strOk x = true := by unfold dat at hp; exact (Bool.and_eq_true_iff.mp hp).1
    have hin := str_in hs ho
    rcases ha with rfl | ⟨b, rfl⟩ <;> simp [q_Columnsu_containsu, k_isinstance, g_str, at_Columns_names, hin, inC, finS]
  | non => rcases ha with rfl | ⟨b, rfl⟩ <;> simp [q_Columnsu_containsu, k_isinstance, g_str, inC, finS]
  | bl b => rcases ha with rfl | ⟨b, rfl⟩ <;> simp [q_Columnsu_containsu, k_isinstance, g_str, inC, finS]
  | int b => rcases ha with rfl | ⟨b, rfl⟩ <;> simp [q_Columnsu_containsu, k_isinstance, g_str, inC, finS]
  | tup b => rcases ha with rfl | ⟨b, rfl⟩ <;> simp [q_Columnsu_containsu, k_isinstance, g_str, inC, finS]
  | lst b => rcases ha with rfl | ⟨b, rfl⟩ <;> simp [q_Columnsu_containsu, k_isinstance, g_str, inC, finS]
  | _ => simp [dat] at hp
theorem in_cols (k : Nat) (g : Bool) (p : P) (ps : List P) (t u : Bt.Tm) (pe : PEnv) : inR (Gk (k + 1)).Ψ g (some p) (some (colsV ps)) t u pe = negR g (caR (pArg true u pe) fun x pe => caR (pArg true t pe) fun y pe => callP ⟨[true, true], runP d_Columnsu_containsu (Gk k)⟩ [x, y] pe) := inR_ins (c_Columnsu_containsu k)
/-- the blank names of a case -/
def blankAt (ws : List Str) (bl : List P) (i : Nat) : Bool := match bl[i]? with
  | some p => inC p ws && !memB p (bl.take i)
  | none => true
def litIn (ws : List Str) (bl : List P) (l : P) : Bool := litB ws l && (match l with
  | .tup (a :: b :: _) => !memB a bl && !memB b bl
  | _ => false)
def caseB (ws : List Str) : P → Bool
  | .tup [.tup bl, .tup ls] => (List.range bl.length).all (blankAt ws bl) && ls.all (litIn ws bl)
  | _ => false
end Lk04

set_option Elab.async false
set_option linter.all false
set_option maxRecDepth 100000
set_option maxHeartbeats 2000000
namespace Lk04
open PySem PySem.Spec PyProof.Rows L2 Bt Bt.Pv
@[simp] theorem tg_v (is : List Nat) (ps : List P) (pe : PEnv) : pTupG is (.v (.tup ps)) pe = if ps.length = is.length then pNams is ps pe else .fail := (rfl)
@[simp] theorem ns_nil (pe : PEnv) : pNams [] [] pe = .ok .nx pe := (rfl)
@[simp] theorem ns_cons (i : Nat) (is : List Nat) (p : P) (ps : List P) (pe : PEnv) : pNams (i :: is) (p :: ps) pe = thenP (pNam i (.v p) pe) fun pe => pNams is ps pe := (rfl)
def tupB : P → Bool
  | .tup _ => true
  | _ => false
theorem isi_tup (k : Nat) {n : Nat} {p : P} (hp : dat n p = true) (pe : PEnv) : isiT (Gk k).Ψ [.sh p, .sh (.ty "tuple")] pe = .ok (.v (.bl (tupB p))) pe := by
  cases p with
  | str x => simp [tupB]
  | non => simp [tupB]
  | bl b => simp [tupB]
  | int b => simp [tupB]
  | tup b => simp [tupB]
  | lst b => simp [tupB]
  | _ => simp [dat] at hp
theorem all_rng {f : Nat → Bool} {n : Nat} (h : ∀ j, j < n → f j = true) : (List.range n).all f = true := List.all_eq_true.mpr fun x hx => h x (List.mem_range.mp hx)
theorem all_no {f : Nat → Bool} {n j : Nat} (hj : j < n) (h : f j = false) : (List.range n).all f = false := by
  rw [List.all_eq_false]
  exact ⟨j, List.mem_range.mpr hj, by simp [h]⟩
theorem is_case_ok (k : Nat) {n : Nat} (hn : n ≤ 49) {p : P} (hp : dat n p = true) {ws : List Str} (hw : ∀ x ∈ ws, Nm x) {a0 : Sl} (ha : ArgC a0 ws) : runP d_is_case (Gk (k + 2)) [a0, .sh p] = .ok (.v (.bl (caseB ws p))) [finS a0, none] := by
  rw [r_is_case]
  have no2 : ∀ xs : List P, xs.length ≠ 2 → caseB ws (.tup xs) = false := by
    intro xs hx
    unfold caseB
    split
    · rename_i e; cases e; simp at hx
    · rfl
  cases p with
  | tup xs =>
    cases n with
    | zero => simp [dat] at hp
    | succ n =>
    simp [dat] at hp
    by_cases h2 : xs.length = 2
    · obtain ⟨x, y, rfl⟩ : ∃ x y, xs = [x, y] := by
        match xs, h2 with
        | [x, y], _ => exact ⟨x, y, rfl⟩
      have dx : dat n x = true := by simpa [dats] using (by simpa [dats] using hp.1 : _ ∧ _).1
      have dy : dat n y = true := by simpa [dats] using (by simpa [dats] using hp.1 : _ ∧ _).2
      have i1 := fun pe => isi_tup (k + 2) dx pe
      have i2 := fun pe => isi_tup (k + 2) dy pe
      cases hx : tupB x with
      | false =>
        have hc : caseB ws (.tup [x, y]) = false := by
          unfold caseB
          split
          · rename_i e; cases e; simp [tupB] at hx
          · rfl
        rw [hc]
        rw [hx] at i1
        rcases ha with rfl | ⟨b, rfl⟩ <;> simp [q_is_case, k_isinstance, g_tuple, k_len, finS, i1]
      | true =>
      cases hy : tupB y with
      | false =>
        have hc : caseB ws (.tup [x, y]) = false := by
          unfold caseB
          split
          · rename_i e; cases e; simp [tupB] at hy
          · rfl
        rw [hc]
        rw [hx] at i1
        rw [hy] at i2
        rcases ha with rfl | ⟨b, rfl⟩ <;> simp [q_is_case, k_isinstance, g_tuple, k_len, finS, i1, i2]
      | true =>
        obtain ⟨bl, rfl⟩ : ∃ bl, x = .tup bl := by cases x <;> simp [tupB] at hx; exact ⟨_, rfl⟩
        obtain ⟨ls, rfl⟩ : ∃ ls, y = .tup ls := by cases y <;> simp [tupB] at hy; exact ⟨_, rfl⟩
        cases n with
        | zero => simp [dat] at dx
        | succ n =>
        simp [dat] at dx dy
        have lp1 : ∀ F, F = pFor (pRange1 (pCall (Gk (k + 2)).Ψ "len" (pCons (pVar 2) (pNil)))) (pNam 4) (pSeq (pIf (pOrT (pTest (pOp (inT (Gk (k + 2)).Ψ true) (pOp oIx (pVar 2) (pVar 4)) (pVar 0))) (pTest (pOp (inT (Gk (k + 2)).Ψ false) (pOp oIx (pVar 2) (pVar 4)) (pSl (pVar 2) pNoPart (pPart (pVar 4)))))) (pSeq (pRet (pC (.bl false))) (pNilS)) (pNilS)) (pNilS)) [some a0, some (.sh (.tup [.tup bl, .tup ls])), some (.sh (.tup bl)), some (.sh (.tup ls)), none, none] →
          (∃ s, F = .ok .nx [some a0, some (.sh (.tup [.tup bl, .tup ls])), some (.sh (.tup bl)), some (.sh (.tup ls)), s, none] ∧ (List.range bl.length).all (blankAt ws bl) = true) ∨ (∃ s, F = .ok (.rt (.v (.bl false))) [some a0, some (.sh (.tup [.tup bl, .tup ls])), some (.sh (.tup bl)), some (.sh (.tup ls)), s, none] ∧ (List.range bl.length).all (blankAt ws bl) = false) := by
          intro F hF; rw [hF]; clear hF
          refine for_rng (n := bl.length) (pe1 := [some a0, some (.sh (.tup [.tup bl, .tup ls])), some (.sh (.tup bl)), some (.sh (.tup ls)), none, none]) (by simp [k_len, rg_small (j := bl.length) (by omega)]) (fun i pe => (∀ j, j < i → blankAt ws bl j = true) ∧ ∃ s, asgOk (some s) = true ∧ pe = [some a0, some (.sh (.tup [.tup bl, .tup ls])), some (.sh (.tup bl)), some (.sh (.tup ls)), s, none]) (fun F => (∃ s, F = .ok .nx [some a0, some (.sh (.tup [.tup bl, .tup ls])), some (.sh (.tup bl)), some (.sh (.tup ls)), s, none] ∧ (List.range bl.length).all (blankAt ws bl) = true) ∨ (∃ s, F = .ok (.rt (.v (.bl false))) [some a0, some (.sh (.tup [.tup bl, .tup ls])), some (.sh (.tup bl)), some (.sh (.tup ls)), s, none] ∧ (List.range bl.length).all (blankAt ws bl) = false)) ?_ ?_ ?_
          · rintro pe ⟨h1, s, hs, rfl⟩
            exact .inl ⟨s, rfl, all_rng h1⟩
          · rintro i pe hi ⟨h1, s, hs, rfl⟩ kk
            have hb : bl[i]? = some bl[i] := by simp [hi]
            have hd := dats_iff.mp dx.1 _ (List.mem_of_getElem? hb)
            have hm := (in_take (by omega) dx.1 hb).2
            have hx : atI bl (i : Int) = some bl[i] := at_nat hb
            have hc := contains_ok (k + 1) hw hd ha
            have hB : blankAt ws bl i = (inC bl[i] ws && !memB bl[i] (bl.take i)) := by unfold blankAt; rw [hb]
            cases c1 : inC bl[i] ws with
            | false =>
              rw [c1] at hc
              right; right
              refine ⟨some (.sh (.int i)), ?_, all_no hi (by rw [hB, c1]; rfl)⟩
              rcases ha with rfl | ⟨b, rfl⟩ <;> simp [turn_nam, hs, hx, in_cols, hc, finS]
            | true =>
              rw [c1] at hc
              cases c2 : memB bl[i] (bl.take i) with
              | true =>
                rw [c2] at hm
                right; right
                refine ⟨some (.sh (.int i)), ?_, all_no hi (by rw [hB, c1, c2]; rfl)⟩
                rcases ha with rfl | ⟨b, rfl⟩ <;> simp [turn_nam, hs, hx, in_cols, hc, finS, cut_take, hm]
              | false =>
                rw [c2] at hm
                left
                refine ⟨[some a0, some (.sh (.tup [.tup bl, .tup ls])), some (.sh (.tup bl)), some (.sh (.tup ls)), some (.sh (.int i)), none], ?_, fun j hj => ?_, _, rfl, rfl⟩
                · rcases ha with rfl | ⟨b, rfl⟩ <;> simp [turn_nam, hs, hx, in_cols, hc, finS, cut_take, hm]
                · by_cases e : j < i
                  · exact h1 j e
                  · have : j = i := by omega
                    subst this
                    rw [hB, c1, c2]; rfl
          · exact ⟨fun j hj => by omega, none, rfl, rfl⟩
        have lp2 : ∀ F s, F = pFor (pIter (pVar 3)) (pNam 5) (pSeq (pIf (pOrT (pNotT (pTru (pCall (Gk (k + 2)).Ψ "is_literal" (pCons (pVar 0) (pCons (pVar 5) (pNil)))))) (pOrT (pTest (pOp (inT (Gk (k + 2)).Ψ false) (pOp oIx (pVar 5) (pC (.int 0))) (pVar 2))) (pTest (pOp (inT (Gk (k + 2)).Ψ false) (pOp oIx (pVar 5) (pC (.int 1))) (pVar 2))))) (pSeq (pRet (pC (.bl false))) (pNilS)) (pNilS)) (pNilS)) [some a0, some (.sh (.tup [.tup bl, .tup ls])), some (.sh (.tup bl)), some (.sh (.tup ls)), s, none] →
          (∃ s', F = .ok .nx [some a0, some (.sh (.tup [.tup bl, .tup ls])), some (.sh (.tup bl)), some (.sh (.tup ls)), s, s'] ∧ ls.all (litIn ws bl) = true) ∨ (∃ s', F = .ok (.rt (.v (.bl false))) [some a0, some (.sh (.tup [.tup bl, .tup ls])), some (.sh (.tup bl)), some (.sh (.tup ls)), s, s'] ∧ ls.all (litIn ws bl) = false) := by
          intro F s hF; rw [hF]; clear hF
          rw [for_items (ps := ls) (pe1 := [some a0, some (.sh (.tup [.tup bl, .tup ls])), some (.sh (.tup bl)), some (.sh (.tup ls)), s, none]) (by simp)]
          refine forP_to (fun r pe => (∀ l ∈ r, dat n l = true) ∧ r.all (litIn ws bl) = ls.all (litIn ws bl) ∧ ∃ s', asgOk (some s') = true ∧ pe = [some a0, some (.sh (.tup [.tup bl, .tup ls])), some (.sh (.tup bl)), some (.sh (.tup ls)), s, s']) (fun F => (∃ s', F = .ok .nx [some a0, some (.sh (.tup [.tup bl, .tup ls])), some (.sh (.tup bl)), some (.sh (.tup ls)), s, s'] ∧ ls.all (litIn ws bl) = true) ∨ (∃ s', F = .ok (.rt (.v (.bl false))) [some a0, some (.sh (.tup [.tup bl, .tup ls])), some (.sh (.tup bl)), some (.sh (.tup ls)), s, s'] ∧ ls.all (litIn ws bl) = false)) ?_ ?_ ls _ ⟨dats_iff.mp dy.1, rfl, none, rfl, rfl⟩
          · rintro pe ⟨_, h1, s', hs, rfl⟩
            exact .inl ⟨s', rfl, by simpa using h1.symm⟩
          · rintro l r pe ⟨hd, h1, s', hs, rfl⟩ kk
            have dl := hd l (by simp)
            have hg := is_literal_ok k dl hw ha
            simp only [List.all_cons] at h1
            cases c1 : litB ws l with
            | false =>
              rw [c1] at hg
              right; right
              refine ⟨some (.sh l), ?_, by rw [← h1]; simp [litIn, c1]⟩
              rcases ha with rfl | ⟨b, rfl⟩ <;> simp [turn_nam, hs, k_is_literal, hg, finS]
            | true =>
              rw [c1] at hg
              obtain ⟨a, b, z, ra, rb, rfl⟩ : ∃ (a b : P) (z : P), inC a (terms ws) = true ∧ inC b (terms ws) = true ∧ l = .tup [a, b, z] := by
                unfold litB at c1
                split at c1
                · simp at c1; exact ⟨_, _, _, c1.2.1, c1.2.2.1, rfl⟩
                · cases c1
              obtain ⟨a, ma, rfl⟩ := inC_str ra
              obtain ⟨b, mb, rfl⟩ := inC_str rb
              have m1 := (inV_dat (n := n) (p := .str a) (xs := bl) (okD_str n (terms_ok hw a ma)) (dats_ok n _ dx.1) (by omega)).2
              have m2 := (inV_dat (n := n) (p := .str b) (xs := bl) (okD_str n (terms_ok hw b mb)) (dats_ok n _ dx.1) (by omega)).2
              have x0 : atI [P.str a, P.str b, z] 0 = some (.str a) := rfl
              have x1 : atI [P.str a, P.str b, z] 1 = some (.str b) := rfl
              cases c2 : memB (.str a) bl with
              | true =>
                rw [c2] at m1
                right; right
                refine ⟨some (.sh (.tup [.str a, .str b, z])), ?_, by rw [← h1]; simp [litIn, c2]⟩
                rcases ha with rfl | ⟨b, rfl⟩ <;> simp [turn_nam, hs, k_is_literal, hg, finS, x0, m1]
              | false =>
                rw [c2] at m1
                cases c3 : memB (.str b) bl with
                | true =>
                  rw [c3] at m2
                  right; right
                  refine ⟨some (.sh (.tup [.str a, .str b, z])), ?_, by rw [← h1]; simp [litIn, c3]⟩
                  rcases ha with rfl | ⟨b, rfl⟩ <;> simp [turn_nam, hs, k_is_literal, hg, finS, x0, x1, m1, m2]
                | false =>
                  rw [c3] at m2
                  left
                  refine ⟨[some a0, some (.sh (.tup [.tup bl, .tup ls])), some (.sh (.tup bl)), some (.sh (.tup ls)), s, some (.sh (.tup [.str a, .str b, z]))], ?_, fun l hl => hd l (by simp [hl]), by rw [← h1]; simp [litIn, c1, c2, c3], _, rfl, rfl⟩
                  rcases ha with rfl | ⟨b, rfl⟩ <;> simp [turn_nam, hs, k_is_literal, hg, finS, x0, x1, m1, m2]
        rw [hx] at i1
        rw [hy] at i2
        rcases lp1 _ rfl with ⟨s, e1, g1⟩ | ⟨s, e1, g1⟩
        · rcases lp2 _ s rfl with ⟨s', e2, g2⟩ | ⟨s', e2, g2⟩
          · rcases ha with rfl | ⟨b, rfl⟩ <;> simp [q_is_case, k_isinstance, g_tuple, k_len, finS, e1, e2, caseB, g1, g2]
          · rcases ha with rfl | ⟨b, rfl⟩ <;> simp [q_is_case, k_isinstance, g_tuple, k_len, finS, e1, e2, caseB, g1, g2]
        · rcases ha with rfl | ⟨b, rfl⟩ <;> simp [q_is_case, k_isinstance, g_tuple, k_len, finS, e1, caseB, g1]
    · have h2' : ¬ (xs.length : Int) = 2 := by omega
      rw [no2 xs h2]
      rcases ha with rfl | ⟨b, rfl⟩ <;> simp [q_is_case, k_isinstance, g_tuple, k_len, finS, h2']
  | str x => rcases ha with rfl | ⟨b, rfl⟩ <;> simp [q_is_case, k_isinstance, g_tuple, caseB, finS]
  | non => rcases ha with rfl | ⟨b, rfl⟩ <;> simp [q_is_case, k_isinstance, g_tuple, caseB, finS]
  | bl x => rcases ha with rfl | ⟨b, rfl⟩ <;> simp [q_is_case, k_isinstance, g_tuple, caseB, finS]
  | int x => rcases ha with rfl | ⟨b, rfl⟩ <;> simp [q_is_case, k_isinstance, g_tuple, caseB, finS]
  | lst x => rcases ha with rfl | ⟨b, rfl⟩ <;> simp [q_is_case, k_isinstance, g_tuple, caseB, finS]
  | _ => simp [dat] at hp
end Lk04

set_option Elab.async false
set_option linter.all false
set_option maxRecDepth 100000
set_option maxHeartbeats 2000000
namespace Lk04
open PySem PySem.Spec PyProof.Rows L2 Bt Bt.Pv
/-! ### RowSet(columns, cases) -/
def badCs (ws : List Str) (ps : List P) (j : Nat) : Bool := match ps[j]? with
  | some p => !caseB ws p
  | none => false
abbrev badK (q : P) : PX := ⟨"BadCases", [("index", q)]⟩
abbrev setV' (ws : List Str) (ps : List P) : P := .ins "RowSet" [("columns", colsV (ws.map P.str)), ("given_cases", .tup ps)]
def isTup : P → Bool
  | .tup _ => true
  | _ => false
theorem rinit_tup (k : Nat) {n : Nat} (hn : n ≤ 49) {ps : List P} (hp : dats n ps = true) (hl : ps.length ≤ 1000000) {ws : List Str} (hw : ∀ x ∈ ws, Nm x) :
    runP d_RowSetu_initu (Gk (k + 3)) [.li true false (.ins "RowSet" []), .sh (colsV (ws.map P.str)), .sh (.tup ps)] = (match (List.range ps.length).find? (badCs ws ps) with
      | some j => .exc (badK (.int (j : Nat))) [some (.li true false (.ins "RowSet" [])), none, none]
      | none => .ok (.v .non) [some (.li true false (setV' ws ps)), none, none]) := by
  rw [r_RowSetu_initu]
  have lp : ∀ F, F = pFor (pRange1 (pCall (Gk (k + 3)).Ψ "len" (pCons (pVar 2) (pNil)))) (pNam 3) (pSeq (pIf (pNotT (pTru (pCall (Gk (k + 3)).Ψ "is_case" (pCons (pVar 1) (pCons (pOp oIx (pVar 2) (pVar 3)) (pNil)))))) (pSeq (pRaise "BadCases" ["index"] (pCons (pVar 3) (pNil))) (pNilS)) (pNilS)) (pNilS)) [some (.li true false (.ins "RowSet" [])), some (.sh (colsV (ws.map P.str))), some (.sh (.tup ps)), none] →
    (∃ s, F = .ok .nx [some (.li true false (.ins "RowSet" [])), some (.sh (colsV (ws.map P.str))), some (.sh (.tup ps)), s] ∧ (List.range ps.length).find? (badCs ws ps) = none) ∨ (∃ s j, F = .exc (badK (.int (j : Nat))) [some (.li true false (.ins "RowSet" [])), some (.sh (colsV (ws.map P.str))), some (.sh (.tup ps)), s] ∧ (List.range ps.length).find? (badCs ws ps) = some j) := by
    intro F hF; rw [hF]; clear hF
    refine for_rng (n := ps.length) (pe1 := [some (.li true false (.ins "RowSet" [])), some (.sh (colsV (ws.map P.str))), some (.sh (.tup ps)), none]) (by simp [k_len, rg_small (j := ps.length) (by omega)])
      (fun i pe => (∀ j, j < i → badCs ws ps j = false) ∧ ∃ s, asgOk (some s) = true ∧ pe = [some (.li true false (.ins "RowSet" [])), some (.sh (colsV (ws.map P.str))), some (.sh (.tup ps)), s])
      (fun F => (∃ s, F = .ok .nx [some (.li true false (.ins "RowSet" [])), some (.sh (colsV (ws.map P.str))), some (.sh (.tup ps)), s] ∧ (List.range ps.length).find? (badCs ws ps) = none) ∨ (∃ s j, F = .exc (badK (.int (j : Nat))) [some (.li true false (.ins "RowSet" [])), some (.sh (colsV (ws.map P.str))), some (.sh (.tup ps)), s] ∧ (List.range ps.length).find? (badCs ws ps) = some j)) ?_ ?_ ⟨fun j hj => by omega, none, rfl, rfl⟩
    · rintro pe ⟨h1, s, hs, rfl⟩
      exact .inl ⟨s, rfl, find_no h1⟩
    · rintro i pe hi ⟨h1, s, hs, rfl⟩ kk
      have hb : ps[i]? = some ps[i] := by simp [hi]
      have hd := dats_iff.mp hp _ (List.mem_of_getElem? hb)
      have hx : atI ps (i : Int) = some ps[i] := at_nat hb
      have hc := is_case_ok k hn hd hw (a0 := .sh (colsV (ws.map P.str))) (.inl rfl)
      have hB : badCs ws ps i = !caseB ws ps[i] := by unfold badCs; rw [hb]
      cases c1 : caseB ws ps[i] with
      | false =>
        rw [c1] at hc
        right; right
        refine ⟨some (.sh (.int i)), i, ?_, find_some hi (by rw [hB, c1]; rfl) h1⟩
        simp [turn_nam, hs, hx, k_is_case, hc, finS]
      | true =>
        rw [c1] at hc
        left
        refine ⟨[some (.li true false (.ins "RowSet" [])), some (.sh (colsV (ws.map P.str))), some (.sh (.tup ps)), some (.sh (.int i))], ?_, fun j hj => ?_, _, rfl, rfl⟩
        · simp [turn_nam, hs, hx, k_is_case, hc, finS]
        · by_cases e : j < i
          · exact h1 j e
          · have : j = i := by omega
            subst this
            rw [hB, c1]; rfl
  have hne : ¬ Str.ofString "columns" = Str.ofString "given_cases" := by decide +kernel
  rcases lp _ rfl with ⟨s, e, g⟩ | ⟨s, j, e, g⟩
  · rw [g]
    simp [q_RowSetu_initu, k_isinstance, g_tuple, e, fl_RowSet_columns, fl_RowSet_given_cases, putP, hne]
  · rw [g]
    simp [q_RowSetu_initu, k_isinstance, g_tuple, e]
/-- the objects that are no tuples -/
def NoTup (p : P) : Prop := p = .non ∨ (∃ i, p = .int i) ∨ (∃ x, p = .lst x) ∨ (∃ x, p = .str x) ∨ (∃ x, p = .dic x)
theorem rinit_no (k : Nat) {p : P} (hp : NoTup p) {ws : List Str} :
    runP d_RowSetu_initu (Gk k) [.li true false (.ins "RowSet" []), .sh (colsV (ws.map P.str)), .sh p] = .exc (badK (.int (-1))) [some (.li true false (.ins "RowSet" [])), none, none] := by
  rw [r_RowSetu_initu]
  rcases hp with rfl | ⟨x, rfl⟩ | ⟨x, rfl⟩ | ⟨x, rfl⟩ | ⟨x, rfl⟩ <;> simp [q_RowSetu_initu, k_isinstance, g_tuple]
theorem mkg_ok {f : List Sl → PF} {m : List Bool} {c : Str} {sl : List Sl} {b k : Bool} {p : P} {r : List (Option Sl)} (h : f (.li true false (.ins c []) :: sl) = .ok (.v .non) (some (.li b k p) :: r)) : (makeP c ⟨m, f⟩).run sl = .ok (.o p) r := by
  unfold makeP; simp only [h]
theorem mkg_exc {f : List Sl → PF} {m : List Bool} {c : Str} {sl : List Sl} {x : PX} {a : Option Sl} {r : List (Option Sl)} (h : f (.li true false (.ins c []) :: sl) = .exc x (a :: r)) : (makeP c ⟨m, f⟩).run sl = .exc x r := by
  unfold makeP; simp only [h, List.tail_cons]
/-- what the law is told -/
def askP (ws : List Str) (ps : List P) : P := match (List.range ps.length).find? (badCs ws ps) with
  | some j => .tup [.str "wrong", .int (j : Nat)]
  | none => .tup [.str "made", .non]
theorem asked_tup (k : Nat) {n : Nat} (hn : n ≤ 49) {ps : List P} (hp : dats n ps = true) (hl : ps.length ≤ 1000000) {ws : List Str} (hw : ∀ x ∈ ws, Nm x) :
    runP d__law_asked (Gk (k + 4)) [.sh (colsV (ws.map P.str)), .sh (.tup ps)] = .ok (.v (askP ws ps)) [none, none] := by
  have i := rinit_tup k hn hp hl hw
  rw [r__law_asked]
  unfold askP
  cases h : (List.range ps.length).find? (badCs ws ps) with
  | none =>
    simp only [h] at i
    have m := mkg_ok (m := [true, false, false]) i
    simp [q__law_asked, k_RowSet, m]
  | some j =>
    simp only [h] at i
    have m := mkg_exc (m := [true, false, false]) i
    simp [q__law_asked, k_RowSet, m, mt_BadCases_BadCases, xf_BadCases_index]
theorem asked_no (k : Nat) {p : P} (hp : NoTup p) {ws : List Str} :
    runP d__law_asked (Gk (k + 1)) [.sh (colsV (ws.map P.str)), .sh p] = .ok (.v (.tup [.str "wrong", .int (-1)])) [none, none] := by
  have i := rinit_no k hp (ws := ws)
  rw [r__law_asked]
  have m := mkg_exc (m := [true, false, false]) i
  simp [q__law_asked, k_RowSet, m, mt_BadCases_BadCases, xf_BadCases_index]
end Lk04

set_option Elab.async false
set_option linter.all false
set_option maxRecDepth 100000
set_option maxHeartbeats 2000000
namespace Lk04
open PySem PySem.Spec PyProof.Rows L2 Bt Bt.Pv
/-! ### spoiled cases -/
def spoils (bs : List P) (ls : List P) (x st : Str) : List P :=
  [.non, .tup [.tup bs], .tup [.tup bs, .tup ls, .tup []], .tup [.lst bs, .tup ls], .tup [.tup bs, .lst ls], .int 7,
   .tup [.tup (bs ++ [.str st]), .tup ls], .tup [.tup [.str x, .str x], .tup []], .tup [.tup bs, .tup (ls ++ [.tup [.str x, .str x, .int 0]])],
   .tup [.tup [.str x], .tup [.tup [.str x, .str "", .int 0]]], .tup [.tup bs, .tup (ls ++ [.tup [.str "", .str x, .bl true]])], .tup [.tup bs, .tup (ls ++ [.tup [.str x, .str ""]])]]
theorem case_badl {ws : List Str} {bs ls : List P} {l : P} (h : litIn ws bs l = false) : caseB ws (.tup [.tup bs, .tup (ls ++ [l])]) = false := by
  simp [caseB, h]
theorem spoils_bad {ws : List Str} {bs ls : List P} {x st : Str} (hs : st ∉ ws) : ∀ p ∈ spoils bs ls x st, caseB ws p = false := by
  intro p hp
  simp only [spoils, List.mem_cons, List.not_mem_nil, or_false] at hp
  rcases hp with rfl | rfl | rfl | rfl | rfl | rfl | rfl | rfl | rfl | rfl | rfl | rfl
  · rfl
  · rfl
  · rfl
  · rfl
  · rfl
  · rfl
  · have : (List.range (bs ++ [P.str st]).length).all (blankAt ws (bs ++ [.str st])) = false := by
      refine all_no (j := bs.length) (by simp) ?_
      simp [blankAt, inC, hs]
    show ((List.range (bs ++ [P.str st]).length).all (blankAt ws (bs ++ [.str st])) && _) = false
    rw [this]
    rfl
  · have : (List.range 2).all (blankAt ws [.str x, .str x]) = false := by
      refine all_no (j := 1) (by decide) ?_
      simp [blankAt, memB]
    show ((List.range 2).all (blankAt ws [.str x, .str x]) && _) = false
    rw [this]
    rfl
  · exact case_badl (by simp [litIn, litB])
  · exact case_badl (ls := []) (by simp [litIn, memB])
  · exact case_badl (by simp [litIn, litB, intB])
  · exact case_badl (by simp [litIn, litB])
theorem dat_str {n : Nat} {x : Str} (h : Nm x) : dat n (.str x) = true := by
  have := h.l1
  unfold dat
  rw [h.ok]
  simp
  omega
theorem dat_str0 {n : Nat} : dat n (.str "") = true := by
  unfold dat
  decide +kernel
theorem dat_term {n : Nat} {ws : List Str} (hw : ∀ x ∈ ws, Nm x) {x : Str} (h : x ∈ terms ws) : dat n (.str x) = true := by
  rcases List.mem_cons.mp h with rfl | h
  · exact dat_str0
  · exact dat_str (hw x h)
theorem dats_strs {n : Nat} {bs : List Str} (h : ∀ x ∈ bs, Nm x) : dats n (bs.map P.str) = true := by
  rw [dats_iff]
  intro p hp
  obtain ⟨x, hx, rfl⟩ := List.mem_map.mp hp
  exact dat_str (h x hx)
theorem dats_lits {n : Nat} {ws : List Str} (hw : ∀ x ∈ ws, Nm x) {ts : List Tri} (h : LitsOk ws ts) : dats (n + 1) (ts.map litT) = true := by
  rw [dats_iff]
  intro p hp
  obtain ⟨t, ht, rfl⟩ := List.mem_map.mp hp
  obtain ⟨h1, h2, _⟩ := h t ht
  have d1 := dat_term (n := n) hw h1
  have d2 := dat_term (n := n) hw h2
  simp only [litT, litP, dat, dats, d1, d2]
  simp [dat] at d1 d2
  simp [d1, d2]
theorem dats_app {n : Nat} {xs ys : List P} (h : dats n xs = true) (h' : dats n ys = true) : dats n (xs ++ ys) = true := by
  rw [dats_iff] at h h' ⊢
  intro p hp
  rcases List.mem_append.mp hp with hp | hp
  · exact h p hp
  · exact h' p hp
theorem spoils_dat {bs ls : List P} {x st : Str} (hx : Nm x) (hst : Nm st) (d1 : dats 2 bs = true) (d1' : dats 1 bs = true) (d2 : dats 1 ls = true) (l1 : bs.length ≤ 1000) (l2 : ls.length ≤ 1000) : ∀ p ∈ spoils bs ls x st, dat 3 p = true := by
  intro p hp
  have a0 : PyData.strOk x = true ∧ x.length ≤ 1000000 := ⟨hx.ok, by have := hx.l1; omega⟩
  have a1 : PyData.strOk st = true ∧ st.length ≤ 1000000 := ⟨hst.ok, by have := hst.l1; omega⟩
  have a2 : PyData.strOk (Str.ofString "") = true ∧ (Str.ofString "").length ≤ 1000000 := ⟨str0_ok, by decide +kernel⟩
  have m1 : bs.length ≤ 1000000 := by omega
  have m2 : ls.length ≤ 1000000 := by omega
  have m3 : bs.length + 1 ≤ 1000000 := by omega
  have m4 : ls.length + 1 ≤ 1000000 := by omega
  have e1 : dats 1 (bs ++ [.str st]) = true := dats_app d1' (by simp [dats, dat, a1])
  have e2 : dats 1 (ls ++ [.tup [.str x, .str x, .int 0]]) = true := dats_app d2 (by simp [dats, dat, a0])
  have e3 : dats 1 (ls ++ [.tup [.str "", .str x, .bl true]]) = true := dats_app d2 (by simp [dats, dat, a0, a2])
  have e4 : dats 1 (ls ++ [.tup [.str x, .str ""]]) = true := dats_app d2 (by simp [dats, dat, a0, a2])
  simp only [spoils, List.mem_cons, List.not_mem_nil, or_false] at hp
  rcases hp with rfl | rfl | rfl | rfl | rfl | rfl | rfl | rfl | rfl | rfl | rfl | rfl
  all_goals simp [dat, dats, a0, a1, a2, d1, d1', d2, m1, m2, m3, m4, e1, e2, e3, e4]
theorem spoiled_ok (k : Nat) {h : P} (H : HandOk h) {ws : List Str} (w0 : 1 ≤ ws.length) (w1 : ws.length ≤ 5) (hw : ∀ x ∈ ws, Nm x) {c : Cas} (hc : CaseOk ws c) {st : Str} (hs : Nm st) (hs' : st ∉ ws) :
    ∃ (p : P) (h' : P), runP d__law_spoiled_case (Gk (k + 2)) [.li true false h, .sh (.lst (ws.map P.str)), .sh (caseP c), .sh (.str st)] = .ok (.v p) [some (.li true false h'), none, none, none] ∧ caseB ws p = false ∧ dat 3 p = true ∧ HandOk h' := by
  obtain ⟨r, h1, e1, r0, r1, H1⟩ := draw_ok k (many := ws.length) H (by omega) (by omega)
  obtain ⟨i, hi, ei, ai⟩ := at_strs (ws := ws) r0 r1
  obtain ⟨q, h2, e2, q0, q1, H2⟩ := draw_ok k (many := 12) H1 (by decide) (by decide)
  have hx := hw _ (List.getElem_mem hi)
  generalize ws[i] = x at ai hx
  obtain ⟨bs, ls⟩ := c
  have hb : ∀ y ∈ bs, Nm y := fun y hy => hw y (hc.sub y hy)
  have lb : bs.length ≤ 5 := by
    have := sub_len bs ws hc.nd hc.sub
    omega
  have ll : ls.length ≤ 4 := hc.len
  have m1 : bs.length + 1 ≤ 16777216 := by omega
  have m2 : ls.length + 1 ≤ 16777216 := by omega
  have hq : ∃ p ∈ spoils (bs.map P.str) (ls.map litT) x st, atI (spoils (bs.map P.str) (ls.map litT) x st) q = some p := by
    obtain ⟨j, rfl⟩ := Int.eq_ofNat_of_zero_le q0
    have hj : j < (spoils (bs.map P.str) (ls.map litT) x st).length := by simp [spoils]; omega
    exact ⟨_, List.getElem_mem hj, at_nat (by simp [hj])⟩
  obtain ⟨p, mp, ep⟩ := hq
  refine ⟨p, h2, ?_, spoils_bad hs' p mp, spoils_dat hx hs (dats_strs hb) (dats_strs hb) (dats_lits hw hc.lit) (by simp; omega) (by simp; omega) p mp, H2⟩
  simp only [spoils] at ep
  rw [r__law_spoiled_case]
  simp [q__law_spoiled_case, k__law_draw, k_len, k_list, e1, ai, e2, caseP, m1, m2, ep]
end Lk04

set_option Elab.async false
set_option linter.all false
set_option maxRecDepth 100000
set_option maxHeartbeats 2000000
namespace Lk04
open PySem PySem.Spec PyProof.Rows L2 Bt Bt.Pv
/-! ### the law -/
theorem good_case {ws : List Str} (hw : ∀ x ∈ ws, Nm x) {c : Cas} (h : CaseOk ws c) : caseB ws (caseP c) = true := by
  obtain ⟨bs, ls⟩ := c
  have h1 : (List.range (bs.map P.str).length).all (blankAt ws (bs.map P.str)) = true := by
    refine all_rng fun j hj => ?_
    simp at hj
    have hb : bs[j] ∈ ws := h.sub _ (List.getElem_mem hj)
    have hm : bs[j] ∉ bs.take j := by
      intro hh
      obtain ⟨i, hi, e⟩ := List.mem_iff_getElem.mp hh
      simp at hi e
      have hnd : bs.Nodup := h.nd
      have := nd_inj hnd (by omega) hj e
      omega
    have : memB (.str bs[j]) ((bs.take j).map P.str) = false := by rw [memB_strs]; simp [hm]
    rw [List.map_take] at this
    simp [blankAt, hj, inC, hb, this]
  have h2 : (ls.map litT).all (litIn ws (bs.map P.str)) = true := by
    rw [List.all_eq_true]
    intro p hp
    obtain ⟨t, ht, rfl⟩ := List.mem_map.mp hp
    obtain ⟨o1, o2, o3⟩ := h.lit t ht
    obtain ⟨f1, f2⟩ := h.off t ht
    have m1 : memB (.str t.1) (bs.map P.str) = false := by rw [memB_strs]; simp [f1]
    have m2 : memB (.str t.2.1) (bs.map P.str) = false := by rw [memB_strs]; simp [f2]
    simp only [litIn, litT, litP, litB, intB, inC, m1, m2]
    simp only [eqB_str]
    simp [o1, o2, o3]
  show ((List.range (bs.map P.str).length).all (blankAt ws (bs.map P.str)) && (ls.map litT).all (litIn ws (bs.map P.str))) = true
  rw [h1, h2]; rfl
theorem dat_case {ws : List Str} (hw : ∀ x ∈ ws, Nm x) {c : Cas} (h : CaseOk ws c) (w1 : ws.length ≤ 5) : dat 3 (caseP c) = true := by
  have lb : c.1.length ≤ 5 := by
    have := sub_len c.1 ws h.nd h.sub
    omega
  have ll := h.len
  have d1 : dats 1 (c.1.map P.str) = true := dats_strs fun x hx => hw x (h.sub x hx)
  have d2 : dats 1 (c.2.map litT) = true := dats_lits hw h.lit
  have l1 : c.1.length ≤ 1000000 := by omega
  have l2 : c.2.length ≤ 1000000 := by omega
  simp [caseP, dat, dats, d1, d2, l1, l2]
/-- what is due for cases of which these are spoiled -/
structure Spo (ws : List Str) (cs : List Cas) (ps : List P) (due : P) : Prop where
  len : ps.length = cs.length
  dat : dats 3 ps = true
  ask : askP ws ps = due
theorem spo_0 {ws : List Str} (hw : ∀ x ∈ ws, Nm x) (w1 : ws.length ≤ 5) {cs : List Cas} (hc : CasesOk ws cs) : Spo ws cs (cs.map caseP) (.tup [.str "made", .non]) := by
  refine ⟨by simp, dats_iff.mpr fun p hp => ?_, ?_⟩
  · obtain ⟨c, h, rfl⟩ := List.mem_map.mp hp
    exact dat_case hw (hc c h) w1
  · unfold askP
    rw [find_no]
    intro i hi
    simp at hi
    simp [badCs, hi, good_case hw (hc _ (List.getElem_mem hi))]
theorem spo_1 {ws : List Str} (hw : ∀ x ∈ ws, Nm x) (w1 : ws.length ≤ 5) {cs : List Cas} (hc : CasesOk ws cs) {a : Nat} (ha : a < cs.length) {p : P} (hp : caseB ws p = false) (hd : dat 3 p = true) : Spo ws cs ((cs.map caseP).set a p) (.tup [.str "wrong", .int a]) := by
  have h0 := spo_0 hw w1 hc
  refine ⟨by simp, dats_iff.mpr fun q hq => ?_, ?_⟩
  · rcases List.mem_or_eq_of_mem_set hq with h | rfl
    · exact dats_iff.mp h0.dat q h
    · exact hd
  · unfold askP
    rw [find_some (j := a) (by simp; omega)]
    · simp [badCs, ha, hp]
    · intro i hi
      have hi' : i < cs.length := by omega
      simp [badCs, List.getElem?_set, show ¬ a = i by omega, hi', good_case hw (hc _ (List.getElem_mem hi'))]
theorem spo_2 {ws : List Str} (hw : ∀ x ∈ ws, Nm x) (w1 : ws.length ≤ 5) {cs : List Cas} (hc : CasesOk ws cs) {a b : Nat} (ha : a < cs.length) (hb : b < cs.length) (hne : a ≠ b) {p q : P} (hp : caseB ws p = false) (hd : dat 3 p = true) (hp' : caseB ws q = false) (hd' : dat 3 q = true) : Spo ws cs (((cs.map caseP).set a p).set b q) (.tup [.str "wrong", .int ((if b < a then b else a : Nat) : Int)]) := by
  have h0 := spo_1 hw w1 hc ha hp hd
  refine ⟨by simp, dats_iff.mpr fun x hx => ?_, ?_⟩
  · rcases List.mem_or_eq_of_mem_set hx with h | rfl
    · exact dats_iff.mp h0.dat x h
    · exact hd'
  · unfold askP
    by_cases hl : b < a
    · rw [find_some (j := b) (by simp; omega)]
      · simp [hl]
      · simp [badCs, hb, hp']
      · intro i hi
        have hi' : i < cs.length := by omega
        simp [badCs, List.getElem?_set, show ¬ a = i by omega, show ¬ b = i by omega, hi', good_case hw (hc _ (List.getElem_mem hi'))]
    · rw [find_some (j := a) (by simp; omega)]
      · simp [hl]
      · simp [badCs, List.getElem?_set, ha, hp, hne, Ne.symm hne]
      · intro i hi
        have hi' : i < cs.length := by omega
        simp [badCs, List.getElem?_set, show ¬ a = i by omega, show ¬ b = i by omega, hi', good_case hw (hc _ (List.getElem_mem hi'))]
theorem ixn_nat {n i : Nat} (h : i < n) : ixN n (i : Int) = some i := by
  unfold ixN
  have h1 : (0 : Int) ≤ i := by omega
  have h2 : (i : Int) < n := by omega
  simp [h1, h2]
def madeP : P := .tup [.str "made", .non]
def wrongP (a : Nat) : P := .tup [.str "wrong", .int a]
/-- the state after some turns -/
def Turns (ws : List Str) (cs : List Cas) (i : Nat) (ps : List P) (due : P) : Prop :=
  (i < 2 → (ps = cs.map caseP ∧ due = madeP) ∨ ∃ a p, i = 1 ∧ a < cs.length ∧ caseB ws p = false ∧ dat 3 p = true ∧ ps = (cs.map caseP).set a p ∧ due = wrongP a) ∧ Spo ws cs ps due
theorem law_loop (k : Nat) {h : P} (H : HandOk h) {ws : List Str} (w0 : 1 ≤ ws.length) (w1 : ws.length ≤ 5) (hw : ∀ x ∈ ws, Nm x) {cs : List Cas} (hc : CasesOk ws cs) (cl : cs.length ≤ 5) {st : Str} (hs : Nm st) (hs' : st ∉ ws) (a0 a2 a3 a5 a8 : Option Sl) :
    ∃ (ps : List P) (due : P) (h' : P) (s10 s11 : Option Sl), pFor (pRange1 (pCall (Gk (k + 3)).Ψ "_law_draw" (pCons (pVar 1) (pCons (pC (.int 3)) (pNil))))) (pNam 10) (pSeq (pIf (pTest (pOp oGt (pCall (Gk (k + 3)).Ψ "len" (pCons (pVar 6) (pNil))) (pC (.int 0)))) (pSeq (pAsg (pCall (Gk (k + 3)).Ψ "_law_draw" (pCons (pVar 1) (pCons (pCall (Gk (k + 3)).Ψ "len" (pCons (pVar 6) (pNil))) (pNil)))) (pNam 11)) (pSeq (pIf (pOrT (pTest (pOp oIs (pOp oIx (pVar 9) (pC (.int 1))) (pC .non))) (pTest (pOp neT (pVar 11) (pOp oIx (pVar 9) (pC (.int 1)))))) (pSeq (pIf (pAndT (pTru (pCall (Gk (k + 3)).Ψ "isinstance" (pCons (pOp oIx (pVar 6) (pVar 11)) (pCons (pGlob (Gk (k + 3)).Ψ "tuple") (pNil))))) (pAndT (pTest (pOp (eqT (Gk (k + 3)).Ψ) (pCall (Gk (k + 3)).Ψ "len" (pCons (pOp oIx (pVar 6) (pVar 11)) (pNil))) (pC (.int 2)))) (pTest (pOp (eqT (Gk (k + 3)).Ψ) (pVar 10) (pC (.int 0)))))) (pSeq (pAsg (pCall (Gk (k + 3)).Ψ "_law_spoiled_case" (pCons (pVar 1) (pCons (pVar 4) (pCons (pOp oIx (pVar 6) (pVar 11)) (pCons (pVar 7) (pNil)))))) (pSub (pVar 6) (pVar 11))) (pSeq (pAsg (pTup (pCons (pC (.str "wrong")) (pCons (pVar 11) (pNil)))) (pNam 9)) (pNilS))) (pSeq (pIf (pTest (pOp (eqT (Gk (k + 3)).Ψ) (pVar 10) (pC (.int 1)))) (pSeq (pAsg (pCall (Gk (k + 3)).Ψ "_law_spoiled_case" (pCons (pVar 1) (pCons (pVar 4) (pCons (pOp oIx (pVar 6) (pVar 11)) (pCons (pVar 7) (pNil)))))) (pSub (pVar 6) (pVar 11))) (pSeq (pIf (pOrT (pTest (pOp oIs (pOp oIx (pVar 9) (pC (.int 1))) (pC .non))) (pTest (pOp oLt (pVar 11) (pOp oIx (pVar 9) (pC (.int 1)))))) (pSeq (pAsg (pTup (pCons (pC (.str "wrong")) (pCons (pVar 11) (pNil)))) (pNam 9)) (pNilS)) (pNilS)) (pNilS))) (pNilS)) (pNilS))) (pNilS)) (pNilS)) (pNilS))) (pNilS)) (pNilS)) [a0, some (.li false false h), a2, a3, some (.sh (.lst (ws.map P.str))), a5, some (.li false false (.lst (cs.map caseP))), some (.sh (.str st)), a8, some (.sh (.tup [.str "made", .non])), none, none] = .ok .nx [a0, some (.li false false h'), a2, a3, some (.sh (.lst (ws.map P.str))), a5, some (.li false false (.lst ps)), some (.sh (.str st)), a8, some (.sh due), s10, s11] ∧ Spo ws cs ps due := by
  obtain ⟨q, h1, e1, q0, q1, H1⟩ := draw_ok (k + 1) (many := 3) H (by decide) (by decide)
  obtain ⟨n, rfl⟩ := Int.eq_ofNat_of_zero_le q0
  generalize hF : pFor _ _ _ _ = F
  have hz : ∃ pe', F = .ok .nx pe' ∧ ∃ (ps : List P) (due : P) (h' : P) (s10 s11 : Option Sl), pe' = [a0, some (.li false false h'), a2, a3, some (.sh (.lst (ws.map P.str))), a5, some (.li false false (.lst ps)), some (.sh (.str st)), a8, some (.sh due), s10, s11] ∧ asgOk (some s10) = true ∧ asgOk (some s11) = true ∧ Turns ws cs n ps due ∧ HandOk h' := by
    rw [← hF]
    refine for_end (n := n) (pe1 := [a0, some (.li false false h1), a2, a3, some (.sh (.lst (ws.map P.str))), a5, some (.li false false (.lst (cs.map caseP))), some (.sh (.str st)), a8, some (.sh (.tup [.str "made", .non])), none, none]) (by simp [k__law_draw, e1, rg_small (j := n) (by omega)]) (fun i pe' => ∃ (ps : List P) (due : P) (h' : P) (s10 s11 : Option Sl), pe' = [a0, some (.li false false h'), a2, a3, some (.sh (.lst (ws.map P.str))), a5, some (.li false false (.lst ps)), some (.sh (.str st)), a8, some (.sh due), s10, s11] ∧ asgOk (some s10) = true ∧ asgOk (some s11) = true ∧ Turns ws cs i ps due ∧ HandOk h') ?_ ⟨_, _, h1, none, none, rfl, rfl, rfl, ⟨fun _ => .inl ⟨rfl, rfl⟩, spo_0 hw w1 hc⟩, H1⟩
    rintro i pe hi ⟨ps, due, hh, s10, s11, rfl, g10, g11, ⟨T, S⟩, H2⟩ kk
    have hl : (ps.length : Int) = cs.length := by rw [S.len]
    by_cases hz : cs.length = 0
    · refine ⟨[a0, some (.li false false hh), a2, a3, some (.sh (.lst (ws.map P.str))), a5, some (.li false false (.lst ps)), some (.sh (.str st)), a8, some (.sh due), some (.sh (.int i)), s11], ?_, ps, due, hh, _, _, rfl, rfl, g11, ⟨fun h => ?_, S⟩, H2⟩
      · simp [turn_nam, g10, k_len, len_l, hl, hz]
      · rcases T (by omega) with T | ⟨a, p, _, h1, _⟩
        · exact .inl T
        · omega
    · have hz' : (0 : Int) < cs.length := by omega
      have hzn : 0 < cs.length := by omega
      obtain ⟨d, h3, e3, d0, d1, H3⟩ := draw_ok (k + 1) (many := cs.length) H2 hz' (by omega)
      obtain ⟨b, rfl⟩ := Int.eq_ofNat_of_zero_le d0
      have hb : b < cs.length := by omega
      have okc := hc _ (List.getElem_mem hb)
      have xn := ixn_nat (n := cs.length) hb
      obtain ⟨p, h4, e4, p1, p2, H4⟩ := spoiled_ok k H3 w0 w1 hw okc hs hs'
      have i2 : i < 2 := by omega
      have w9 : ∀ a : Nat, atI [P.str "wrong", P.int a] 1 = some (.int a) := fun _ => rfl
      have m9 : atI [P.str "made", P.non] 1 = some .non := rfl
      rcases T i2 with ⟨rfl, rfl⟩ | ⟨a, p', rfl, ha, r1, r2, rfl, rfl⟩
      · have xb : atI (cs.map caseP) (b : Int) = some (caseP cs[b]) := at_nat (by simp [hb])
        have hi01 : i = 0 ∨ i = 1 := by omega
        refine ⟨[a0, some (.li false false h4), a2, a3, some (.sh (.lst (ws.map P.str))), a5, some (.li false false (.lst ((cs.map caseP).set b p))), some (.sh (.str st)), a8, some (.sh (wrongP b)), some (.sh (.int i)), some (.sh (.int b))], ?_, _, _, h4, _, _, rfl, rfl, rfl, ⟨fun h => .inr ⟨b, p, by omega, hb, p1, p2, rfl, rfl⟩, spo_1 hw w1 hc hb p1 p2⟩, H4⟩
        rcases hi01 with rfl | rfl
        · simp [turn_nam, g10, g11, k_len, len_l, hz, hz', hzn, k__law_draw, e3, madeP, m9, k_isinstance, g_tuple, xb, caseP, k__law_spoiled_case, wrongP]
          simp [caseP] at e4
          simp [e4, xn]
        · simp [turn_nam, g10, g11, k_len, len_l, hz, hz', hzn, k__law_draw, e3, madeP, m9, k_isinstance, g_tuple, xb, caseP, k__law_spoiled_case, wrongP]
          simp [caseP] at e4
          simp [e4, xn, m9]
      · by_cases hab : b = a
        · subst hab
          refine ⟨[a0, some (.li false false h3), a2, a3, some (.sh (.lst (ws.map P.str))), a5, some (.li false false (.lst ((cs.map caseP).set b p'))), some (.sh (.str st)), a8, some (.sh (wrongP b)), some (.sh (.int (1 : Nat))), some (.sh (.int b))], ?_, _, _, h3, _, _, rfl, rfl, rfl, ⟨fun h => by omega, S⟩, H3⟩
          simp [turn_nam, g10, g11, k_len, len_l, hz, hz', hzn, k__law_draw, e3, wrongP, w9]
        · have hab' : ¬ (b : Int) = a := by omega
          have hba : ¬ a = b := fun e => hab e.symm
          have xb : atI ((cs.map caseP).set a p') (b : Int) = some (caseP cs[b]) := at_nat (by simp [List.getElem?_set, hb, hba])
          refine ⟨[a0, some (.li false false h4), a2, a3, some (.sh (.lst (ws.map P.str))), a5, some (.li false false (.lst (((cs.map caseP).set a p').set b p))), some (.sh (.str st)), a8, some (.sh (wrongP (if b < a then b else a))), some (.sh (.int (1 : Nat))), some (.sh (.int b))], ?_, _, _, h4, _, _, rfl, rfl, rfl, ⟨fun h => by omega, spo_2 hw w1 hc ha hb hba r1 r2 p1 p2⟩, H4⟩
          simp [turn_nam, g10, g11, k_len, len_l, hz, hz', hzn, k__law_draw, e3, w9, hab', k_isinstance, g_tuple, xb, caseP, k__law_spoiled_case, wrongP]
          simp [caseP] at e4
          by_cases hlt : b < a
          · have hlt' : (b : Int) < a := by omega
            simp [e4, xn, w9, hlt, hlt']
          · have hlt' : ¬ (b : Int) < a := by omega
            simp [e4, xn, w9, hlt, hlt']
  obtain ⟨pe', e, ps, due, h', s10, s11, rfl, _, _, T, H'⟩ := hz
  exact ⟨ps, due, h', s10, s11, e, T.2⟩
theorem dat_made {n : Nat} : dat (n + 1) madeP = true := by
  have a : PyData.strOk (Str.ofString "made") = true ∧ (Str.ofString "made").length ≤ 1000000 := by decide +kernel
  simp [madeP, dat, dats, a]
theorem dat_wrong {n : Nat} (i : Int) : dat (n + 1) (.tup [.str "wrong", .int i]) = true := by
  have a : PyData.strOk (Str.ofString "wrong") = true ∧ (Str.ofString "wrong").length ≤ 1000000 := by decide +kernel
  simp [dat, dats, a]
theorem same_made : samB madeP madeP = true := by simp [madeP, samB, samBs]
theorem same_wrong (i : Int) : samB (.tup [.str "wrong", .int i]) (.tup [.str "wrong", .int i]) = true := by simp [samB, samBs]
theorem ask_cases (ws : List Str) (ps : List P) : askP ws ps = madeP ∨ ∃ i : Int, askP ws ps = .tup [.str "wrong", .int i] := by
  unfold askP
  split
  · exact .inr ⟨_, rfl⟩
  · exact .inl rfl
theorem law_ok (k : Nat) (ns : List Int) : ∃ fin, runP d_law (Gk (k + 6)) [.sh (.fz (ns.map P.int))] = .ok (.v (.bl true)) fin := by
  obtain ⟨h1, e1, H1⟩ := hand_ok (k + 5) ns
  obtain ⟨u, h2, e2, H2⟩ := unit_ok (k + 3) H1
  obtain ⟨ws, ts, co, h3, e3, w0, w1, wd, wn, td, tw, t0, t1, _, _, _, _, H3⟩ := world_ok k H2 3 4 (by decide) (by decide) (by decide) (by decide) u [.int 0, .int 0, .int 0]
  have e4 := columns_ok (k + 3) (n := 1) (by decide) (ps := ws.map P.str) (dats_strs wn) (by simpa using w0) (by simp; omega) (a0 := .sh (.lst (ws.map P.str))) (.inl rfl)
  unfold colsR at e4
  rw [due_of wn wd w0 (by omega)] at e4
  simp only [finS] at e4
  obtain ⟨cs, h4, e5, cw, cl, H4⟩ := cases_ok (k + 2) H3 (by omega) wd wn t0 (by omega) tw 5 (by decide)
  obtain ⟨st, h5, e6, s1, s2, H5⟩ := name_ok (k + 2) H4 (ws := ws) (fun x hx => (wn x hx).ok) (by omega) (a1 := .sh (.lst (ws.map P.str))) (.inl rfl)
  obtain ⟨d, h6, e7, d0, d1, H6⟩ := draw_ok (k + 4) (many := 8) H5 (by decide) (by decide)
  simp only [finS] at e6
  simp at e3 e5
  have x0 : atI [P.lst (ws.map P.str), .lst (ts.map litT), .lst (co.map P.str), .lst [.int 0, .int 0, .int 0]] 0 = some (.lst (ws.map P.str)) := rfl
  have x1 : atI [P.lst (ws.map P.str), .lst (ts.map litT), .lst (co.map P.str), .lst [.int 0, .int 0, .int 0]] 1 = some (.lst (ts.map litT)) := rfl
  rw [r_law]
  by_cases hd : d = 1
  · obtain ⟨q, h7, e8, q0, q1, H7⟩ := draw_ok (k + 4) (many := 5) H6 (by decide) (by decide)
    obtain ⟨p, np, ep⟩ : ∃ p, NoTup p ∧ atI [P.non, .int 5, .lst (cs.map caseP), .str "", .dic []] q = some p := by
      have : q = 0 ∨ q = 1 ∨ q = 2 ∨ q = 3 ∨ q = 4 := by omega
      rcases this with rfl | rfl | rfl | rfl | rfl
      · exact ⟨_, .inl rfl, rfl⟩
      · exact ⟨_, .inr (.inl ⟨_, rfl⟩), rfl⟩
      · exact ⟨_, .inr (.inr (.inl ⟨_, rfl⟩)), rfl⟩
      · exact ⟨_, .inr (.inr (.inr (.inl ⟨_, rfl⟩))), rfl⟩
      · exact ⟨_, .inr (.inr (.inr (.inr ⟨_, rfl⟩))), rfl⟩
    have e9 := asked_no (k + 4) np (ws := ws)
    have e10 := same_ok 1 (k + 4) _ _ (dat_wrong (n := 0) (-1)) (dat_wrong (n := 0) (-1))
    rw [same_wrong] at e10
    simp [q_law, k__law_hand, e1, k__law_unit, e2, k__law_world, e3, x0, k__law_columns, e4, x1, k__law_cases, k_list, e5, k__law_name, e6, k__law_draw, e7, hd, e8, ep, k__law_asked, e9, k__law_same, e10]
  · obtain ⟨ps, due, h7, s10, s11, e8, S⟩ := law_loop (k + 3) H6 w0 (by omega) wn cw cl s1 s2 (some (.sh (.fz (ns.map P.int)))) (some (.sh (.int u))) (some (.li false false (.lst [.lst (ws.map P.str), .lst (ts.map litT), .lst (co.map P.str), .lst [.int 0, .int 0, .int 0]]))) (some (.li false false (colsV (ws.map P.str)))) none
    have e9 := asked_tup (k + 1) (n := 3) (by decide) S.dat (by rw [S.len]; omega) wn
    rw [S.ask] at e9
    have e10 : runP d__law_same (Gk (k + 4 + 1)) [.sh due, .sh due] = .ok (.v (.bl true)) [none, none] := by
      have hh := same_ok 1 (k + 4)
      rcases ask_cases ws ps with h | ⟨i, h⟩
      · rw [S.ask] at h
        rw [h, hh _ _ dat_made dat_made, same_made]
      · rw [S.ask] at h
        rw [h, hh _ _ (dat_wrong i) (dat_wrong i), same_wrong]
    simp [q_law, k__law_hand, e1, k__law_unit, e2, k__law_world, e3, x0, k__law_columns, e4, x1, k__law_cases, k_list, e5, k__law_name, e6, k__law_draw, e7, hd, e8, k__law_asked, k_tuple, e9, k__law_same, e10]
theorem law_true (ns : List Int) (hl : ns.length ≤ 63) : ∃ fin, runP d_law (Gk 6) [.sh (.fz (ns.map P.int))] = .ok (.v (.bl true)) fin := law_ok 0 ns
end Lk04

set_option Elab.async false
set_option linter.all false
set_option maxRecDepth 100000
set_option maxHeartbeats 0
namespace Lk04
open PySem PySem.Spec PyProof.Rows L2 Bt
def lo0 : List PySem.Str := ["BatchError", "BadColumns", "NoRow", "BadCases", "Unlike", "Columns", "RowSet", "_wall", "LETTERS", "RESERVED", "MOST_COLUMNS", "LONGEST_NAME", "is_integer", "is_name", "is_row", "is_term", "is_literal", "negated", "solve", "subset", "is_case", "present", "fits", "tightest", "possible", "same_blank", "cut_out", "remaining", "common", "every_case"]
def lo1 : List PySem.Str := ["_law_hand", "_law_mixed", "_law_draw", "_law_name", "_law_names", "_law_unit", "_law_number", "_law_literal", "_law_pool", "_law_world", "_law_same", "_law_columns", "_law_case", "_law_cases", "_law_spoiled_case", "_law_asked"]
def loose : List PySem.Str := lo0 ++ lo1
abbrev Rw : PySem.W.OpenRow := PySem.W.OpenLaw.row PySem.Challenge.rw_batchtests_k04_row_sets_refused
abbrev hk : PySem.W.Hook := hookB 4 Pg T d_law
def ob (s : PySem.W.SharedT) : AlB := obsB 4 Pg T d_law (HandSHeadRun.getT s)
theorem ob_eq (s : PySem.W.SharedT) : ob s = hk.obs s.abs := obsB_eq (HandSHeadRun.getT_eq s)
theorem run (w : World) : HandSHeadRun.RunEq Rw (PySem.W.view Rw.prog [51]) hk ob 4000 loose w := by
  intro os
  kernel_rfl
end Lk04

set_option Elab.async false
set_option linter.all false
set_option maxRecDepth 100000
set_option maxHeartbeats 0
open PySem PySem.W PyProof.Rows
theorem PySem.Challenge.cw_batchtests_k04_row_sets_refused_holds : PySem.Challenge.rw_batchtests_k04_row_sets_refused.Holds := by
  w_on; o_law
  refine HandSHeadRun.head_any (r := OpenLaw.row PySem.Challenge.rw_batchtests_k04_row_sets_refused) (q := view (OpenLaw.row PySem.Challenge.rw_batchtests_k04_row_sets_refused).prog [51]) (H := Lk04.hk) (ob := Lk04.ob) (M := 4000) (loose := Lk04.loose) (d := HandSHeadRun.topDef (OpenLaw.row PySem.Challenge.rw_batchtests_k04_row_sets_refused).prog 51) (kwd := []) Lk04.ob_eq
    (by kernel_rfl) (fun s => by kernel_rfl) Lk04.run (by kernel_rfl) (by kernel_rfl) (by kernel_rfl) (by rfl) (by first | assumption | decide +kernel) (by decide +kernel) ⟨rfl, rfl, rfl, rfl, rfl, by decide +kernel⟩ ?hw ?hc
  case hw => w_witness2
  case hc =>
    refine Bt.walk_ofW (l := PySem.Challenge.rw_batchtests_k04_row_sets_refused) (most := 63) (lev := 3 * 6 + 3) (prm := "_law_script") (cx := fun w => L2.CX Lk04.Pg w) rfl (by decide) (by kernel_rfl) ⟨rfl, by decide, by decide⟩ ?F (fun w H s e s' z => Bt.cx_false z)
    case F =>
      intro w mg fa h Y G hm0
      obtain ⟨K, KX, c⟩ := Y
      have hm : mg ("law" : PySem.Str) = some (.ref fa) := by
        have e : (HandSHeadRun.topDef (OpenLaw.row PySem.Challenge.rw_batchtests_k04_row_sets_refused).prog 51).name = ("law" : PySem.Str) := by kernel_rfl
        rw [← e]
        exact hm0
      exact Bt.law_F (P := Lk04.Pg) (T := Lk04.T) (law := Lk04.d_law) KX G hm c Lk04.tx rfl rfl rfl 6 (fun ns hl => by
        obtain ⟨fin, e⟩ := Lk04.law_true ns hl
        exact Bt.Pv.law_pure (T := Lk04.T) (by decide +kernel) Lk04.mk e)

