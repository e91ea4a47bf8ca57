import PyProof.Rows.All
import Wide.All
import OpenK.AllK
import Wide.FinOn
import HandS.ForMost
import HandS.Exc
import HandS.Walk
import HandS.ExcOwn
import HandS.WordsExc
import HandS.TryOnly
import HandS.Lambda
import HandS.Flow
import HandS.IsInst
import HandS.Conv
import HandS.Text
import HandS.Deep
import HandS.ListItems
import HandS.StrMore
import HandS.SetKeys
import HandS.SortInts
import HandS.DictComp
import HandS.TryMany
import HandS.ExcField
import HandS.ExcInit
import KE.GoesEnum
import HandS.Zip
import PyProof.ListStr
import HandS.Defaults
import HandS.Style
import HandS.EndTab
import PySem.Challenge.RW_facesmeet_k24_whole_tokens_of_texts
set_option Elab.async false
set_option linter.all false
set_option maxRecDepth 100000
set_option maxHeartbeats 1000000
/-! Mi: a plain model of what a def does (values D, a store of objects), over the hand layer -/
namespace Mi
open PySem PySem.Spec PyProof.Rows L2

/-- a value of the model -/
inductive D where
  | non | bl (b : Bool) | int (i : Int) | str (s : Str) | tup (xs : List D)
  | seq (xs : List D) | ref (j : Nat) | glb (x : Str) | bty (n : String)
/-- an object of the store -/
inductive MO where
  | lst (xs : List D)
  | dK (kvs : List (Key × D)) | dT (kvs : List (List Key × D)) | lK (kvs : List (Key × D)) | lT (kvs : List (List Key × D))
  | ins (C : Str) (fs : List (Str × D))
abbrev Sto := List MO
abbrev Slots := List (Option D)
inductive R (α : Type) where
  | ok (a : α) (S : Sto) | exc (c f : Str) (d : D) (S : Sto) | no
def R.bind {α β : Type} (r : R α) (k : α → Sto → R β) : R β :=
  match r with
  | .ok a S => k a S
  | .exc c f d S => .exc c f d S
  | .no => .no
@[simp] theorem R.bind_ok {α β : Type} (a : α) (S : Sto) (k : α → Sto → R β) : (R.ok a S).bind k = k a S := rfl
@[simp] theorem R.bind_exc {α β : Type} (c f : Str) (d : D) (S : Sto) (k : α → Sto → R β) : (R.exc c f d S : R α).bind k = .exc c f d S := rfl
@[simp] theorem R.bind_no {α β : Type} (k : α → Sto → R β) : (R.no : R α).bind k = .no := rfl

/-- the longest list or text that the model makes -/
def lim : Nat := 1000000
theorem lim_le : lim ≤ sizeLine := by decide
/-- a text of the model: not too long, of right code points -/
def txtOk (x : Str) : Bool := decide (x.length ≤ lim) && PyData.strOk x
theorem txtOk_len {x : Str} (h : txtOk x = true) : x.length ≤ sizeLine := by
  unfold txtOk at h
  rw [Bool.and_eq_true, decide_eq_true_eq] at h
  exact Nat.le_trans h.1 lim_le
theorem txtOk_ok {x : Str} (h : txtOk x = true) : PyData.strOk x = true := by
  unfold txtOk at h
  rw [Bool.and_eq_true] at h
  exact h.2
/-! ### how a value of the model is a value of the machine -/
mutual
inductive Rp (K : PySem.W.Frag) (mg : Str → Option Value) (H : Hp) (m : List Addr) : D → V → Prop
  | non : Rp K mg H m .non .non
  | bl (b : Bool) : Rp K mg H m (.bl b) (.bl b)
  | int (i : Int) : Rp K mg H m (.int i) (.int i)
  | str (x : Str) : txtOk x = true → Rp K mg H m (.str x) (.str x)
  | tup {a : Addr} {xs : List V} {ds : List D} : H a = some (.tup xs) → Rps K mg H m ds xs → Rp K mg H m (.tup ds) (.ref a)
  | seq {a : Addr} {o : Obj} {xs : List V} {ds : List D} : H a = some (.frz o (.lst xs)) → Rps K mg H m ds xs → Rp K mg H m (.seq ds) (.ref a)
  | seqK {a : Addr} {xs : List V} {ds : List D} : (∀ G : Hp, SqL K G a xs) → Rps K mg H m ds xs → Rp K mg H m (.seq ds) (.ref a)
  | ref {j : Nat} {a : Addr} : m[j]? = some a → Rp K mg H m (.ref j) (.ref a)
  | glb {x : Str} {a : Addr} : mg x = some (.ref a) → Rp K mg H m (.glb x) (.ref a)
  | bty (n : String) : Rp K mg H m (.bty n) (.ty n)
inductive Rps (K : PySem.W.Frag) (mg : Str → Option Value) (H : Hp) (m : List Addr) : List D → List V → Prop
  | nil : Rps K mg H m [] []
  | cons {d : D} {v : V} {ds : List D} {vs : List V} : Rp K mg H m d v → Rps K mg H m ds vs → Rps K mg H m (d :: ds) (v :: vs)
end

/-- the fields of an instance, the pairs of a dict -/
def Rpf {κ : Type} (K : PySem.W.Frag) (mg : Str → Option Value) (H : Hp) (m : List Addr) : List (κ × D) → List (κ × V) → Prop :=
  Paired fun p q => p.1 = q.1 ∧ Rp K mg H m p.2 q.2

def keyOk : Key → Bool
  | .inl _ => true
  | .inr x => txtOk x
def keysOk (kvs : List (Key × D)) : Bool := kvs.all fun p => keyOk p.1
def keysOkT (kvs : List (List Key × D)) : Bool := kvs.all fun p => p.1.all keyOk
def OkO (K : PySem.W.Frag) (mg : Str → Option Value) (H : Hp) (m : List Addr) (a : Addr) : MO → Prop
  | .lst ds => ∃ vs, H a = some (.lst vs) ∧ Rps K mg H m ds vs
  | .dK kvs => ∃ vs, H a = some (.dK vs) ∧ Rpf K mg H m kvs vs ∧ keysOk kvs = true
  | .dT kvs => ∃ vs, H a = some (.dT vs) ∧ Rpf K mg H m kvs vs ∧ keysOkT kvs = true
  | .lK kvs => ∃ o vs, H a = some (.frz o (.dK vs)) ∧ Rpf K mg H m kvs vs ∧ keysOk kvs = true
  | .lT kvs => ∃ o vs, H a = some (.frz o (.dT vs)) ∧ Rpf K mg H m kvs vs ∧ keysOkT kvs = true
  | .ins C fs => ∃ ca dx vs, mg C = some (.ref ca) ∧ H a = some (.ins ca dx vs) ∧ Rpf K mg H m fs vs

/-- the tables of code objects that are looked at -/
class TabsOf where
  tabs : List (Addr × Str)
variable [TabsOf]
/-- the store S stands in the heap H, its j-th object at m[j] -/
structure Stt (K : PySem.W.Frag) (mg : Str → Option Value) (H : Hp) (m : List Addr) (S : Sto) : Prop where
  len : m.length = S.length
  nd : m.Nodup
  obj : ∀ (j : Nat) (o : MO) (a : Addr), S[j]? = some o → m[j]? = some a → OkO K mg H m a o
  tab : LamX.Tabs TabsOf.tabs H
/-- the slots -/
structure Sl (K : PySem.W.Frag) (mg : Str → Option Value) (H : Hp) (m : List Addr) (e : Slots) (σ : L2.St) : Prop where
  len : e.length = σ.length
  val : ∀ (i : Nat) (d : D), e[i]? = some (some d) → ∃ v, σ[i]? = some (some v) ∧ Rp K mg H m d v
/-- what is no object of the store stays; what is new to it was free -/
structure Gr (H : Hp) (m : List Addr) (H' : Hp) (m' : List Addr) : Prop where
  pre : ∃ n, m' = m ++ n
  keep : ∀ a o, H a = some o → a ∉ m → (∀ ps, o ≠ .tbl ps) → H' a = some o
  new : ∀ a o, a ∈ m' → a ∉ m → H a = some o → ∃ ps, o = .tbl ps
  frz : ∀ a o u, H a = some (.frz o u) → H' a = some (.frz o u)
theorem Gr.kp {H : Hp} {m : List Addr} {H' : Hp} {m' : List Addr} (g : Gr H m H' m') {a : Addr} {o : HO} (h : H a = some o) (n : a ∉ m) (t : ∀ ps, o ≠ .tbl ps := by intro _ z; cases z) : H' a = some o := g.keep a o h n t
theorem Gr.not {H : Hp} {m : List Addr} {H' : Hp} {m' : List Addr} (g : Gr H m H' m') {a : Addr} {o : HO} (h : H a = some o) (n : a ∉ m) (t : ∀ ps, o ≠ .tbl ps := by intro _ z; cases z) : a ∉ m' := fun z =>
  let ⟨ps, e⟩ := g.new a o z n h; t ps e
theorem Gr.refl (H : Hp) (m : List Addr) : Gr H m H m := ⟨⟨[], by simp⟩, fun _ _ h _ _ => h, fun _ _ h n _ => absurd h n, fun _ _ _ h => h⟩
theorem Gr.trans {H H1 H2 : Hp} {m m1 m2 : List Addr} (a : Gr H m H1 m1) (b : Gr H1 m1 H2 m2) : Gr H m H2 m2 := by
  obtain ⟨n1, e1⟩ := a.pre
  obtain ⟨n2, e2⟩ := b.pre
  refine ⟨⟨n1 ++ n2, by rw [e2, e1, List.append_assoc]⟩, fun x o h n t => b.keep x o (a.keep x o h n t) (a.not h n t) t, fun x o h n ho => ?_, fun x o u h => b.frz x o u (a.frz x o u h)⟩
  by_cases t : ∀ ps, o ≠ .tbl ps
  · exact (b.not (a.keep x o ho n t) (a.not ho n t) t h).elim
  · exact Classical.byContradiction fun z => t fun ps e => z ⟨ps, e⟩
theorem Gr.get {H H' : Hp} {m m' : List Addr} (g : Gr H m H' m') {j : Nat} {a : Addr} (h : m[j]? = some a) : m'[j]? = some a := by
  obtain ⟨n, rfl⟩ := g.pre
  rw [List.getElem?_append_left (List.getElem?_eq_some_iff.mp h).1]
  exact h
theorem Gr.mem {H H' : Hp} {m m' : List Addr} (g : Gr H m H' m') {a : Addr} (h : a ∈ m) : a ∈ m' := by
  obtain ⟨n, rfl⟩ := g.pre
  exact List.mem_append_left _ h

section
variable {K : PySem.W.Frag} {mg : Str → Option Value} {H H' : Hp} {m m' : List Addr} {S : Sto}
/-- an object of the store is none that stands still by itself -/
def stoKind : HO → Bool
  | .lst _ | .dK _ | .dT _ | .ins .. => true
  | .frz _ (.dK _) | .frz _ (.dT _) => true
  | _ => false
theorem Stt.kind (st : Stt K mg H m S) {a : Addr} (h : a ∈ m) : ∃ o, H a = some o ∧ stoKind o = true := by
  obtain ⟨j, hj, rfl⟩ := List.getElem_of_mem h
  have hs : j < S.length := by rw [← st.len]; exact hj
  have q := st.obj j S[j] m[j] (by simp [hs]) (by simp [hj])
  cases e : S[j] with
  | lst ds => rw [e] at q; obtain ⟨vs, h1, _⟩ := q; exact ⟨_, h1, rfl⟩
  | dK ds => rw [e] at q; obtain ⟨vs, h1, _⟩ := q; exact ⟨_, h1, rfl⟩
  | dT ds => rw [e] at q; obtain ⟨vs, h1, _⟩ := q; exact ⟨_, h1, rfl⟩
  | lK ds => rw [e] at q; obtain ⟨o, vs, h1, _⟩ := q; exact ⟨_, h1, rfl⟩
  | lT ds => rw [e] at q; obtain ⟨o, vs, h1, _⟩ := q; exact ⟨_, h1, rfl⟩
  | ins C fs => rw [e] at q; obtain ⟨ca, dx, vs, _, h1, _⟩ := q; exact ⟨_, h1, rfl⟩
theorem Stt.notIn (st : Stt K mg H m S) {a : Addr} {o : HO} (h : H a = some o) (k : stoKind o = false) : a ∉ m := fun z => by
  obtain ⟨u, hu, ku⟩ := st.kind z
  rw [h] at hu
  cases hu
  rw [k] at ku
  cases ku
theorem sqT_mono (st : Stt K mg H m S) (g : Gr H m H' m') {a : Addr} {xs : List V} (h : SqT K H a xs) : SqT K H' a xs := by
  rcases h with (h | ⟨o, h⟩) | h
  · exact .inl (.inl (g.kp h (st.notIn h rfl)))
  · exact .inl (.inr ⟨o, g.kp h (st.notIn h rfl)⟩)
  · exact .inr h
mutual
theorem Rp.mono (st : Stt K mg H m S) (g : Gr H m H' m') : ∀ (d : D) (v : V), Rp K mg H m d v → Rp K mg H' m' d v
  | .non, _, h => by cases h; exact .non
  | .bl _, _, h => by cases h; exact .bl _
  | .int _, _, h => by cases h; exact .int _
  | .str _, _, h => by
    cases h with
    | str _ h => exact .str _ h
  | .tup ds, _, h => by
    cases h with
    | tup h1 h2 => exact .tup (g.kp h1 (st.notIn h1 rfl)) (Rps.mono st g ds _ h2)
  | .seq ds, _, h => by
    cases h with
    | seq h1 h2 => exact .seq (g.frz _ _ _ h1) (Rps.mono st g ds _ h2)
    | seqK h1 h2 => exact .seqK h1 (Rps.mono st g ds _ h2)
  | .ref _, _, h => by
    cases h with
    | ref h1 => exact .ref (g.get h1)
  | .glb _, _, h => by
    cases h with
    | glb h1 => exact .glb h1
  | .bty _, _, h => by cases h; exact .bty _
theorem Rps.mono (st : Stt K mg H m S) (g : Gr H m H' m') : ∀ (ds : List D) (vs : List V), Rps K mg H m ds vs → Rps K mg H' m' ds vs
  | [], _, h => by cases h; exact .nil
  | d :: ds, _, h => by
    cases h with
    | cons h1 h2 => exact .cons (Rp.mono st g d _ h1) (Rps.mono st g ds _ h2)
end
mutual
theorem Rp.more (n : List Addr) : ∀ (d : D) (v : V), Rp K mg H m d v → Rp K mg H (m ++ n) d v
  | .non, _, h => by cases h; exact .non
  | .bl _, _, h => by cases h; exact .bl _
  | .int _, _, h => by cases h; exact .int _
  | .str _, _, h => by
    cases h with
    | str _ h => exact .str _ h
  | .tup ds, _, h => by
    cases h with
    | tup h1 h2 => exact .tup h1 (Rps.more n ds _ h2)
  | .seq ds, _, h => by
    cases h with
    | seq h1 h2 => exact .seq h1 (Rps.more n ds _ h2)
    | seqK h1 h2 => exact .seqK h1 (Rps.more n ds _ h2)
  | .ref _, _, h => by
    cases h with
    | ref h1 =>
      refine .ref ?_
      rw [List.getElem?_append_left (List.getElem?_eq_some_iff.mp h1).1]
      exact h1
  | .glb _, _, h => by
    cases h with
    | glb h1 => exact .glb h1
  | .bty _, _, h => by cases h; exact .bty _
theorem Rps.more (n : List Addr) : ∀ (ds : List D) (vs : List V), Rps K mg H m ds vs → Rps K mg H (m ++ n) ds vs
  | [], _, h => by cases h; exact .nil
  | d :: ds, _, h => by
    cases h with
    | cons h1 h2 => exact .cons (Rp.more n d _ h1) (Rps.more n ds _ h2)
end
theorem Rpf.more {κ : Type} (n : List Addr) {ps : List (κ × D)} {qs : List (κ × V)} (h : Rpf K mg H m ps qs) : Rpf K mg H (m ++ n) ps qs :=
  Paired.mapP h fun _ _ z => ⟨z.1, Rp.more n _ _ z.2⟩
theorem Rpf.mono {κ : Type} (st : Stt K mg H m S) (g : Gr H m H' m') {ps : List (κ × D)} {qs : List (κ × V)} (h : Rpf K mg H m ps qs) : Rpf K mg H' m' ps qs :=
  Paired.mapP h fun _ _ z => ⟨z.1, Rp.mono st g _ _ z.2⟩
theorem Sl.mono {e : Slots} {σ : L2.St} (h : Sl K mg H m e σ) (st : Stt K mg H m S) (g : Gr H m H' m') : Sl K mg H' m' e σ :=
  ⟨h.len, fun i d q => let ⟨v, h1, h2⟩ := h.val i d q; ⟨v, h1, Rp.mono st g d v h2⟩⟩
theorem Rps.length {ds : List D} {vs : List V} (h : Rps K mg H m ds vs) : ds.length = vs.length := by
  induction ds generalizing vs with
  | nil => cases h; rfl
  | cons d ds ih =>
    cases h with
    | cons h1 h2 => simp [ih h2]
theorem Rps.get {ds : List D} {vs : List V} (h : Rps K mg H m ds vs) : ∀ {i : Nat} {d : D}, ds[i]? = some d → ∃ v, vs[i]? = some v ∧ Rp K mg H m d v := by
  induction ds generalizing vs with
  | nil => intro i d e; simp at e
  | cons d0 ds ih =>
    cases h with
    | cons h1 h2 =>
      intro i d e
      cases i with
      | zero => simp at e; subst e; exact ⟨_, rfl, h1⟩
      | succ i => simp at e; simpa using ih h2 e
theorem Rps.getV {ds : List D} {vs : List V} (h : Rps K mg H m ds vs) : ∀ {i : Nat} {v : V}, vs[i]? = some v → ∃ d, ds[i]? = some d ∧ Rp K mg H m d v := by
  induction ds generalizing vs with
  | nil => cases h; intro i v e; simp at e
  | cons d0 ds ih =>
    cases h with
    | cons h1 h2 =>
      intro i v e
      cases i with
      | zero => simp at e; subst e; exact ⟨_, rfl, h1⟩
      | succ i => simp at e; simpa using ih h2 e
theorem Rps.append {ds es : List D} {vs us : List V} (h : Rps K mg H m ds vs) (k : Rps K mg H m es us) : Rps K mg H m (ds ++ es) (vs ++ us) := by
  induction ds generalizing vs with
  | nil => cases h; exact k
  | cons d ds ih =>
    cases h with
    | cons h1 h2 => exact .cons h1 (ih h2)
theorem Rps.one {d : D} {v : V} (h : Rp K mg H m d v) : Rps K mg H m [d] [v] := .cons h .nil
theorem Rps.two {d e : D} {v u : V} (h : Rp K mg H m d v) (k : Rp K mg H m e u) : Rps K mg H m [d, e] [v, u] := .cons h (.cons k .nil)
theorem Rps.set {ds : List D} {vs : List V} (h : Rps K mg H m ds vs) {d : D} {v : V} (k : Rp K mg H m d v) : ∀ (i : Nat), Rps K mg H m (ds.set i d) (vs.set i v) := by
  induction ds generalizing vs with
  | nil => cases h; intro i; exact .nil
  | cons d0 ds ih =>
    cases h with
    | cons h1 h2 =>
      intro i
      cases i with
      | zero => exact .cons k h2
      | succ i => exact .cons h1 (ih h2 i)
theorem Rps.take {ds : List D} {vs : List V} (h : Rps K mg H m ds vs) : ∀ (n : Nat), Rps K mg H m (ds.take n) (vs.take n) := by
  induction ds generalizing vs with
  | nil => cases h; intro n; cases n <;> exact .nil
  | cons d0 ds ih =>
    cases h with
    | cons h1 h2 =>
      intro n
      cases n with
      | zero => exact .nil
      | succ n => exact .cons h1 (ih h2 n)
theorem Rps.drop {ds : List D} {vs : List V} (h : Rps K mg H m ds vs) : ∀ (n : Nat), Rps K mg H m (ds.drop n) (vs.drop n) := by
  induction ds generalizing vs with
  | nil => cases h; intro n; cases n <;> exact .nil
  | cons d0 ds ih =>
    cases h with
    | cons h1 h2 =>
      intro n
      cases n with
      | zero => exact .cons h1 h2
      | succ n => exact ih h2 n
theorem Rps.eraseIdx {ds : List D} {vs : List V} (h : Rps K mg H m ds vs) : ∀ (n : Nat), Rps K mg H m (ds.eraseIdx n) (vs.eraseIdx n) := by
  induction ds generalizing vs with
  | nil => cases h; intro n; cases n <;> exact .nil
  | cons d0 ds ih =>
    cases h with
    | cons h1 h2 =>
      intro n
      cases n with
      | zero => exact h2
      | succ n => exact .cons h1 (ih h2 n)
/-- the slots behind a store -/
theorem Sl.set {e : Slots} {σ : L2.St} (h : Sl K mg H m e σ) {d : D} {v : V} (i : Nat) (r : Rp K mg H m d v) : Sl K mg H m (e.set i (some d)) (σ.set i (some v)) := by
  refine ⟨by simp [h.len], fun j d' q => ?_⟩
  rw [List.getElem?_set] at q ⊢
  by_cases hij : i = j
  · subst hij
    rw [if_pos rfl] at q ⊢
    by_cases hl : i < e.length
    · rw [if_pos hl] at q
      rw [if_pos (by rw [← h.len]; exact hl)]
      cases q
      exact ⟨v, rfl, r⟩
    · rw [if_neg hl] at q; cases q
  · rw [if_neg hij] at q ⊢
    exact h.val j d' q
theorem Sl.setNone {e : Slots} {σ : L2.St} (h : Sl K mg H m e σ) (i : Nat) : Sl K mg H m (e.set i none) (σ.set i none) := by
  refine ⟨by simp [h.len], fun j d' q => ?_⟩
  rw [List.getElem?_set] at q ⊢
  by_cases hij : i = j
  · subst hij
    rw [if_pos rfl] at q
    by_cases hl : i < e.length
    · rw [if_pos hl] at q; cases q
    · rw [if_neg hl] at q; cases q
  · rw [if_neg hij] at q ⊢
    exact h.val j d' q

theorem Stt.tabK (st : Stt K mg H m S) (k : ∀ b o, H b = some o → b ∉ m → H' b = some o) : LamX.Tabs TabsOf.tabs H' := fun p hp => by
  obtain ⟨ps, h1, h2, h3⟩ := st.tab p hp
  refine ⟨ps, k _ _ h1 (st.notIn h1 rfl), h2, fun pos cv hc => ?_⟩
  obtain ⟨c, e1, e2⟩ := h3 pos cv hc
  exact ⟨c, e1, k _ _ e2 (st.notIn e2 rfl)⟩
theorem Stt.tabN (st : Stt K mg H m S) {p : Addr} {ho : HO} (hp : H p = none) : LamX.Tabs TabsOf.tabs (upd H p ho) :=
  st.tabK fun b o h _ => by rw [upd_ne (ne_of_none h hp)]; exact h
theorem Stt.tabM (st : Stt K mg H m S) {p : Addr} {ho : HO} (hp : p ∈ m) : LamX.Tabs TabsOf.tabs (upd H p ho) :=
  st.tabK fun b o h n => by rw [upd_ne (fun z => n (by rw [z]; exact hp))]; exact h
theorem Stt.push_gr (st : Stt K mg H m S) {p : Addr} {ho : HO} (hp : H p = none) : Gr H m (upd H p ho) (m ++ [p]) := by
  have hnp : p ∉ m := fun z => by
    obtain ⟨u, hu, _⟩ := st.kind z
    rw [hp] at hu
    cases hu
  refine ⟨⟨[p], rfl⟩, fun a u h _ _ => ?_, fun a u h n hu => ?_, fun a o u h => by rw [upd_ne (ne_of_none h hp)]; exact h⟩
  · rw [upd_ne (ne_of_none h hp)]
    exact h
  · rcases List.mem_append.mp h with h | h
    · exact absurd h n
    · rw [List.mem_singleton.mp h, hp] at hu
      cases hu
/-- a new object -/
theorem Stt.push (st : Stt K mg H m S) {p : Addr} {ho : HO} {o : MO} (hp : H p = none) (hk : stoKind ho = true) (ho' : OkO K mg (upd H p ho) (m ++ [p]) p o) : Gr H m (upd H p ho) (m ++ [p]) ∧ Stt K mg (upd H p ho) (m ++ [p]) (S ++ [o]) := by
  have hnp : p ∉ m := fun z => by
    obtain ⟨u, hu, _⟩ := st.kind z
    rw [hp] at hu
    cases hu
  have g : Gr H m (upd H p ho) (m ++ [p]) := by
    refine ⟨⟨[p], rfl⟩, fun a u h _ _ => ?_, fun a u h n hu => ?_, fun a o u h => by rw [upd_ne (ne_of_none h hp)]; exact h⟩
    · rw [upd_ne (ne_of_none h hp)]
      exact h
    · rcases List.mem_append.mp h with h | h
      · exact absurd h n
      · rw [List.mem_singleton.mp h, hp] at hu
        cases hu
  refine ⟨g, ⟨by simp [st.len], ?_, fun j u a h1 h2 => ?_, st.tabN hp⟩⟩
  · rw [List.nodup_append]
    refine ⟨st.nd, by simp, fun a ha b hb => ?_⟩
    rw [List.mem_singleton.mp hb]
    exact fun z => hnp (z ▸ ha)
  · by_cases hj : j < S.length
    · rw [List.getElem?_append_left hj] at h1
      rw [List.getElem?_append_left (by rw [st.len]; exact hj)] at h2
      have q := st.obj j u a h1 h2
      have hap : a ≠ p := fun z => hnp (z ▸ List.mem_of_getElem? h2)
      cases u with
      | lst ds => obtain ⟨vs, q1, q2⟩ := q; exact ⟨vs, by rw [upd_ne hap]; exact q1, Rps.mono st g _ _ q2⟩
      | dK ds => obtain ⟨vs, q1, q2, q3⟩ := q; exact ⟨vs, by rw [upd_ne hap]; exact q1, Rpf.mono st g q2, q3⟩
      | dT ds => obtain ⟨vs, q1, q2, q3⟩ := q; exact ⟨vs, by rw [upd_ne hap]; exact q1, Rpf.mono st g q2, q3⟩
      | lK ds => obtain ⟨o, vs, q1, q2, q3⟩ := q; exact ⟨o, vs, by rw [upd_ne hap]; exact q1, Rpf.mono st g q2, q3⟩
      | lT ds => obtain ⟨o, vs, q1, q2, q3⟩ := q; exact ⟨o, vs, by rw [upd_ne hap]; exact q1, Rpf.mono st g q2, q3⟩
      | ins C fs => obtain ⟨ca, dx, vs, q0, q1, q2⟩ := q; exact ⟨ca, dx, vs, q0, by rw [upd_ne hap]; exact q1, Rpf.mono st g q2⟩
    · have hj' : S.length ≤ j := Nat.le_of_not_lt hj
      have hjm : j < (m ++ [p]).length := (List.getElem?_eq_some_iff.mp h2).1
      have hjl : j = S.length := by simp [st.len] at hjm; omega
      subst hjl
      rw [List.getElem?_append_right (Nat.le_refl _)] at h1
      rw [← st.len, List.getElem?_append_right (Nat.le_refl _)] at h2
      simp at h1 h2
      subst h1 h2
      exact ho'
/-- an object changes -/
theorem Stt.put (st : Stt K mg H m S) {j : Nat} {p : Addr} {ho : HO} {o : MO} (hj : m[j]? = some p) (hnf : ∀ o u, H p ≠ some (.frz o u)) (ho' : OkO K mg (upd H p ho) m p o) : Gr H m (upd H p ho) m ∧ Stt K mg (upd H p ho) m (S.set j o) := by
  have hm : p ∈ m := List.mem_of_getElem? hj
  have g : Gr H m (upd H p ho) m := by
    refine ⟨⟨[], by simp⟩, fun a u h n _ => ?_, fun a _ h n _ => absurd h n, fun a o u h => ?_⟩
    · rw [upd_ne (fun z => n (by rw [z]; exact hm))]
      exact h
    · rw [upd_ne (fun z => hnf o u (by rw [← z]; exact h))]
      exact h
  refine ⟨g, ⟨by simp [st.len], st.nd, fun i u a h1 h2 => ?_, st.tabM hm⟩⟩
  rw [List.getElem?_set] at h1
  by_cases hij : j = i
  · subst hij
    rw [if_pos rfl] at h1
    rw [hj] at h2
    cases h2
    split at h1
    · cases h1; exact ho'
    · cases h1
  · rw [if_neg hij] at h1
    have q := st.obj i u a h1 h2
    have hap : a ≠ p := fun z => by
      subst z
      obtain ⟨hi, e1⟩ := List.getElem?_eq_some_iff.mp h2
      obtain ⟨hj', e2⟩ := List.getElem?_eq_some_iff.mp hj
      have pw := List.pairwise_iff_getElem.mp st.nd
      rcases Nat.lt_or_gt_of_ne hij with z | z
      · exact pw j i hj' hi z (e2.trans e1.symm)
      · exact pw i j hi hj' z (e1.trans e2.symm)
    cases u with
    | lst ds => obtain ⟨vs, q1, q2⟩ := q; exact ⟨vs, by rw [upd_ne hap]; exact q1, Rps.mono st g _ _ q2⟩
    | dK ds => obtain ⟨vs, q1, q2, q3⟩ := q; exact ⟨vs, by rw [upd_ne hap]; exact q1, Rpf.mono st g q2, q3⟩
    | dT ds => obtain ⟨vs, q1, q2, q3⟩ := q; exact ⟨vs, by rw [upd_ne hap]; exact q1, Rpf.mono st g q2, q3⟩
    | lK ds => obtain ⟨o, vs, q1, q2, q3⟩ := q; exact ⟨o, vs, by rw [upd_ne hap]; exact q1, Rpf.mono st g q2, q3⟩
    | lT ds => obtain ⟨o, vs, q1, q2, q3⟩ := q; exact ⟨o, vs, by rw [upd_ne hap]; exact q1, Rpf.mono st g q2, q3⟩
    | ins C fs => obtain ⟨ca, dx, vs, q0, q1, q2⟩ := q; exact ⟨ca, dx, vs, q0, by rw [upd_ne hap]; exact q1, Rpf.mono st g q2⟩
/-- a thing that is none of the store's is made -/
theorem Stt.make (st : Stt K mg H m S) {p : Addr} {ho : HO} (hp : H p = none) : Gr H m (upd H p ho) m ∧ Stt K mg (upd H p ho) m S := by
  have hnp : p ∉ m := fun z => by
    obtain ⟨u, hu, _⟩ := st.kind z
    rw [hp] at hu
    cases hu
  have g : Gr H m (upd H p ho) m := by
    refine ⟨⟨[], by simp⟩, fun a u h _ _ => ?_, fun a _ h n _ => absurd h n, fun a o u h => by rw [upd_ne (ne_of_none h hp)]; exact h⟩
    rw [upd_ne (ne_of_none h hp)]
    exact h
  refine ⟨g, ⟨st.len, st.nd, fun j u a h1 h2 => ?_, st.tabN hp⟩⟩
  have q := st.obj j u a h1 h2
  have hap : a ≠ p := fun z => hnp (z ▸ List.mem_of_getElem? h2)
  cases u with
  | lst ds => obtain ⟨vs, q1, q2⟩ := q; exact ⟨vs, by rw [upd_ne hap]; exact q1, Rps.mono st g _ _ q2⟩
  | dK ds => obtain ⟨vs, q1, q2, q3⟩ := q; exact ⟨vs, by rw [upd_ne hap]; exact q1, Rpf.mono st g q2, q3⟩
  | dT ds => obtain ⟨vs, q1, q2, q3⟩ := q; exact ⟨vs, by rw [upd_ne hap]; exact q1, Rpf.mono st g q2, q3⟩
  | lK ds => obtain ⟨o, vs, q1, q2, q3⟩ := q; exact ⟨o, vs, by rw [upd_ne hap]; exact q1, Rpf.mono st g q2, q3⟩
  | lT ds => obtain ⟨o, vs, q1, q2, q3⟩ := q; exact ⟨o, vs, by rw [upd_ne hap]; exact q1, Rpf.mono st g q2, q3⟩
  | ins C fs => obtain ⟨ca, dx, vs, q0, q1, q2⟩ := q; exact ⟨ca, dx, vs, q0, by rw [upd_ne hap]; exact q1, Rpf.mono st g q2⟩
/-- a new tuple's place, for Gr when the store gets more objects -/
theorem Gr.of_eq {H H' H'' : Hp} {m m' : List Addr} (g : Gr H m H' m') (e : H' = H'') : Gr H m H'' m' := e ▸ g
/-- a thing that stands already becomes one of the store's -/
theorem Stt.adopt {H0 : Hp} {m0 : List Addr} (st : Stt K mg H m S) (g : Gr H0 m0 H m) {p : Addr} {o : MO} (hp0 : H0 p = none) (hnm : p ∉ m) (ho : OkO K mg H m p o) : Gr H0 m0 H (m ++ [p]) ∧ Stt K mg H (m ++ [p]) (S ++ [o]) := by
  have more : ∀ {a : Addr} {u : MO}, OkO K mg H m a u → OkO K mg H (m ++ [p]) a u := fun {a u} q => by
    cases u with
    | lst ds => obtain ⟨vs, q1, q2⟩ := q; exact ⟨vs, q1, Rps.more _ _ _ q2⟩
    | dK ds => obtain ⟨vs, q1, q2, q3⟩ := q; exact ⟨vs, q1, Rpf.more _ q2, q3⟩
    | dT ds => obtain ⟨vs, q1, q2, q3⟩ := q; exact ⟨vs, q1, Rpf.more _ q2, q3⟩
    | lK ds => obtain ⟨o, vs, q1, q2, q3⟩ := q; exact ⟨o, vs, q1, Rpf.more _ q2, q3⟩
    | lT ds => obtain ⟨o, vs, q1, q2, q3⟩ := q; exact ⟨o, vs, q1, Rpf.more _ q2, q3⟩
    | ins C fs => obtain ⟨ca, dx, vs, q0, q1, q2⟩ := q; exact ⟨ca, dx, vs, q0, q1, Rpf.more _ q2⟩
  refine ⟨?_, ⟨by simp [st.len], ?_, fun j u a h1 h2 => ?_, st.tab⟩⟩
  · obtain ⟨n, e⟩ := g.pre
    refine ⟨⟨n ++ [p], by rw [e, List.append_assoc]⟩, g.keep, fun a u h n hu => ?_, g.frz⟩
    rcases List.mem_append.mp h with h | h
    · exact g.new a u h n hu
    · rw [List.mem_singleton.mp h, hp0] at hu
      cases hu
  · rw [List.nodup_append]
    refine ⟨st.nd, by simp, fun a ha b hb => ?_⟩
    rw [List.mem_singleton.mp hb]
    exact fun z => hnm (z ▸ ha)
  · by_cases hj : j < S.length
    · rw [List.getElem?_append_left hj] at h1
      rw [List.getElem?_append_left (by rw [st.len]; exact hj)] at h2
      exact more (st.obj j u a h1 h2)
    · have hjm : j < (m ++ [p]).length := (List.getElem?_eq_some_iff.mp h2).1
      have hjl : j = S.length := by simp [st.len] at hjm; omega
      subst hjl
      rw [List.getElem?_append_right (Nat.le_refl _)] at h1
      rw [← st.len, List.getElem?_append_right (Nat.le_refl _)] at h2
      simp at h1 h2
      subst h1 h2
      exact more ho
end
end Mi

set_option Elab.async false
set_option linter.all false
set_option maxRecDepth 100000
set_option maxHeartbeats 1000000
namespace Mi
open PySem PySem.Spec PyProof.Rows L2
variable [TabsOf]

/-! ### readings of the model's programs -/
/-- what is wanted behind a result -/
def okR {α β : Type} (K : PySem.W.Frag) (mg : Str → Option Value) (H : Hp) (m : List Addr) (σ : L2.St) (W : WX) (Rl : Hp → List Addr → α → β → Prop) (Q : β → Hp → Prop) : R α → Prop
  | .ok a S => ∀ v H' m', Gr H m H' m' → Stt K mg H' m' S → Rl H' m' a v → Q v H'
  | .exc c f d S => ∀ ca dx v H' m', Gr H m H' m' → Stt K mg H' m' S → mg c = some (.ref ca) → H' dx = some (.xd [(f, v)]) → Rp K mg H' m' d v → W (.ref ca) (some dx) σ H'
  | .no => False
def tM {α β : Type} (K : PySem.W.Frag) (mg : Str → Option Value) (W : WX) (Rl : Hp → List Addr → α → β → Prop) (f : Slots → Sto → R α) : L2.St → Hp → (β → Hp → Prop) → Prop := fun σ H Q =>
  ∃ m e S, Stt K mg H m S ∧ Sl K mg H m e σ ∧ okR K mg H m σ W Rl Q (f e S)
abbrev ME := Slots → Sto → R D
abbrev MT := Slots → Sto → R Bool
abbrev MA := Slots → Sto → R (List D)
abbrev RpR (K : PySem.W.Frag) (mg : Str → Option Value) : Hp → List Addr → D → V → Prop := fun H m => Rp K mg H m
abbrev RpsR (K : PySem.W.Frag) (mg : Str → Option Value) : Hp → List Addr → List D → List V → Prop := fun H m => Rps K mg H m
abbrev EqR : Hp → List Addr → Bool → Bool → Prop := fun _ _ a b => a = b
abbrev tE (K : PySem.W.Frag) (mg : Str → Option Value) (W : WX) (f : ME) : TE := tM K mg W (RpR K mg) f
abbrev tT (K : PySem.W.Frag) (mg : Str → Option Value) (W : WX) (f : MT) : TT := tM K mg W EqR f
abbrev tA (K : PySem.W.Frag) (mg : Str → Option Value) (W : WX) (f : MA) : TA := tM K mg W (RpsR K mg) f

section
variable {K : PySem.W.Frag} {mg : Str → Option Value} {H H' : Hp} {m m' : List Addr} {S : Sto} {e : Slots} {σ : L2.St} {W : WX} {α β γ δ : Type} {Rl : Hp → List Addr → α → β → Prop} {Rk : Hp → List Addr → γ → δ → Prop} {Q : β → Hp → Prop} {Qk : δ → Hp → Prop}
theorem okR.mono {r : R α} (h : okR K mg H m σ W Rl Q r) (g : Gr H m H' m') : okR K mg H' m' σ W Rl Q r := by
  cases r with
  | ok a S => exact fun v H2 m2 g2 s2 r2 => h v H2 m2 (g.trans g2) s2 r2
  | exc c f d S => exact fun ca dx v H2 m2 g2 s2 hc hd r2 => h ca dx v H2 m2 (g.trans g2) s2 hc hd r2
  | no => exact h
theorem okR.here {a : α} {v : β} (h : okR K mg H m σ W Rl Q (.ok a S)) (st : Stt K mg H m S) (r : Rl H m a v) : Q v H := h v H m (Gr.refl H m) st r
/-- first f, then k -/
theorem tM_bind {f : Slots → Sto → R α} {k : α → Sto → R γ} (st : Stt K mg H m S) (sl : Sl K mg H m e σ) (h : okR K mg H m σ W Rk Qk ((f e S).bind k))
    (next : ∀ a S1 v H1 m1, f e S = .ok a S1 → Gr H m H1 m1 → Stt K mg H1 m1 S1 → Sl K mg H1 m1 e σ → Rl H1 m1 a v → okR K mg H1 m1 σ W Rk Qk (k a S1) → Q v H1) : tM K mg W Rl f σ H Q := by
  refine ⟨m, e, S, st, sl, ?_⟩
  cases hf : f e S with
  | ok a S1 =>
    rw [hf] at h
    exact fun v H1 m1 g s1 r => next a S1 v H1 m1 hf g s1 (sl.mono st g) r (okR.mono h g)
  | exc c f d S1 =>
    rw [hf] at h
    exact h
  | no =>
    rw [hf] at h
    exact h
end

/-! ### judgements -/
section
variable {X : Cx}
theorem PEi {e : Expr} {t u : TE} (h : PE X e t) (k : ∀ σ H Q, u σ H Q → t σ H Q) : PE X e u := ⟨fun pins s σ H Q I q => h.run pins s σ H Q I (k σ H Q q)⟩
theorem PTi {e : Expr} {t u : TT} (h : PT X e t) (k : ∀ σ H Q, u σ H Q → t σ H Q) : PT X e u := ⟨fun pins s σ H Q I q => h.run pins s σ H Q I (k σ H Q q)⟩
theorem PWi {e : Expr} {t u : TT} (h : PW X e t) (k : ∀ σ H Q, u σ H Q → t σ H Q) : PW X e u := ⟨fun wh pins s σ H Q I q => h.run wh pins s σ H Q I (k σ H Q q)⟩
theorem PAi {es : List Expr} {t u : TA} (h : PA X es t) (k : ∀ σ H Q, u σ H Q → t σ H Q) : PA X es u := ⟨fun pos pins s σ H Q I q => h.run pos pins s σ H Q I (k σ H Q q)⟩
theorem PSi {st : Stmt} {t u : TS} (h : PS X st t) (k : ∀ D σ H, u D σ H → t D σ H) : PS X st u := ⟨fun pins s σ H D I q => h.run pins s σ H D I (k D σ H q)⟩
theorem PSsi {st : List Stmt} {t u : TS} (h : PSs X st t) (k : ∀ D σ H, u D σ H → t D σ H) : PSs X st u := ⟨fun pins s σ H D I q => h.run pins s σ H D I (k D σ H q)⟩
end
/-- an expression is f of the model -/
structure CE (X : Cx) (W : WX) (e : Expr) (f : ME) : Prop where
  run : PE X e (tE X.K X.mg W f)
structure CT (X : Cx) (W : WX) (e : Expr) (f : MT) : Prop where
  run : PT X e (tT X.K X.mg W f)
structure CW (X : Cx) (W : WX) (e : Expr) (f : MT) : Prop where
  run : PW X e (tT X.K X.mg W f)
structure CA (X : Cx) (W : WX) (es : List Expr) (f : MA) : Prop where
  run : PA X es (tA X.K X.mg W f)
  len : ∀ e S ds S', f e S = .ok ds S' → ds.length = es.length
theorem CW.ct {X : Cx} {W : WX} {e : Expr} {f : MT} (h : CW X W e f) : CT X W e f := ⟨h.run.pt⟩

/-! ### names, constants -/
def mVar (i : Nat) : ME := fun e S => match e[i]? with
  | some (some d) => .ok d S
  | _ => .no
def mC (d : D) : ME := fun _ S => .ok d S
def mNil : MA := fun _ S => .ok [] S
def mCons (f : ME) (r : MA) : MA := fun e S => (f e S).bind fun d S => (r e S).bind fun ds S => .ok (d :: ds) S
section
variable {X : Cx} {W : WX}
theorem ce_var (i : Nat) {x : Str} {pos : Pos} (hN : X.N[i]? = some x) (hv : Vis X.env.scope x) (hd : (x == ("__debug__" : Str)) = false := by decide) (hcd : (x == ("__classdict__" : Str)) = false := by decide) : CE X W (.Name x pos) (mVar i) := by
  refine ⟨PEi (pe_var hN hv hd hcd) fun σ H Q ⟨m, e, S, st, sl, q⟩ => ?_⟩
  unfold mVar at q
  split at q
  · rename_i d hd
    obtain ⟨v, h1, h2⟩ := sl.val i d hd
    exact ⟨v, h1, okR.here q st h2⟩
  · exact q.elim
theorem ce_c {ex : Expr} {d : D} {v : V} (h : PE X ex (tC v)) (r : ∀ H m, Rp X.K X.mg H m d v) : CE X W ex (mC d) :=
  ⟨PEi h fun σ H Q ⟨m, e, S, st, sl, q⟩ => okR.here q st (r H m)⟩
theorem ce_int {i j pos} : CE X W (.Constant (.int i) j pos) (mC (.int i)) := ce_c pe_int fun _ _ => .int i
theorem ce_bl {b j pos} : CE X W (.Constant (.bool b) j pos) (mC (.bl b)) := ce_c pe_bl fun _ _ => .bl b
theorem ce_non {j pos} : CE X W (.Constant .none j pos) (mC .non) := ce_c pe_non fun _ _ => .non
theorem ce_str {x j pos} (h : txtOk x = true := by decide +kernel) : CE X W (.Constant (.str x) j pos) (mC (.str x)) := ce_c pe_str fun _ _ => .str x h
/-- a text of the module's top -/
theorem ce_gstr {x z : Str} {t : Tok} {pos : Pos} (hg : Gl X x) (hm : X.mg x = some (.str z t)) (h : txtOk z = true) (hd : (x == ("__debug__" : Str)) = false := by decide) : CE X W (.Name x pos) (mC (.str z)) :=
  ce_c (v := .str z) (pe_glob hg hm ⟨t, rfl⟩ hd) fun _ _ => .str z h
/-- a def, a class of the module's top -/
theorem ce_gref {x : Str} {a : Addr} {pos : Pos} (hg : Gl X x) (hm : X.mg x = some (.ref a)) (hd : (x == ("__debug__" : Str)) = false := by decide) : CE X W (.Name x pos) (mC (.glb x)) :=
  ce_c (v := .ref a) (pe_glob hg hm rfl hd) fun _ _ => .glb hm
/-- a built-in class -/
theorem ce_bty {x : Str} {n : String} {pos : Pos} (hg : Gl X x) (hm : X.mg x = none) (hv : bootBuiltins x = some (.type n)) (hn : x ≠ "__name__" := by decide) (hd : (x == ("__debug__" : Str)) = false := by decide) : CE X W (.Name x pos) (mC (.bty n)) :=
  ce_c (v := .ty n) (pe_bltn hg hm hv rfl hn hd) fun _ _ => .bty n
theorem ca_nil : CA X W [] mNil := ⟨PAi pa_nil fun σ H Q ⟨m, e, S, st, sl, q⟩ => okR.here q st .nil, fun e S ds S' h => by unfold mNil at h; cases h; rfl⟩
theorem ca_cons {ex : Expr} {es : List Expr} {f : ME} {r : MA} (h : CE X W ex f) (hr : CA X W es r) (hs : starEach (ex :: es) X.env = (false, eval ex X.env) :: starEach es X.env := by rfl) : CA X W (ex :: es) (mCons f r) := by
  refine ⟨PAi (pa_cons h.run hr.run hs) fun σ H Q ⟨m, e, S, st, sl, q⟩ => ?_, fun e S ds S' h => ?_⟩
  · refine tM_bind st sl q fun d S1 v H1 m1 _ g1 st1 sl1 r1 q1 => ?_
    refine tM_bind st1 sl1 q1 fun ds S2 vs H2 m2 _ g2 st2 sl2 r2 q2 => ?_
    exact okR.here q2 st2 (.cons (Rp.mono st1 g2 _ _ r1) r2)
  · unfold mCons at h
    cases hf : f e S with
    | ok d S1 =>
      rw [hf, R.bind_ok] at h
      cases h2 : r e S1 with
      | ok ds2 S2 =>
        rw [h2, R.bind_ok] at h
        cases h
        simp [hr.len _ _ _ _ h2]
      | exc c f d S2 => rw [h2] at h; cases h
      | no => rw [h2] at h; cases h
    | exc c f d S1 => rw [hf] at h; cases h
    | no => rw [hf] at h; cases h

/-! ### displays -/
def mTup (a : MA) : ME := fun e S => (a e S).bind fun ds S => .ok (.tup ds) S
def mLst (a : MA) : ME := fun e S => (a e S).bind fun ds S => .ok (.ref S.length) (S ++ [.lst ds])
theorem ce_tup {es : List Expr} {a : MA} {x1 pos} (h : CA X W es a) (hz : es.length ≤ 1000 := by decide) : CE X W (.Tuple es x1 pos) (mTup a) := by
  refine ⟨PEi (pe_tup h.run) fun σ H Q ⟨m, e, S, st, sl, q⟩ => ?_⟩
  refine tM_bind st sl q fun ds S1 vs H1 m1 hf g1 st1 sl1 r1 q1 => ?_
  have hl := h.len _ _ _ _ hf
  have hv := r1.length
  refine ⟨Nat.le_trans (by omega : vs.length ≤ 1000) (by decide), fun p hp => ?_⟩
  obtain ⟨g2, st2⟩ := st1.make (ho := .tup vs) hp
  exact q1 _ _ _ g2 st2 (.tup upd_same (Rps.mono st1 g2 _ _ r1))
theorem ce_lst {es : List Expr} {a : MA} {pos} (h : CA X W es a) (hz : es.length ≤ 1000 := by decide) : CE X W (.List es pos) (mLst a) := by
  refine ⟨PEi (pe_lst h.run) fun σ H Q ⟨m, e, S, st, sl, q⟩ => ?_⟩
  refine tM_bind st sl q fun ds S1 vs H1 m1 hf g1 st1 sl1 r1 q1 => ?_
  have hl := h.len _ _ _ _ hf
  have hv := r1.length
  refine ⟨Nat.le_trans (by omega : vs.length ≤ 1000) (by decide), fun p hp => ?_⟩
  have g0 : Gr H1 m1 (upd H1 p (.lst vs)) (m1 ++ [p]) := (st1.push_gr hp)
  obtain ⟨g2, st2⟩ := st1.push (ho := .lst vs) (o := .lst ds) hp rfl ⟨vs, upd_same, Rps.mono st1 g0 _ _ r1⟩
  exact q1 _ _ _ g2 st2 (.ref (by rw [← st1.len]; simp))
end
end Mi

set_option Elab.async false
set_option linter.all false
set_option maxRecDepth 100000
set_option maxHeartbeats 1000000
namespace Mi
open PySem PySem.Spec PyProof.Rows L2
variable [TabsOf]

theorem txtOk_app {a b : Str} (ha : txtOk a = true) (hb : txtOk b = true) (h : a.length + b.length ≤ lim) : txtOk (a ++ b) = true := by
  have h1 := txtOk_ok ha
  have h2 := txtOk_ok hb
  unfold txtOk
  rw [Bool.and_eq_true, decide_eq_true_eq]
  refine ⟨?_, ?_⟩
  · show (a.cps ++ b.cps).size ≤ lim
    rw [Array.size_append]
    exact h
  · unfold PyData.strOk at h1 h2 ⊢
    show (a.cps ++ b.cps).all _ = true
    rw [Array.all_append, h1, h2] <;> rfl

/-! ### operators -/
section
variable {X : Cx} {W : WX}
/-- an operator of two values is g of the model -/
def OpM (X : Cx) (fn : Value → Value → Sem Value) (g : D → D → Sto → R D) : Prop :=
  ∃ r : R2, OpR X fn r ∧ ∀ (H : Hp) (m : List Addr) (S : Sto) (x y : V) (dx dy : D) (σ : L2.St) (W : WX) (Q : VK), Stt X.K X.mg H m S → Rp X.K X.mg H m dx x → Rp X.K X.mg H m dy y → okR X.K X.mg H m σ W (RpR X.K X.mg) Q (g dx dy S) → r x y H Q
def mBin (g : D → D → Sto → R D) (f h : ME) : ME := fun e S => (f e S).bind fun x S => (h e S).bind fun y S => g x y S
theorem bin_aux {r : R2} {g : D → D → Sto → R D} {f h : ME} (hop : ∀ (H : Hp) (m : List Addr) (S : Sto) (x y : V) (dx dy : D) (σ : L2.St) (W : WX) (Q : VK), Stt X.K X.mg H m S → Rp X.K X.mg H m dx x → Rp X.K X.mg H m dy y → okR X.K X.mg H m σ W (RpR X.K X.mg) Q (g dx dy S) → r x y H Q)
    (σ : L2.St) (H : Hp) (Q : VK) (q : tE X.K X.mg W (mBin g f h) σ H Q) : tOp r (tE X.K X.mg W f) (tE X.K X.mg W h) σ H Q := by
  obtain ⟨m, e, S, st, sl, q⟩ := q
  refine tM_bind st sl q fun d S1 v H1 m1 _ g1 st1 sl1 r1 q1 => ?_
  refine tM_bind st1 sl1 q1 fun d2 S2 v2 H2 m2 _ g2 st2 sl2 r2 q2 => ?_
  exact hop H2 m2 S2 v v2 d d2 σ W Q st2 (Rp.mono st1 g2 _ _ r1) r2 q2
theorem ce_bin {op : Operator} {g : D → D → Sto → R D} {a b : Expr} {f h : ME} {pos : Pos} (hop : OpM X (binaryOp op) g) (ha : CE X W a f) (hb : CE X W b h) : CE X W (.BinOp a op b pos) (mBin g f h) := by
  obtain ⟨r, ho, hr⟩ := hop
  exact ⟨PEi (pe_op ho ha.run hb.run) (bin_aux hr)⟩
theorem ce_cmp {op : CmpOp} {g : D → D → Sto → R D} {a b : Expr} {f h : ME} {pos : Pos} (hop : OpM X (compareOp op) g) (ha : CE X W a f) (hb : CE X W b h) (hm : behindInMarks op b = false := by first | exact nomark _ | rfl) : CE X W (.Compare a [op] [b] pos) (mBin g f h) := by
  obtain ⟨r, ho, hr⟩ := hop
  exact ⟨PEi (pe_cmpR ho ha.run hb.run hm) (bin_aux hr)⟩
def mTst (f : ME) : MT := fun e S => (f e S).bind fun d S => match d with
  | .bl b => .ok b S
  | _ => .no
theorem tst_aux {f : ME} (σ : L2.St) (H : Hp) (Q : Bool → Hp → Prop) (q : tT X.K X.mg W (mTst f) σ H Q) : tTest (tE X.K X.mg W f) σ H Q := by
  obtain ⟨m, e, S, st, sl, q⟩ := q
  refine tM_bind st sl q fun d S1 v H1 m1 _ g1 st1 sl1 r1 q1 => ?_
  cases d with
  | bl b => cases r1; exact ⟨b, rfl, okR.here q1 st1 rfl⟩
  | _ => exact q1.elim
theorem ct_cmp {op : CmpOp} {g : D → D → Sto → R D} {a b : Expr} {f h : ME} {pos : Pos} (hop : OpM X (compareOp op) g) (ha : CE X W a f) (hb : CE X W b h) (hm : behindInMarks op b = false := by first | exact nomark _ | rfl) : CT X W (.Compare a [op] [b] pos) (mTst (mBin g f h)) := by
  obtain ⟨r, ho, hr⟩ := hop
  exact ⟨PTi (pt_cmpR ho ha.run hb.run hm) fun σ H Q q => tst_aux σ H Q q |> fun z => by
    refine (show tTest (tOp r (tE X.K X.mg W f) (tE X.K X.mg W h)) σ H Q from ?_)
    exact bin_aux hr σ H _ (show tE X.K X.mg W (mBin g f h) σ H (fun x H' => ∃ k, x = .bl k ∧ Q k H') from z)⟩
/-- any expression that gives a bool, as a test -/
theorem ct_val {a : Expr} {f : ME} (h : CE X W a f) (he : ∀ whole, isTrue a X.env whole = (do let v ← whole; standAt a.pos; holding [v] (truthy v)) := by intro _; rfl) : CT X W a (mTst f) :=
  ⟨PTi (pt_val h.run he) fun σ H Q q => tst_aux σ H Q q⟩

/-! ### and, or, not, if else -/
def mAndT (f h : MT) : MT := fun e S => (f e S).bind fun b S => if b = true then h e S else .ok false S
def mOrT (f h : MT) : MT := fun e S => (f e S).bind fun b S => if b = true then .ok true S else h e S
def mNotT (f : MT) : MT := fun e S => (f e S).bind fun b S => .ok (!b) S
theorem and_aux {f h : MT} (σ : L2.St) (H : Hp) (Q : Bool → Hp → Prop) (q : tT X.K X.mg W (mAndT f h) σ H Q) : tAnd (tT X.K X.mg W f) (tT X.K X.mg W h) σ H Q := by
  obtain ⟨m, e, S, st, sl, q⟩ := q
  refine tM_bind st sl q fun d S1 v H1 m1 _ g1 st1 sl1 r1 q1 => ?_
  cases r1
  cases d with
  | true => exact ⟨m1, e, S1, st1, sl1, q1⟩
  | false => exact okR.here (show okR _ _ _ _ _ _ EqR Q (.ok false S1) from q1) st1 rfl
theorem or_aux {f h : MT} (σ : L2.St) (H : Hp) (Q : Bool → Hp → Prop) (q : tT X.K X.mg W (mOrT f h) σ H Q) : tOr (tT X.K X.mg W f) (tT X.K X.mg W h) σ H Q := by
  obtain ⟨m, e, S, st, sl, q⟩ := q
  refine tM_bind st sl q fun d S1 v H1 m1 _ g1 st1 sl1 r1 q1 => ?_
  cases r1
  cases d with
  | false => exact ⟨m1, e, S1, st1, sl1, q1⟩
  | true => exact okR.here (show okR _ _ _ _ _ _ EqR Q (.ok true S1) from q1) st1 rfl
theorem cw_and1 {a : Expr} {f : MT} {pos : Pos} (ha : CT X W a f) : CW X W (.BoolOp .And [a] pos) f := ⟨pw_and1 ha.run⟩
theorem cw_or1 {a : Expr} {f : MT} {pos : Pos} (ha : CT X W a f) : CW X W (.BoolOp .Or [a] pos) f := ⟨pw_or1 ha.run⟩
theorem cw_and {a b : Expr} {rest : List Expr} {f h : MT} {pos : Pos} (ha : CT X W a f) (hb : CW X W (.BoolOp .And (b :: rest) pos) h) : CW X W (.BoolOp .And (a :: b :: rest) pos) (mAndT f h) := ⟨PWi (pw_and ha.run hb.run) and_aux⟩
theorem cw_or {a b : Expr} {rest : List Expr} {f h : MT} {pos : Pos} (ha : CT X W a f) (hb : CW X W (.BoolOp .Or (b :: rest) pos) h) : CW X W (.BoolOp .Or (a :: b :: rest) pos) (mOrT f h) := ⟨PWi (pw_or ha.run hb.run) or_aux⟩
theorem ct_not {a : Expr} {f : MT} {pos : Pos} (ha : CT X W a f) : CT X W (.UnaryOp .Not a pos) (mNotT f) := by
  refine ⟨PTi (pt_not ha.run) fun σ H Q ⟨m, e, S, st, sl, q⟩ => ?_⟩
  refine tM_bind st sl q fun d S1 v H1 m1 _ g1 st1 sl1 r1 q1 => ?_
  cases r1
  exact okR.here q1 st1 rfl
/-- as values -/
def mAndV (f h : ME) : ME := fun e S => (f e S).bind fun d S => match d with
  | .bl true => h e S
  | .bl false => .ok (.bl false) S
  | _ => .no
def mOrV (f h : ME) : ME := fun e S => (f e S).bind fun d S => match d with
  | .bl false => h e S
  | .bl true => .ok (.bl true) S
  | _ => .no
def mNotV (f : ME) : ME := fun e S => (f e S).bind fun d S => match d with
  | .bl b => .ok (.bl (!b)) S
  | _ => .no
theorem ce_one {op : BoolOp} {a : Expr} {f : ME} {pos : Pos} (ha : CE X W a f) : CE X W (.BoolOp op [a] pos) f := ⟨pe_one ha.run⟩
theorem ce_and {a b : Expr} {rest : List Expr} {f h : ME} {pos : Pos} (ha : CE X W a f) (hb : CE X W (.BoolOp .And (b :: rest) pos) h) : CE X W (.BoolOp .And (a :: b :: rest) pos) (mAndV f h) := by
  refine ⟨PEi (pe_and ha.run hb.run) fun σ H Q ⟨m, e, S, st, sl, q⟩ => ?_⟩
  refine tM_bind st sl q fun d S1 v H1 m1 _ g1 st1 sl1 r1 q1 => ?_
  cases d with
  | bl b =>
    cases r1
    refine ⟨b, rfl, ?_⟩
    cases b with
    | true => exact ⟨m1, e, S1, st1, sl1, q1⟩
    | false => exact okR.here (show okR _ _ _ _ _ _ (RpR X.K X.mg) Q (.ok (.bl false) S1) from q1) st1 (.bl false)
  | _ => exact q1.elim
theorem ce_or {a b : Expr} {rest : List Expr} {f h : ME} {pos : Pos} (ha : CE X W a f) (hb : CE X W (.BoolOp .Or (b :: rest) pos) h) : CE X W (.BoolOp .Or (a :: b :: rest) pos) (mOrV f h) := by
  refine ⟨PEi (pe_or ha.run hb.run) fun σ H Q ⟨m, e, S, st, sl, q⟩ => ?_⟩
  refine tM_bind st sl q fun d S1 v H1 m1 _ g1 st1 sl1 r1 q1 => ?_
  cases d with
  | bl b =>
    cases r1
    refine ⟨b, rfl, ?_⟩
    cases b with
    | false => exact ⟨m1, e, S1, st1, sl1, q1⟩
    | true => exact okR.here (show okR _ _ _ _ _ _ (RpR X.K X.mg) Q (.ok (.bl true) S1) from q1) st1 (.bl true)
  | _ => exact q1.elim
theorem ce_not {a : Expr} {f : ME} {pos : Pos} (ha : CE X W a f) : CE X W (.UnaryOp .Not a pos) (mNotV f) := by
  refine ⟨PEi (pe_not ha.run) fun σ H Q ⟨m, e, S, st, sl, q⟩ => ?_⟩
  refine tM_bind st sl q fun d S1 v H1 m1 _ g1 st1 sl1 r1 q1 => ?_
  cases d with
  | bl b => cases r1; exact ⟨b, rfl, okR.here q1 st1 (.bl _)⟩
  | _ => exact q1.elim
def mIf (c : MT) (f h : ME) : ME := fun e S => (c e S).bind fun b S => if b = true then f e S else h e S
theorem ce_if {c a b : Expr} {t : MT} {f h : ME} {pos : Pos} (hc : CT X W c t) (ha : CE X W a f) (hb : CE X W b h) : CE X W (.IfExp c a b pos) (mIf t f h) := by
  refine ⟨PEi (pe_ifExp hc.run ha.run hb.run) fun σ H Q ⟨m, e, S, st, sl, q⟩ => ?_⟩
  refine tM_bind st sl q fun d S1 v H1 m1 _ g1 st1 sl1 r1 q1 => ?_
  cases r1
  cases d with
  | true => exact ⟨m1, e, S1, st1, sl1, q1⟩
  | false => exact ⟨m1, e, S1, st1, sl1, q1⟩

/-! ### arithmetic -/
def addD : D → D → Sto → R D
  | .int i, .int j, S => .ok (.int (i + j)) S
  | .str a, .str b, S => if a.length + b.length ≤ lim then .ok (.str (a ++ b)) S else .no
  | .ref i, .ref j, S => match S[i]?, S[j]? with
    | some (.lst xs), some (.lst ys) => if xs.length + ys.length ≤ lim then .ok (.ref S.length) (S ++ [.lst (xs ++ ys)]) else .no
    | _, _ => .no
  | _, _, _ => .no
theorem om_add : OpM X (binaryOp .Add) addD := by
  refine ⟨_, op_add.or (op_add_str.or op_cat), fun H m S x y dx dy σ W Q st rx ry q => ?_⟩
  unfold addD at q
  split at q
  · cases rx; cases ry
    exact .inl ⟨_, _, rfl, rfl, okR.here q st (.int _)⟩
  · split at q
    · rename_i a b hz
      cases rx with
      | str _ ta =>
        cases ry with
        | str _ tb => exact .inr (.inl ⟨_, _, rfl, rfl, Nat.le_trans hz lim_le, okR.here q st (.str _ (txtOk_app ta tb hz))⟩)
    · exact q.elim
  · split at q
    · rename_i i j _ _ xs ys h1 h2
      split at q
      · rename_i hz
        cases rx with
        | ref ex =>
          cases ry with
          | ref ey =>
            obtain ⟨vx, hx, px⟩ := st.obj _ _ _ h1 ex
            obtain ⟨vy, hy, py⟩ := st.obj _ _ _ h2 ey
            refine .inr (.inr ⟨_, _, vx, vy, rfl, rfl, hx, hy, ?_, fun p hp => ?_⟩)
            · rw [← px.length, ← py.length]
              exact Nat.le_trans hz lim_le
            · have g0 : Gr H m (upd H p (.lst (vx ++ vy))) (m ++ [p]) := st.push_gr hp
              obtain ⟨g2, st2⟩ := st.push (ho := .lst (vx ++ vy)) (o := .lst (xs ++ ys)) hp rfl ⟨_, upd_same, Rps.mono st g0 _ _ (px.append py)⟩
              exact q _ _ _ g2 st2 (.ref (by rw [← st.len]; simp))
      · exact q.elim
    · exact q.elim
  · exact q.elim
def subD : D → D → Sto → R D
  | .int i, .int j, S => .ok (.int (i - j)) S
  | _, _, _ => .no
theorem om_sub : OpM X (binaryOp .Sub) subD := by
  refine ⟨_, op_sub, fun H m S x y dx dy σ W Q st rx ry q => ?_⟩
  unfold subD at q
  split at q
  · cases rx; cases ry
    exact ⟨_, _, rfl, rfl, okR.here q st (.int _)⟩
  · exact q.elim
def mulD : D → D → Sto → R D
  | .int i, .int j, S => if (-(2 ^ 64) < i ∧ i < 2 ^ 64) ∨ (-(2 ^ 64) < j ∧ j < 2 ^ 64) then .ok (.int (i * j)) S else .no
  | _, _, _ => .no
theorem om_mul : OpM X (binaryOp .Mult) mulD := by
  refine ⟨_, op_mul, fun H m S x y dx dy σ W Q st rx ry q => ?_⟩
  unfold mulD at q
  split at q
  · split at q
    · rename_i hz
      cases rx; cases ry
      exact ⟨_, _, rfl, rfl, hz, okR.here q st (.int _)⟩
    · exact q.elim
  · exact q.elim
def modD : D → D → Sto → R D
  | .int i, .int j, S => if 0 < j then .ok (.int (i % j)) S else .no
  | _, _, _ => .no
theorem om_mod : OpM X (binaryOp .Mod) modD := by
  refine ⟨_, op_mod, fun H m S x y dx dy σ W Q st rx ry q => ?_⟩
  unfold modD at q
  split at q
  · split at q
    · rename_i hz
      cases rx; cases ry
      exact ⟨_, _, rfl, rfl, hz, okR.here q st (.int _)⟩
    · exact q.elim
  · exact q.elim
def fdivD : D → D → Sto → R D
  | .int i, .int j, S => if 0 < j ∧ j < 1073741824 then .ok (.int (i / j)) S else .no
  | _, _, _ => .no
theorem om_fdiv : OpM X (binaryOp .FloorDiv) fdivD := by
  refine ⟨_, op_fdiv, fun H m S x y dx dy σ W Q st rx ry q => ?_⟩
  unfold fdivD at q
  split at q
  · split at q
    · rename_i hz
      cases rx; cases ry
      exact ⟨_, _, rfl, rfl, hz, okR.here q st (.int _)⟩
    · exact q.elim
  · exact q.elim
def powD : D → D → Sto → R D
  | .int i, .int j, S => if 0 ≤ j ∧ j ≤ 1000 ∧ (-(2 ^ 64) < i ∧ i < 2 ^ 64) then .ok (.int (i ^ j.toNat)) S else .no
  | _, _, _ => .no
theorem om_pow : OpM X (binaryOp .Pow) powD := by
  refine ⟨_, op_pow, fun H m S x y dx dy σ W Q st rx ry q => ?_⟩
  unfold powD at q
  split at q
  · split at q
    · rename_i hz
      cases rx; cases ry
      exact ⟨_, _, rfl, rfl, ⟨hz.1, by omega, by omega⟩, okR.here q st (.int _)⟩
    · exact q.elim
  · exact q.elim
def negD : D → Sto → R D
  | .int i, S => .ok (.int (-i)) S
  | _, _ => .no
def mUn (g : D → Sto → R D) (f : ME) : ME := fun e S => (f e S).bind fun x S => g x S
theorem ce_neg {a : Expr} {f : ME} {pos : Pos} (ha : CE X W a f) : CE X W (.UnaryOp .USub a pos) (mUn negD f) := by
  refine ⟨PEi (pe_un un_neg ha.run) fun σ H Q ⟨m, e, S, st, sl, q⟩ => ?_⟩
  refine tM_bind st sl q fun d S1 v H1 m1 _ g1 st1 sl1 r1 q1 => ?_
  unfold negD at q1
  split at q1
  · cases r1; exact ⟨_, rfl, okR.here q1 st1 (.int _)⟩
  · exact q1.elim

/-! ### order, None -/
def ltD : D → D → Sto → R D
  | .int i, .int j, S => .ok (.bl (decide (i < j))) S
  | .str a, .str b, S => .ok (.bl (decide (a.cps.toList < b.cps.toList))) S
  | _, _, _ => .no
theorem om_lt : OpM X (compareOp .Lt) ltD := by
  refine ⟨_, op_lt.or op_lt_str, fun H m S x y dx dy σ W Q st rx ry q => ?_⟩
  unfold ltD at q
  split at q
  · cases rx; cases ry
    exact .inl ⟨_, _, rfl, rfl, okR.here q st (.bl _)⟩
  · cases rx; cases ry
    exact .inr ⟨_, _, rfl, rfl, okR.here q st (.bl _)⟩
  · exact q.elim
def gtD : D → D → Sto → R D
  | .int i, .int j, S => .ok (.bl (decide (j < i))) S
  | .str a, .str b, S => .ok (.bl (decide (b.cps.toList < a.cps.toList))) S
  | _, _, _ => .no
theorem om_gt : OpM X (compareOp .Gt) gtD := by
  refine ⟨_, op_gt.or op_gt_str, fun H m S x y dx dy σ W Q st rx ry q => ?_⟩
  unfold gtD at q
  split at q
  · cases rx; cases ry
    exact .inl ⟨_, _, rfl, rfl, okR.here q st (.bl _)⟩
  · cases rx; cases ry
    exact .inr ⟨_, _, rfl, rfl, okR.here q st (.bl _)⟩
  · exact q.elim
def leD : D → D → Sto → R D
  | .int i, .int j, S => .ok (.bl (decide (i ≤ j))) S
  | .str a, .str b, S => .ok (.bl (!decide (b.cps.toList < a.cps.toList))) S
  | _, _, _ => .no
theorem om_le : OpM X (compareOp .LtE) leD := by
  refine ⟨_, op_le.or op_le_str, fun H m S x y dx dy σ W Q st rx ry q => ?_⟩
  unfold leD at q
  split at q
  · cases rx; cases ry
    exact .inl ⟨_, _, rfl, rfl, okR.here q st (.bl _)⟩
  · cases rx; cases ry
    exact .inr ⟨_, _, rfl, rfl, okR.here q st (.bl _)⟩
  · exact q.elim
def geD : D → D → Sto → R D
  | .int i, .int j, S => .ok (.bl (decide (j ≤ i))) S
  | .str a, .str b, S => .ok (.bl (!decide (a.cps.toList < b.cps.toList))) S
  | _, _, _ => .no
theorem om_ge : OpM X (compareOp .GtE) geD := by
  refine ⟨_, op_ge.or op_ge_str, fun H m S x y dx dy σ W Q st rx ry q => ?_⟩
  unfold geD at q
  split at q
  · cases rx; cases ry
    exact .inl ⟨_, _, rfl, rfl, okR.here q st (.bl _)⟩
  · cases rx; cases ry
    exact .inr ⟨_, _, rfl, rfl, okR.here q st (.bl _)⟩
  · exact q.elim
def isNon : D → Bool
  | .non => true
  | _ => false
theorem isNon_v {K : PySem.W.Frag} {mg : Str → Option Value} {H : Hp} {m : List Addr} {d : D} {v : V} (r : Rp K mg H m d v) : decide (v = .non) = isNon d := by
  cases r <;> simp [isNon]
def isD : D → D → Sto → R D
  | x, .non, S => .ok (.bl (isNon x)) S
  | _, _, _ => .no
def notIsD : D → D → Sto → R D
  | x, .non, S => .ok (.bl (!isNon x)) S
  | _, _, _ => .no
theorem om_is : OpM X (compareOp .Is) isD := by
  refine ⟨_, op_isN, fun H m S x y dx dy σ W Q st rx ry q => ?_⟩
  unfold isD at q
  split at q
  · cases ry
    exact ⟨rfl, okR.here q st (by rw [isNon_v rx]; exact .bl _)⟩
  · exact q.elim
theorem om_isnot : OpM X (compareOp .IsNot) notIsD := by
  refine ⟨_, op_notN, fun H m S x y dx dy σ W Q st rx ry q => ?_⟩
  unfold notIsD at q
  split at q
  · cases ry
    exact ⟨rfl, okR.here q st (by rw [isNon_v rx]; exact .bl _)⟩
  · exact q.elim
end
end Mi

set_option Elab.async false
set_option linter.all false
set_option maxRecDepth 100000
set_option maxHeartbeats 1000000
namespace Mi
open PySem PySem.Spec PyProof.Rows L2
variable [TabsOf]

/-! ### data as a whole, and == -/
def optAll (f : D → Option PyData) : List D → Option (List PyData)
  | [] => some []
  | d :: ds => match f d, optAll f ds with
    | some p, some ps => some (p :: ps)
    | _, _ => none
def rdD : Nat → Sto → D → Option PyData
  | 0, _, _ => none
  | n + 1, S, d => match d with
    | .non => some .none
    | .bl b => some (.bool b)
    | .int i => some (.int i)
    | .str x => some (.str x)
    | .tup ds => (optAll (rdD n S) ds).map .tuple
    | .seq ds => (optAll (rdD n S) ds).map .list
    | .ref j => match S[j]? with
      | some (.lst ds) => (optAll (rdD n S) ds).map .list
      | _ => none
    | _ => none
section
variable {K : PySem.W.Frag} {mg : Str → Option Value} {H : Hp} {m : List Addr} {S : Sto}
theorem optAll_dp {n : Nat} (ih : ∀ (d : D) (v : V) (p : PyData), Rp K mg H m d v → rdD n S d = some p → Dp K H v p ∧ p.canLay0 = true ∧ p.depth ≤ n) : ∀ (ds : List D) (vs : List V) (ps : List PyData), Rps K mg H m ds vs → optAll (rdD n S) ds = some ps → DpAll K H vs ps ∧ PyData.canLayAll0 ps = true ∧ PyData.depthAll ps ≤ n
  | [], _, _, h, e => by
    cases h
    cases e
    exact ⟨.nil, by simp [PyData.canLayAll0], by simp [PyData.depthAll]⟩
  | d :: ds, _, ps, h, e => by
    cases h with
    | cons h1 h2 =>
      unfold optAll at e
      split at e
      · rename_i p qs e1 e2
        cases e
        obtain ⟨a1, a2, a3⟩ := ih d _ p h1 e1
        obtain ⟨b1, b2, b3⟩ := optAll_dp ih ds _ qs h2 e2
        exact ⟨.cons a1 b1, by simp [PyData.canLayAll0, a2, b2], by simp [PyData.depthAll]; omega⟩
      · cases e
theorem rdD_dp (st : Stt K mg H m S) : ∀ (n : Nat) (d : D) (v : V) (p : PyData), Rp K mg H m d v → rdD n S d = some p → Dp K H v p ∧ p.canLay0 = true ∧ p.depth ≤ n
  | 0, _, _, _, _, e => by cases e
  | n + 1, d, v, p, h, e => by
    have ih := rdD_dp st n
    cases d with
    | non => cases h; cases e; exact ⟨.non, by simp [PyData.canLay0], by simp [PyData.depth]⟩
    | bl b => cases h; cases e; exact ⟨.bl b, by simp [PyData.canLay0], by simp [PyData.depth]⟩
    | int i => cases h; cases e; exact ⟨.int i, by simp [PyData.canLay0], by simp [PyData.depth]⟩
    | str x =>
      cases h with
      | str _ hx => cases e; exact ⟨.str x, by simp [PyData.canLay0, txtOk_ok hx], by simp [PyData.depth]⟩
    | tup ds =>
      cases h with
      | tup h1 h2 =>
        have e : (optAll (rdD n S) ds).map PyData.tuple = some p := e
        obtain ⟨ps, e1, rfl⟩ := Option.map_eq_some_iff.mp e
        obtain ⟨a1, a2, a3⟩ := optAll_dp ih ds _ ps h2 e1
        exact ⟨.tup (SqT.of h1) a1, by simp [PyData.canLay0, a2], by simp [PyData.depth]; omega⟩
    | seq ds =>
      have e : (optAll (rdD n S) ds).map PyData.list = some p := e
      obtain ⟨ps, e1, rfl⟩ := Option.map_eq_some_iff.mp e
      cases h with
      | seq h1 h2 =>
        obtain ⟨a1, a2, a3⟩ := optAll_dp ih ds _ ps h2 e1
        exact ⟨.lst (.inl (.inr ⟨_, h1⟩)) a1, by simp [PyData.canLay0, a2], by simp [PyData.depth]; omega⟩
      | seqK h1 h2 =>
        obtain ⟨a1, a2, a3⟩ := optAll_dp ih ds _ ps h2 e1
        exact ⟨.lst (h1 _) a1, by simp [PyData.canLay0, a2], by simp [PyData.depth]; omega⟩
    | ref j =>
      cases h with
      | ref h1 =>
        simp only [rdD] at e
        split at e
        · rename_i ds hs
          obtain ⟨ps, e1, rfl⟩ := Option.map_eq_some_iff.mp e
          obtain ⟨vs, q1, q2⟩ := st.obj _ _ _ hs h1
          obtain ⟨a1, a2, a3⟩ := optAll_dp ih ds _ ps q2 e1
          exact ⟨.lst (SqL.of q1) a1, by simp [PyData.canLay0, a2], by simp [PyData.depth]; omega⟩
        · cases e
    | glb x => cases e
    | bty n => cases e
theorem rdD_sh (st : Stt K mg H m S) {d : D} {v : V} {p : PyData} (h : Rp K mg H m d v) (e : rdD 60 S d = some p) : Dp K H v p ∧ SeqAt.shaped p = true := by
  obtain ⟨a, b, c⟩ := rdD_dp st 60 d v p h e
  refine ⟨a, ?_⟩
  unfold SeqAt.shaped
  rw [Bool.and_eq_true, decide_eq_true_eq]
  exact ⟨b, by omega⟩
end
/-- == -/
def eqB (x y : D) (S : Sto) : Option Bool := match rdD 60 S x, rdD 60 S y with
  | some p, some q => some (PyData.eqv p q)
  | _, _ => none
def eqD (x y : D) (S : Sto) : R D := match eqB x y S with
  | some b => .ok (.bl b) S
  | none => .no
def neD (x y : D) (S : Sto) : R D := match eqB x y S with
  | some b => .ok (.bl (!b)) S
  | none => .no
section
variable {X : Cx} {W : WX}
theorem om_eq (hu : X.A.units + 64 < cLine) : OpM X (compareOp .Eq) eqD := by
  refine ⟨_, op_eqD hu, fun H m S x y dx dy σ W Q st rx ry q => ?_⟩
  unfold eqD at q
  split at q
  · rename_i b hb
    unfold eqB at hb
    split at hb
    · rename_i p p' h1 h2
      cases hb
      obtain ⟨a1, a2⟩ := rdD_sh st rx h1
      obtain ⟨b1, b2⟩ := rdD_sh st ry h2
      exact ⟨p, p', a1, b1, a2, b2, okR.here q st (.bl _)⟩
    · cases hb
  · exact q.elim
theorem om_ne (hu : X.A.units + 64 < cLine) : OpM X (compareOp .NotEq) neD := by
  refine ⟨_, op_neD hu, fun H m S x y dx dy σ W Q st rx ry q => ?_⟩
  unfold neD at q
  split at q
  · rename_i b hb
    unfold eqB at hb
    split at hb
    · rename_i p p' h1 h2
      cases hb
      obtain ⟨a1, a2⟩ := rdD_sh st rx h1
      obtain ⟨b1, b2⟩ := rdD_sh st ry h2
      exact ⟨p, p', a1, b1, a2, b2, okR.here q st (.bl _)⟩
    · cases hb
  · exact q.elim
end

/-! ### lists that are read -/
/-- the items of a list, of a tuple -/
def itemsL (S : Sto) : D → Option (List D)
  | .seq ds => some ds
  | .ref j => match S[j]? with
    | some (.lst ds) => some ds
    | _ => none
  | _ => none
section
variable {K : PySem.W.Frag} {mg : Str → Option Value} {H : Hp} {m : List Addr} {S : Sto}
theorem itemsL_sq (st : Stt K mg H m S) {d : D} {v : V} {ds : List D} (r : Rp K mg H m d v) (e : itemsL S d = some ds) : ∃ a vs, v = .ref a ∧ SqL K H a vs ∧ Rps K mg H m ds vs := by
  unfold itemsL at e
  split at e
  · cases e
    cases r with
    | seq h1 h2 => exact ⟨_, _, rfl, .inl (.inr ⟨_, h1⟩), h2⟩
    | seqK h1 h2 => exact ⟨_, _, rfl, h1 _, h2⟩
  · split at e
    · rename_i hs
      cases e
      cases r with
      | ref h1 =>
        obtain ⟨vs, q1, q2⟩ := st.obj _ _ _ hs h1
        exact ⟨_, vs, rfl, SqL.of q1, q2⟩
    · cases e
  · cases e
theorem Rps.atI {ds : List D} {vs : List V} (h : Rps K mg H m ds vs) {i : Int} {d : D} (e : L2.atI ds i = some d) : ∃ v, L2.atI vs i = some v ∧ Rp K mg H m d v := by
  unfold L2.atI at e ⊢
  rw [← h.length]
  obtain ⟨j, e1, e2⟩ := Option.bind_eq_some_iff.mp e
  obtain ⟨v, h1, h2⟩ := h.get e2
  exact ⟨v, by rw [e1]; exact h1, h2⟩
end
end Mi

set_option Elab.async false
set_option linter.all false
set_option maxRecDepth 100000
set_option maxHeartbeats 1000000
namespace Mi
open PySem PySem.Spec PyProof.Rows L2
variable [TabsOf]

theorem PEor {X : Cx} {e : Expr} {t u : TE} (h : PE X e t) (k : PE X e u) : PE X e (fun σ H Q => t σ H Q ∨ u σ H Q) :=
  ⟨fun pins s σ H Q I q => q.elim (h.run pins s σ H Q I) (k.run pins s σ H Q I)⟩
theorem PTor {X : Cx} {e : Expr} {t u : TT} (h : PT X e t) (k : PT X e u) : PT X e (fun σ H Q => t σ H Q ∨ u σ H Q) :=
  ⟨fun pins s σ H Q I q => q.elim (h.run pins s σ H Q I) (k.run pins s σ H Q I)⟩
theorem CallR.or {X : Cx} {f : Value} {r r' : List V → Hp → VK → Prop} (h : CallR X f r) (h' : CallR X f r') : CallR X f (fun xs H Q => r xs H Q ∨ r' xs H Q) := by
  intro pins s σ H xs us Q I rx q
  rcases q with q | q
  · exact h pins s σ H xs us Q I rx q
  · exact h' pins s σ H xs us Q I rx q
theorem MtR.or {X : Cx} {f : String} {r r' : V → List V → Hp → VK → Prop} (h : MtR X f r) (h' : MtR X f r') : MtR X f (fun x xs H Q => r x xs H Q ∨ r' x xs H Q) := by
  intro pins s σ H x xs v us Q I rv rx q
  rcases q with q | q
  · exact h pins s σ H x xs v us Q I rv rx q
  · exact h' pins s σ H x xs v us Q I rv rx q

/-! ### keys and dicts -/
def keyK : D → Option Key
  | .int i => some (.inl i)
  | .str x => some (.inr x)
  | _ => none
def keysK : List D → Option (List Key)
  | [] => some []
  | d :: ds => match keyK d, keysK ds with
    | some k, some ks => some (k :: ks)
    | _, _ => none
def keyT : D → Option (List Key)
  | .tup ds => keysK ds
  | _ => none
def kD : Key → D
  | .inl i => .int i
  | .inr x => .str x
section
variable {κ : Type} [DecidableEq κ]
def valD (kvs : List (κ × D)) (k : κ) : Option D := (kvs.find? fun kv => decide (kv.1 = k)).map (·.2)
def putD (kvs : List (κ × D)) (k : κ) (v : D) : List (κ × D) :=
  if (kvs.any fun kv => decide (kv.1 = k)) = true then kvs.map (fun kv => if kv.1 = k then (kv.1, v) else kv) else kvs ++ [(k, v)]
def dropD (kvs : List (κ × D)) (k : κ) : List (κ × D) := kvs.filter fun kv => decide (kv.1 ≠ k)
variable {K : PySem.W.Frag} {mg : Str → Option Value} {H : Hp} {m : List Addr}
theorem Rpf.val {kvs : List (κ × D)} {vs : List (κ × V)} (h : Rpf K mg H m kvs vs) (k : κ) : (valD kvs k = none ∧ valV vs k = none) ∨ ∃ d v, valD kvs k = some d ∧ valV vs k = some v ∧ Rp K mg H m d v := by
  induction kvs generalizing vs with
  | nil => cases h; exact .inl ⟨rfl, rfl⟩
  | cons p ps ih =>
    cases h with
    | @cons _ q _ qs h1 h2 =>
      obtain ⟨e1, e2⟩ := h1
      unfold valD valV
      rw [List.find?_cons, List.find?_cons, ← e1]
      by_cases hk : p.1 = k
      · rw [decide_eq_true hk]
        exact .inr ⟨_, _, rfl, rfl, e2⟩
      · rw [decide_eq_false hk]
        exact ih h2
theorem Rpf.keys {kvs : List (κ × D)} {vs : List (κ × V)} (h : Rpf K mg H m kvs vs) : kvs.map (·.1) = vs.map (·.1) := by
  induction kvs generalizing vs with
  | nil => cases h; rfl
  | cons p ps ih =>
    cases h with
    | @cons _ q _ qs h1 h2 => simp [h1.1, ih h2]
theorem Rpf.length {κ : Type} {kvs : List (κ × D)} {vs : List (κ × V)} (h : Rpf K mg H m kvs vs) : kvs.length = vs.length := by
  induction kvs generalizing vs with
  | nil => cases h; rfl
  | cons p ps ih =>
    cases h with
    | @cons _ q _ qs h1 h2 => simp [ih h2]
theorem Rpf.append {κ : Type} {kvs ks : List (κ × D)} {vs us : List (κ × V)} (h : Rpf K mg H m kvs vs) (k : Rpf K mg H m ks us) : Rpf K mg H m (kvs ++ ks) (vs ++ us) := by
  induction kvs generalizing vs with
  | nil => cases h; exact k
  | cons p ps ih =>
    cases h with
    | @cons _ q _ qs h1 h2 => exact .cons h1 (ih h2)
theorem Rpf.any {kvs : List (κ × D)} {vs : List (κ × V)} (h : Rpf K mg H m kvs vs) (k : κ) : (kvs.any fun kv => decide (kv.1 = k)) = (vs.any fun kv => decide (kv.1 = k)) := by
  induction kvs generalizing vs with
  | nil => cases h; rfl
  | cons p ps ih =>
    cases h with
    | @cons _ q _ qs h1 h2 => rw [List.any_cons, List.any_cons, h1.1, ih h2]
theorem Rpf.mapPut {kvs : List (κ × D)} {vs : List (κ × V)} (h : Rpf K mg H m kvs vs) (k : κ) {d : D} {v : V} (r : Rp K mg H m d v) : Rpf K mg H m (kvs.map fun kv => if kv.1 = k then (kv.1, d) else kv) (vs.map fun kv => if kv.1 = k then (kv.1, v) else kv) := by
  induction kvs generalizing vs with
  | nil => cases h; exact .nil
  | cons p ps ih =>
    cases h with
    | @cons _ q _ qs h1 h2 =>
      rw [List.map_cons, List.map_cons]
      refine .cons ?_ (ih h2)
      rw [h1.1]
      split
      · exact ⟨rfl, r⟩
      · exact h1
theorem Rpf.put {kvs : List (κ × D)} {vs : List (κ × V)} (h : Rpf K mg H m kvs vs) (k : κ) {d : D} {v : V} (r : Rp K mg H m d v) : Rpf K mg H m (putD kvs k d) (putK vs k v) := by
  unfold putD putK
  rw [h.any k]
  split
  · exact h.mapPut k r
  · exact h.append (.cons ⟨rfl, r⟩ .nil)
theorem Rpf.drop {kvs : List (κ × D)} {vs : List (κ × V)} (h : Rpf K mg H m kvs vs) (k : κ) : Rpf K mg H m (dropD kvs k) (dropK vs k) := by
  unfold dropD dropK
  induction kvs generalizing vs with
  | nil => cases h; exact .nil
  | cons p ps ih =>
    cases h with
    | @cons _ q _ qs h1 h2 =>
      rw [List.filter_cons, List.filter_cons, h1.1]
      split
      · exact .cons h1 (ih h2)
      · exact ih h2
theorem keyK_v {d : D} {v : V} {k : Key} (r : Rp K mg H m d v) (e : keyK d = some k) : v = kV k ∧ Rp K mg H m (kD k) v := by
  unfold keyK at e
  split at e
  · cases e; cases r; exact ⟨rfl, .int _⟩
  · cases e
    cases r with
    | str _ h => exact ⟨rfl, .str _ h⟩
  · cases e
theorem keysK_v : ∀ {ds : List D} {vs : List V} {ks : List Key}, Rps K mg H m ds vs → keysK ds = some ks → vs = ks.map kV
  | [], _, _, h, e => by cases h; cases e; rfl
  | d :: ds, _, ks, h, e => by
    cases h with
    | cons h1 h2 =>
      unfold keysK at e
      split at e
      · rename_i k ks' e1 e2
        cases e
        rw [(keyK_v h1 e1).1, keysK_v h2 e2]
        rfl
      · cases e
theorem keyT_v {d : D} {v : V} {ks : List Key} (r : Rp K mg H m d v) (e : keyT d = some ks) : ∃ b, v = .ref b ∧ H b = some (.tup (ks.map kV)) := by
  unfold keyT at e
  split at e
  · cases r with
    | tup h1 h2 => exact ⟨_, rfl, by rw [h1, keysK_v h2 e]⟩
  · cases e
end
/-- what the dict x holds at the key k -/
def dictGet (S : Sto) (x k : D) : Option (Option D) := match x with
  | .ref j => match S[j]? with
    | some (.dK kvs) => (keyK k).map fun k => valD kvs k
    | some (.lK kvs) => (keyK k).map fun k => valD kvs k
    | some (.dT kvs) => (keyT k).map fun k => valD kvs k
    | some (.lT kvs) => (keyT k).map fun k => valD kvs k
    | _ => none
  | _ => none
def RpO (K : PySem.W.Frag) (mg : Str → Option Value) (H : Hp) (m : List Addr) : Option D → Option V → Prop
  | some d, some v => Rp K mg H m d v
  | none, none => True
  | _, _ => False
section
variable {K : PySem.W.Frag} {mg : Str → Option Value} {H : Hp} {m : List Addr} {S : Sto}
theorem rpf_val {κ : Type} [DecidableEq κ] {kvs : List (κ × D)} {vs : List (κ × V)} (h : Rpf K mg H m kvs vs) (k : κ) : RpO K mg H m (valD kvs k) (valV vs k) := by
  rcases h.val k with ⟨h1, h2⟩ | ⟨d, v, h1, h2, h3⟩
  · rw [h1, h2]; trivial
  · rw [h1, h2]; exact h3
theorem dictGet_v (st : Stt K mg H m S) {x k : D} {u w : V} {o : Option D} (rx : Rp K mg H m x u) (rk : Rp K mg H m k w) (e : dictGet S x k = some o) : ∃ a r, u = .ref a ∧ DGet H a w r ∧ RpO K mg H m o r := by
  unfold dictGet at e
  split at e
  · rename_i j
    cases rx with
    | @ref _ a ha =>
      split at e
      · rename_i kvs hs
        obtain ⟨k', e1, rfl⟩ := Option.map_eq_some_iff.mp e
        obtain ⟨vs, q1, q2, _⟩ := st.obj _ _ _ hs ha
        exact ⟨a, _, rfl, .inl ⟨vs, k', .inl q1, (keyK_v rk e1).1, rfl⟩, rpf_val q2 k'⟩
      · rename_i kvs hs
        obtain ⟨k', e1, rfl⟩ := Option.map_eq_some_iff.mp e
        obtain ⟨ob, vs, q1, q2, _⟩ := st.obj _ _ _ hs ha
        exact ⟨a, _, rfl, .inl ⟨vs, k', .inr ⟨ob, q1⟩, (keyK_v rk e1).1, rfl⟩, rpf_val q2 k'⟩
      · rename_i kvs hs
        obtain ⟨k', e1, rfl⟩ := Option.map_eq_some_iff.mp e
        obtain ⟨vs, q1, q2, _⟩ := st.obj _ _ _ hs ha
        obtain ⟨b, rfl, hb⟩ := keyT_v rk e1
        exact ⟨a, _, rfl, .inr ⟨vs, k', b, .inl q1, rfl, hb, rfl⟩, rpf_val q2 k'⟩
      · rename_i kvs hs
        obtain ⟨k', e1, rfl⟩ := Option.map_eq_some_iff.mp e
        obtain ⟨ob, vs, q1, q2, _⟩ := st.obj _ _ _ hs ha
        obtain ⟨b, rfl, hb⟩ := keyT_v rk e1
        exact ⟨a, _, rfl, .inr ⟨vs, k', b, .inr ⟨ob, q1⟩, rfl, hb, rfl⟩, rpf_val q2 k'⟩
      · cases e
  · cases e
end

/-! ### x[i] -/
def sign1 (c : Nat) : Str := ⟨#[c]⟩
theorem sign1_ok {s : Str} {c : Nat} (h : txtOk s = true) (hc : c ∈ s.cps.toList) : txtOk (sign1 c) = true := by
  have h1 := txtOk_ok h
  unfold PyData.strOk at h1
  rw [← Array.all_toList, List.all_eq_true] at h1
  have h2 := h1 c hc
  unfold txtOk sign1 PyData.strOk
  rw [Bool.and_eq_true, decide_eq_true_eq]
  refine ⟨by show 1 ≤ lim; decide, ?_⟩
  rw [← Array.all_toList]
  show ([c] : List Nat).all _ = true
  rw [List.all_cons, h2] <;> rfl
theorem atI_mem {α : Type} {xs : List α} {i : Int} {x : α} (h : L2.atI xs i = some x) : x ∈ xs := by
  unfold L2.atI at h
  obtain ⟨j, _, e⟩ := Option.bind_eq_some_iff.mp h
  exact List.mem_of_getElem? e
def isDictD (S : Sto) : D → Bool
  | .ref j => match S[j]? with
    | some (.dK _) | some (.lK _) | some (.dT _) | some (.lT _) => true
    | _ => false
  | _ => false
def seqIx (S : Sto) (x i : D) : Option D := match x, i with
  | .tup ds, .int i => L2.atI ds i
  | .seq ds, .int i => L2.atI ds i
  | .str s, .int i => (L2.atI s.cps.toList i).map fun c => .str (sign1 c)
  | .ref j, .int i => match S[j]? with
    | some (.lst ds) => L2.atI ds i
    | _ => none
  | _, _ => none
def ixD (x i : D) (S : Sto) : R D :=
  if isDictD S x = true then (match dictGet S x i with
    | some (some d) => .ok d S
    | _ => .no) else (match seqIx S x i with
    | some d => .ok d S
    | none => .no)
section
variable {X : Cx} {W : WX}
theorem seqIx_r {H : Hp} {m : List Addr} {S : Sto} {x i d : D} {u w : V} {Q : VK} (st : Stt X.K X.mg H m S) (rx : Rp X.K X.mg H m x u) (ri : Rp X.K X.mg H m i w) (e : seqIx S x i = some d) (q : ∀ v, Rp X.K X.mg H m d v → Q v H) : rIx X.K u w H Q := by
  unfold seqIx at e
  split at e
  · cases ri
    cases rx with
    | tup h1 h2 =>
      obtain ⟨v, e1, r1⟩ := h2.atI e
      exact .inr (.inl ⟨_, _, _, v, rfl, rfl, SqT.of h1, e1, q v r1⟩)
  · cases ri
    cases rx with
    | seq h1 h2 =>
      obtain ⟨v, e1, r1⟩ := h2.atI e
      exact .inl ⟨_, _, _, v, rfl, rfl, .inl (.inr ⟨_, h1⟩), e1, q v r1⟩
    | seqK h1 h2 =>
      obtain ⟨v, e1, r1⟩ := h2.atI e
      exact .inl ⟨_, _, _, v, rfl, rfl, h1 _, e1, q v r1⟩
  · obtain ⟨c, e1, rfl⟩ := Option.map_eq_some_iff.mp e
    cases ri
    cases rx with
    | str _ hx => exact .inr (.inr ⟨_, _, c, rfl, rfl, txtOk_len hx, e1, q _ (.str _ (sign1_ok hx (atI_mem e1)))⟩)
  · cases ri
    split at e
    · rename_i hs
      cases rx with
      | ref h1 =>
        obtain ⟨vs, q1, q2⟩ := st.obj _ _ _ hs h1
        obtain ⟨v, e1, r1⟩ := q2.atI e
        exact .inl ⟨_, _, _, v, rfl, rfl, SqL.of q1, e1, q v r1⟩
    · cases e
  · cases e
/-- which of two rules serves is told by the model's own values -/
theorem choose2 {f h : ME} {e : Slots} {S : Sto} (P : D → D → Sto → Bool) : ∃ dc : Bool, ∀ d S1 k S2, f e S = .ok d S1 → h e S1 = .ok k S2 → P d k S2 = dc := by
  cases hf : f e S with
  | ok d S1 =>
    cases hh : h e S1 with
    | ok k S2 =>
      refine ⟨P d k S2, fun d' S1' k' S2' e1 e2 => ?_⟩
      cases e1
      rw [hh] at e2
      cases e2
      rfl
    | exc c f d S =>
      refine ⟨false, fun d' S1' k' S2' e1 e2 => ?_⟩
      cases e1
      rw [hh] at e2
      cases e2
    | no =>
      refine ⟨false, fun d' S1' k' S2' e1 e2 => ?_⟩
      cases e1
      rw [hh] at e2
      cases e2
  | exc c f d S => exact ⟨false, fun d' S1' k' S2' e1 _ => by cases e1⟩
  | no => exact ⟨false, fun d' S1' k' S2' e1 _ => by cases e1⟩
theorem choose1 {f : ME} {e : Slots} {S : Sto} (P : D → Sto → Bool) : ∃ dc : Bool, ∀ d S1, f e S = .ok d S1 → P d S1 = dc := by
  cases hf : f e S with
  | ok d S1 =>
    refine ⟨P d S1, fun d' S1' e1 => ?_⟩
    cases e1
    rfl
  | exc c f d S => exact ⟨false, fun d' S1' e1 => by cases e1⟩
  | no => exact ⟨false, fun d' S1' e1 => by cases e1⟩
theorem ce_ix {a b : Expr} {f h : ME} {pos : Pos} (hu : X.A.units + 64 < cLine) (ha : CE X W a f) (hb : CE X W b h) (hs : PlainIx b := by exact fun _ _ => rfl) : CE X W (.Subscript a b pos) (mBin ixD f h) := by
  refine ⟨PEi (PEor (pe_ix ix_seq ha.run hb.run hs) (pe_dget (by omega) ha.run hb.run hs)) fun σ H Q ⟨m, e, S, st, sl, q⟩ => ?_⟩
  obtain ⟨dc, hdc⟩ := choose2 (f := f) (h := h) (e := e) (S := S) fun d _ S2 => isDictD S2 d
  cases dc with
  | false =>
    left
    refine tM_bind st sl q fun d S1 v H1 m1 e1 g1 st1 sl1 r1 q1 => ?_
    refine tM_bind st1 sl1 q1 fun k S2 v2 H2 m2 e2 g2 st2 sl2 r2 q2 => ?_
    unfold ixD at q2
    rw [if_neg (by rw [hdc d S1 k S2 e1 e2]; decide)] at q2
    split at q2
    · rename_i d2 hd
      exact seqIx_r st2 (Rp.mono st1 g2 _ _ r1) r2 hd fun v r => okR.here q2 st2 r
    · exact q2.elim
  | true =>
    right
    refine tM_bind st sl q fun d S1 v H1 m1 e1 g1 st1 sl1 r1 q1 => ?_
    refine tM_bind st1 sl1 q1 fun k S2 v2 H2 m2 e2 g2 st2 sl2 r2 q2 => ?_
    unfold ixD at q2
    rw [if_pos (hdc d S1 k S2 e1 e2)] at q2
    split at q2
    · rename_i d2 hd
      obtain ⟨a', r, ha', hg, ho⟩ := dictGet_v st2 (Rp.mono st1 g2 _ _ r1) r2 hd
      cases r with
      | none => exact ho.elim
      | some v' => exact ⟨a', v', ha', hg, okR.here q2 st2 ho⟩
    · exact q2.elim

/-! ### x in y -/
def inSeq (S : Sto) (x y : D) : Option Bool := match x, y with
  | .str c, .str z => match c.cps.toList with
    | [k] => some (decide (k ∈ z.cps.toList))
    | _ => none
  | x, y => match rdD 50 S x, rdD 50 S y with
    | some d, some (.list ds) => some (ds.any fun z => PyData.eqv z d)
    | _, _ => none
def inD (x y : D) (S : Sto) : R D :=
  if isDictD S y = true then (match dictGet S y x with
    | some o => .ok (.bl o.isSome) S
    | none => .no) else (match inSeq S x y with
    | some b => .ok (.bl b) S
    | none => .no)
def notInD (x y : D) (S : Sto) : R D :=
  if isDictD S y = true then (match dictGet S y x with
    | some o => .ok (.bl (!o.isSome)) S
    | none => .no) else (match inSeq S x y with
    | some b => .ok (.bl (!b)) S
    | none => .no)
theorem rdD_sh50 {K : PySem.W.Frag} {mg : Str → Option Value} {H : Hp} {m : List Addr} {S : Sto} (st : Stt K mg H m S) {d : D} {v : V} {p : PyData} (h : Rp K mg H m d v) (e : rdD 50 S d = some p) : Dp K H v p ∧ SeqAt.shaped p = true := by
  obtain ⟨a, b, c⟩ := rdD_dp st 50 d v p h e
  refine ⟨a, ?_⟩
  unfold SeqAt.shaped
  rw [Bool.and_eq_true, decide_eq_true_eq]
  exact ⟨b, by omega⟩
theorem RpO.isSome {K : PySem.W.Frag} {mg : Str → Option Value} {H : Hp} {m : List Addr} {o : Option D} {r : Option V} (h : RpO K mg H m o r) : o.isSome = r.isSome := by
  cases o <;> cases r <;> first | rfl | exact h.elim
theorem inSeq_r {H : Hp} {m : List Addr} {S : Sto} {x y : D} {u w : V} {b : Bool} (st : Stt X.K X.mg H m S) (rx : Rp X.K X.mg H m x u) (ry : Rp X.K X.mg H m y w) (e : inSeq S x y = some b) :
    (∃ (c : Nat) (z : Str), u = .str ⟨#[c]⟩ ∧ w = .str z ∧ decide (c ∈ z.cps.toList) = b) ∨ ∃ d ds, Dp X.K H u d ∧ Dp X.K H w (.list ds) ∧ SeqAt.shaped d = true ∧ SeqAt.shaped (.list ds) = true ∧ (ds.any fun z => PyData.eqv z d) = b := by
  unfold inSeq at e
  split at e
  · rename_i c z
    split at e
    · rename_i k hk
      cases e
      cases rx; cases ry
      refine .inl ⟨k, z, ?_, rfl, rfl⟩
      have : c = ⟨#[k]⟩ := by
        cases c with
        | mk cps =>
          have : cps = #[k] := by
            apply Array.ext'
            exact hk
          rw [this]
      rw [this]
    · cases e
  · split at e
    · rename_i d ds h1 h2
      cases e
      obtain ⟨a1, a2⟩ := rdD_sh50 st rx h1
      obtain ⟨b1, b2⟩ := rdD_sh50 st ry h2
      exact .inr ⟨d, ds, a1, b1, a2, b2, rfl⟩
    · cases e
theorem ce_in {a b : Expr} {f h : ME} {pos : Pos} (hu : X.A.units + 65 < cLine) (ha : CE X W a f) (hb : CE X W b h) (hm : behindInMarks .In b = false := by rfl) : CE X W (.Compare a [.In] [b] pos) (mBin inD f h) := by
  refine ⟨PEi (PEor (pe_cmpR (op_in_sign.or (op_inD hu)) ha.run hb.run hm) (pe_cmp (pc_din (by omega) ha.run hb.run) hm)) fun σ H Q ⟨m, e, S, st, sl, q⟩ => ?_⟩
  obtain ⟨dc, hdc⟩ := choose2 (f := f) (h := h) (e := e) (S := S) fun _ k S2 => isDictD S2 k
  cases dc with
  | false =>
    left
    refine tM_bind st sl q fun d S1 v H1 m1 e1 g1 st1 sl1 r1 q1 => ?_
    refine tM_bind st1 sl1 q1 fun k S2 v2 H2 m2 e2 g2 st2 sl2 r2 q2 => ?_
    unfold inD at q2
    rw [if_neg (by rw [hdc d S1 k S2 e1 e2]; decide)] at q2
    split at q2
    · rename_i d2 hd
      rcases inSeq_r st2 (Rp.mono st1 g2 _ _ r1) r2 hd with ⟨c, z, p1, p2, p3⟩ | ⟨d', ds, p1, p2, p3, p4, p5⟩
      · exact .inl ⟨c, z, p1, p2, okR.here q2 st2 (by rw [p3]; exact .bl _)⟩
      · exact .inr ⟨d', ds, p1, p2, p3, p4, okR.here q2 st2 (by rw [p5]; exact .bl _)⟩
    · exact q2.elim
  | true =>
    right
    refine tM_bind st sl q fun d S1 v H1 m1 e1 g1 st1 sl1 r1 q1 => ?_
    refine tM_bind st1 sl1 q1 fun k S2 v2 H2 m2 e2 g2 st2 sl2 r2 q2 => ?_
    unfold inD at q2
    rw [if_pos (hdc d S1 k S2 e1 e2)] at q2
    split at q2
    · rename_i d2 hd
      obtain ⟨a', r, ha', hg, ho⟩ := dictGet_v st2 r2 (Rp.mono st1 g2 _ _ r1) hd
      exact ⟨a', r, ha', hg, okR.here q2 st2 (by rw [ho.isSome]; exact .bl _)⟩
    · exact q2.elim
theorem ce_notin {a b : Expr} {f h : ME} {pos : Pos} (hu : X.A.units + 65 < cLine) (ha : CE X W a f) (hb : CE X W b h) (hm : behindInMarks .NotIn b = false := by rfl) : CE X W (.Compare a [.NotIn] [b] pos) (mBin notInD f h) := by
  refine ⟨PEi (PEor (pe_cmpR (op_notIn_sign.or (op_notInD hu)) ha.run hb.run hm) (pe_cmp (pc_dnotin (by omega) ha.run hb.run) hm)) fun σ H Q ⟨m, e, S, st, sl, q⟩ => ?_⟩
  obtain ⟨dc, hdc⟩ := choose2 (f := f) (h := h) (e := e) (S := S) fun _ k S2 => isDictD S2 k
  cases dc with
  | false =>
    left
    refine tM_bind st sl q fun d S1 v H1 m1 e1 g1 st1 sl1 r1 q1 => ?_
    refine tM_bind st1 sl1 q1 fun k S2 v2 H2 m2 e2 g2 st2 sl2 r2 q2 => ?_
    unfold notInD at q2
    rw [if_neg (by rw [hdc d S1 k S2 e1 e2]; decide)] at q2
    split at q2
    · rename_i d2 hd
      rcases inSeq_r st2 (Rp.mono st1 g2 _ _ r1) r2 hd with ⟨c, z, p1, p2, p3⟩ | ⟨d', ds, p1, p2, p3, p4, p5⟩
      · exact .inl ⟨c, z, p1, p2, okR.here q2 st2 (by rw [p3]; exact .bl _)⟩
      · exact .inr ⟨d', ds, p1, p2, p3, p4, okR.here q2 st2 (by rw [p5]; exact .bl _)⟩
    · exact q2.elim
  | true =>
    right
    refine tM_bind st sl q fun d S1 v H1 m1 e1 g1 st1 sl1 r1 q1 => ?_
    refine tM_bind st1 sl1 q1 fun k S2 v2 H2 m2 e2 g2 st2 sl2 r2 q2 => ?_
    unfold notInD at q2
    rw [if_pos (hdc d S1 k S2 e1 e2)] at q2
    split at q2
    · rename_i d2 hd
      obtain ⟨a', r, ha', hg, ho⟩ := dictGet_v st2 r2 (Rp.mono st1 g2 _ _ r1) hd
      exact ⟨a', r, ha', hg, okR.here q2 st2 (by rw [ho.isSome]; exact .bl _)⟩
    · exact q2.elim
/-- as tests -/
theorem ct_in {a b : Expr} {f h : ME} {pos : Pos} (hu : X.A.units + 65 < cLine) (ha : CE X W a f) (hb : CE X W b h) (hm : behindInMarks .In b = false := by rfl) : CT X W (.Compare a [.In] [b] pos) (mTst (mBin inD f h)) := by
  refine ⟨PTi (PTor (pt_cmpR (op_in_sign.or (op_inD hu)) ha.run hb.run hm) (pt_cmp (pc_din (by omega) ha.run hb.run) hm)) fun σ H Q q => ?_⟩
  have q' : tE X.K X.mg W (mBin inD f h) σ H (fun x H' => ∃ k, x = .bl k ∧ Q k H') := tst_aux σ H Q q
  obtain ⟨m, e, S, st, sl, q⟩ := q'
  obtain ⟨dc, hdc⟩ := choose2 (f := f) (h := h) (e := e) (S := S) fun _ k S2 => isDictD S2 k
  cases dc with
  | false =>
    left
    refine (show tOp _ (tE X.K X.mg W f) (tE X.K X.mg W h) σ H (fun x H' => ∃ k, x = .bl k ∧ Q k H') from ?_)
    refine tM_bind st sl q fun d S1 v H1 m1 e1 g1 st1 sl1 r1 q1 => ?_
    refine tM_bind st1 sl1 q1 fun k S2 v2 H2 m2 e2 g2 st2 sl2 r2 q2 => ?_
    unfold inD at q2
    rw [if_neg (by rw [hdc d S1 k S2 e1 e2]; decide)] at q2
    split at q2
    · rename_i d2 hd
      rcases inSeq_r st2 (Rp.mono st1 g2 _ _ r1) r2 hd with ⟨c, z, p1, p2, p3⟩ | ⟨d', ds, p1, p2, p3, p4, p5⟩
      · exact .inl ⟨c, z, p1, p2, okR.here q2 st2 (by rw [p3]; exact .bl _)⟩
      · exact .inr ⟨d', ds, p1, p2, p3, p4, okR.here q2 st2 (by rw [p5]; exact .bl _)⟩
    · exact q2.elim
  | true =>
    right
    refine (show tDIn (tE X.K X.mg W f) (tE X.K X.mg W h) σ H (fun x H' => ∃ k, x = .bl k ∧ Q k H') from ?_)
    refine tM_bind st sl q fun d S1 v H1 m1 e1 g1 st1 sl1 r1 q1 => ?_
    refine tM_bind st1 sl1 q1 fun k S2 v2 H2 m2 e2 g2 st2 sl2 r2 q2 => ?_
    unfold inD at q2
    rw [if_pos (hdc d S1 k S2 e1 e2)] at q2
    split at q2
    · rename_i d2 hd
      obtain ⟨a', r, ha', hg, ho⟩ := dictGet_v st2 r2 (Rp.mono st1 g2 _ _ r1) hd
      exact ⟨a', r, ha', hg, okR.here q2 st2 (by rw [ho.isSome]; exact .bl _)⟩
    · exact q2.elim
theorem ct_notin {a b : Expr} {f h : ME} {pos : Pos} (hu : X.A.units + 65 < cLine) (ha : CE X W a f) (hb : CE X W b h) (hm : behindInMarks .NotIn b = false := by rfl) : CT X W (.Compare a [.NotIn] [b] pos) (mTst (mBin notInD f h)) := by
  refine ⟨PTi (PTor (pt_cmpR (op_notIn_sign.or (op_notInD hu)) ha.run hb.run hm) (pt_cmp (pc_dnotin (by omega) ha.run hb.run) hm)) fun σ H Q q => ?_⟩
  have q' : tE X.K X.mg W (mBin notInD f h) σ H (fun x H' => ∃ k, x = .bl k ∧ Q k H') := tst_aux σ H Q q
  obtain ⟨m, e, S, st, sl, q⟩ := q'
  obtain ⟨dc, hdc⟩ := choose2 (f := f) (h := h) (e := e) (S := S) fun _ k S2 => isDictD S2 k
  cases dc with
  | false =>
    left
    refine (show tOp _ (tE X.K X.mg W f) (tE X.K X.mg W h) σ H (fun x H' => ∃ k, x = .bl k ∧ Q k H') from ?_)
    refine tM_bind st sl q fun d S1 v H1 m1 e1 g1 st1 sl1 r1 q1 => ?_
    refine tM_bind st1 sl1 q1 fun k S2 v2 H2 m2 e2 g2 st2 sl2 r2 q2 => ?_
    unfold notInD at q2
    rw [if_neg (by rw [hdc d S1 k S2 e1 e2]; decide)] at q2
    split at q2
    · rename_i d2 hd
      rcases inSeq_r st2 (Rp.mono st1 g2 _ _ r1) r2 hd with ⟨c, z, p1, p2, p3⟩ | ⟨d', ds, p1, p2, p3, p4, p5⟩
      · exact .inl ⟨c, z, p1, p2, okR.here q2 st2 (by rw [p3]; exact .bl _)⟩
      · exact .inr ⟨d', ds, p1, p2, p3, p4, okR.here q2 st2 (by rw [p5]; exact .bl _)⟩
    · exact q2.elim
  | true =>
    right
    refine (show tDNotIn (tE X.K X.mg W f) (tE X.K X.mg W h) σ H (fun x H' => ∃ k, x = .bl k ∧ Q k H') from ?_)
    refine tM_bind st sl q fun d S1 v H1 m1 e1 g1 st1 sl1 r1 q1 => ?_
    refine tM_bind st1 sl1 q1 fun k S2 v2 H2 m2 e2 g2 st2 sl2 r2 q2 => ?_
    unfold notInD at q2
    rw [if_pos (hdc d S1 k S2 e1 e2)] at q2
    split at q2
    · rename_i d2 hd
      obtain ⟨a', r, ha', hg, ho⟩ := dictGet_v st2 r2 (Rp.mono st1 g2 _ _ r1) hd
      exact ⟨a', r, ha', hg, okR.here q2 st2 (by rw [ho.isSome]; exact .bl _)⟩
    · exact q2.elim
end
end Mi

set_option Elab.async false
set_option linter.all false
set_option maxRecDepth 100000
set_option maxHeartbeats 1000000
namespace Mi
open PySem PySem.Spec PyProof.Rows L2
variable [TabsOf]

/-- a thing of the text that the model never comes to -/
def mNo {α : Type} : Slots → Sto → R α := fun _ _ => .no
section
variable {X : Cx} {W : WX}
theorem ce_no {ex : Expr} : CE X W ex mNo := ⟨⟨fun pins s σ H Q I ⟨m, e, S, st, sl, q⟩ => q.elim⟩⟩
theorem ct_no {ex : Expr} : CT X W ex mNo := ⟨⟨fun pins s σ H Q I ⟨m, e, S, st, sl, q⟩ => q.elim⟩⟩

/-! ### x[a:b] -/
structure CP (X : Cx) (W : WX) (e : Option Expr) (f : Slots → Sto → R (Option Int)) : Prop where
  run : PO X e (tM X.K X.mg W (fun _ _ a b => a = b) f)
def mNone : Slots → Sto → R (Option Int) := fun _ S => .ok none S
def mSome (f : ME) : Slots → Sto → R (Option Int) := fun e S => (f e S).bind fun d S => match d with
  | .int i => .ok (some i) S
  | _ => .no
theorem POi {e : Option Expr} {t u : TO} (h : PO X e t) (k : ∀ σ H Q, u σ H Q → t σ H Q) : PO X e u := ⟨fun pins s σ H Q I q => h.run pins s σ H Q I (k σ H Q q)⟩
theorem cp_none : CP X W none mNone := ⟨POi po_none fun σ H Q ⟨m, e, S, st, sl, q⟩ => okR.here q st rfl⟩
theorem cp_some {ex : Expr} {f : ME} (h : CE X W ex f) : CP X W (some ex) (mSome f) := by
  refine ⟨POi (po_some h.run) fun σ H Q ⟨m, e, S, st, sl, q⟩ => ?_⟩
  refine tM_bind st sl q fun d S1 v H1 m1 _ g1 st1 sl1 r1 q1 => ?_
  cases d with
  | int i => cases r1; exact ⟨i, rfl, okR.here q1 st1 rfl⟩
  | _ => exact q1.elim
def cutD {α : Type} (xs : List α) (lo hi : Option Int) : List α := (xs.drop (HT.sIx xs.length 0 lo)).take (HT.sIx xs.length xs.length hi - HT.sIx xs.length 0 lo)
theorem cutD_v (xs : List V) (lo hi : Option Int) : cutD xs lo hi = cutV xs lo hi := rfl
theorem Rps.cut {K : PySem.W.Frag} {mg : Str → Option Value} {H : Hp} {m : List Addr} {ds : List D} {vs : List V} (h : Rps K mg H m ds vs) (lo hi : Option Int) : Rps K mg H m (cutD ds lo hi) (cutV vs lo hi) := by
  unfold cutD cutV
  rw [h.length]
  exact (h.drop _).take _
def slD (d : D) (lo hi : Option Int) (S : Sto) : R D := match d with
  | .str z => .ok (.str (cutS z lo hi)) S
  | .seq ds => .ok (.ref S.length) (S ++ [.lst (cutD ds lo hi)])
  | .ref j => match S[j]? with
    | some (.lst ds) => .ok (.ref S.length) (S ++ [.lst (cutD ds lo hi)])
    | _ => .no
  | .tup ds => if HT.sIx ds.length 0 lo = 0 ∧ HT.sIx ds.length ds.length hi = ds.length then .no else .ok (.tup (cutD ds lo hi)) S
  | _ => .no
def mSl (f : ME) (l h : Slots → Sto → R (Option Int)) : ME := fun e S => (f e S).bind fun d S => (l e S).bind fun lo S => (h e S).bind fun hi S => slD d lo hi S
theorem cutS_ok {z : Str} (h : txtOk z = true) (lo hi : Option Int) : txtOk (cutS z lo hi) = true := by
  have h1 := txtOk_ok h
  unfold txtOk at h ⊢
  rw [Bool.and_eq_true, decide_eq_true_eq] at h ⊢
  unfold PyData.strOk at h1 ⊢
  rw [← Array.all_toList, List.all_eq_true] at h1 ⊢
  refine ⟨?_, fun x hx => h1 x ?_⟩
  · refine Nat.le_trans ?_ h.1
    show (cutS z lo hi).cps.size ≤ z.cps.size
    unfold cutS
    simp
    omega
  · unfold cutS at hx
    exact List.mem_of_mem_drop (List.mem_of_mem_take (by simpa using hx))
theorem Stt.newL {K : PySem.W.Frag} {mg : Str → Option Value} {H : Hp} {m : List Addr} {S : Sto} {σ : L2.St} {W : WX} {Q : VK} {p : Addr} {ds : List D} {vs : List V} (st : Stt K mg H m S) (hp : H p = none) (r : Rps K mg H m ds vs)
    (q : okR K mg H m σ W (RpR K mg) Q (.ok (.ref S.length) (S ++ [.lst ds]))) : Q (.ref p) (upd H p (.lst vs)) := by
  have g0 : Gr H m (upd H p (.lst vs)) (m ++ [p]) := st.push_gr hp
  obtain ⟨g2, st2⟩ := st.push (ho := .lst vs) (o := .lst ds) hp rfl ⟨_, upd_same, Rps.mono st g0 _ _ r⟩
  exact q _ _ _ g2 st2 (.ref (by rw [← st.len]; simp))
theorem Stt.newT {K : PySem.W.Frag} {mg : Str → Option Value} {H : Hp} {m : List Addr} {S : Sto} {σ : L2.St} {W : WX} {Q : VK} {p : Addr} {ds : List D} {vs : List V} (st : Stt K mg H m S) (hp : H p = none) (r : Rps K mg H m ds vs)
    (q : okR K mg H m σ W (RpR K mg) Q (.ok (.tup ds) S)) : Q (.ref p) (upd H p (.tup vs)) := by
  obtain ⟨g2, st2⟩ := st.make (ho := .tup vs) hp
  exact q _ _ _ g2 st2 (.tup upd_same (Rps.mono st g2 _ _ r))
theorem ce_slice {ex : Expr} {lo hi : Option Expr} {f : ME} {l h : Slots → Sto → R (Option Int)} {p2 pos : Pos} (he : CE X W ex f) (hl : CP X W lo l) (hh : CP X W hi h) : CE X W (.Subscript ex (.Slice lo hi none p2) pos) (mSl f l h) := by
  refine ⟨PEi (pe_slice (sl_str.or (sl_list.or sl_tup)) he.run hl.run hh.run) fun σ H Q ⟨m, e, S, st, sl, q⟩ => ?_⟩
  refine tM_bind st sl q fun d S1 v H1 m1 _ g1 st1 sl1 r1 q1 => ?_
  refine tM_bind st1 sl1 q1 fun lo S2 lo' H2 m2 _ g2 st2 sl2 r2 q2 => ?_
  refine tM_bind st2 sl2 q2 fun hi S3 hi' H3 m3 _ g3 st3 sl3 r3 q3 => ?_
  cases r2
  cases r3
  have r := Rp.mono st2 g3 _ _ (Rp.mono st1 g2 _ _ r1)
  unfold slD at q3
  split at q3
  · cases r with
    | str _ hz => exact .inl ⟨_, rfl, txtOk_len hz, okR.here q3 st3 (.str _ (cutS_ok hz _ _))⟩
  · cases r with
    | seq h1 h2 => exact .inr (.inl ⟨_, _, rfl, .inl (.inr ⟨_, h1⟩), fun p hp => st3.newL hp (h2.cut _ _) q3⟩)
    | seqK h1 h2 => exact .inr (.inl ⟨_, _, rfl, h1 _, fun p hp => st3.newL hp (h2.cut _ _) q3⟩)
  · split at q3
    · rename_i hs
      cases r with
      | ref h1 =>
        obtain ⟨vs, p1, p2⟩ := st3.obj _ _ _ hs h1
        exact .inr (.inl ⟨_, _, rfl, SqL.of p1, fun p hp => st3.newL hp (p2.cut _ _) q3⟩)
    · exact q3.elim
  · split at q3
    · exact q3.elim
    · rename_i hw
      cases r with
      | tup h1 h2 => exact .inr (.inr ⟨_, _, rfl, SqT.of h1, by rw [← h2.length]; exact hw, fun p hp => st3.newT hp (h2.cut _ _) q3⟩)
  · exact q3.elim

/-! ### calls of built-ins -/
def CallM (X : Cx) (fn : Value) (g : List D → Sto → R D) : Prop :=
  ∃ r : List V → Hp → VK → Prop, CallR X fn r ∧ ∀ (H : Hp) (m : List Addr) (S : Sto) (vs : List V) (ds : List D) (σ : L2.St) (W : WX) (Q : VK), Stt X.K X.mg H m S → Rps X.K X.mg H m ds vs → okR X.K X.mg H m σ W (RpR X.K X.mg) Q (g ds S) → r vs H Q
def mCall (g : List D → Sto → R D) (a : MA) : ME := fun e S => (a e S).bind fun ds S => g ds S
theorem ce_callB {id : String} {x : Str} {ex : Expr} {es : List Expr} {g : List D → Sto → R D} {a : MA} {p pos : Pos} (hc : CallM X (.builtin id) g) (hg : Gl X x) (hm : X.mg x = none) (hv : bootBuiltins x = some (.builtin id)) (ha : CA X W (ex :: es) a) (hn : x ≠ "__name__" := by decide) (hdb : (x == ("__debug__" : Str)) = false := by decide)
    (he : starEach (ex :: es) X.env = (false, eval ex X.env) :: starEach es X.env := by rfl) (hpl : (backTo pos (starEach es X.env)).any (·.1) = false := by rfl) : CE X W (.Call (.Name x p) (ex :: es) [] pos) (mCall g a) := by
  obtain ⟨r, h1, h2⟩ := hc
  refine ⟨PEi (pe_callB h1 hg hm hv ha.run hn hdb he hpl) fun σ H Q ⟨m, e, S, st, sl, q⟩ => ?_⟩
  refine tM_bind st sl q fun d S1 v H1 m1 _ g1 st1 sl1 r1 q1 => ?_
  exact h2 H1 m1 S1 v d σ W Q st1 r1 q1
theorem ce_callTy {T : String} {x : Str} {ex : Expr} {es : List Expr} {g : List D → Sto → R D} {a : MA} {p pos : Pos} (hc : CallM X (.type T) g) (hg : Gl X x) (hm : X.mg x = none) (hv : bootBuiltins x = some (.type T)) (ha : CA X W (ex :: es) a) (hn : x ≠ "__name__" := by decide) (hdb : (x == ("__debug__" : Str)) = false := by decide)
    (he : starEach (ex :: es) X.env = (false, eval ex X.env) :: starEach es X.env := by rfl) (hpl : (backTo pos (starEach es X.env)).any (·.1) = false := by rfl) : CE X W (.Call (.Name x p) (ex :: es) [] pos) (mCall g a) := by
  obtain ⟨r, h1, h2⟩ := hc
  refine ⟨PEi (pe_callTy h1 hg hm hv ha.run hn hdb he hpl) fun σ H Q ⟨m, e, S, st, sl, q⟩ => ?_⟩
  refine tM_bind st sl q fun d S1 v H1 m1 _ g1 st1 sl1 r1 q1 => ?_
  exact h2 H1 m1 S1 v d σ W Q st1 r1 q1
def lenD : List D → Sto → R D
  | [.str z], S => .ok (.int (z.length : Int)) S
  | [.tup ds], S => .ok (.int (ds.length : Int)) S
  | [.seq ds], S => .ok (.int (ds.length : Int)) S
  | [.ref j], S => match S[j]? with
    | some (.lst ds) => .ok (.int (ds.length : Int)) S
    | some (.dK kvs) => .ok (.int (kvs.length : Int)) S
    | _ => .no
  | _, _ => .no
theorem cm_len : CallM X (.builtin "len") lenD := by
  refine ⟨_, CallR.or call_len call_lenD, fun H m S vs ds σ W Q st r q => ?_⟩
  unfold lenD at q
  split at q
  · cases r with
    | cons r1 rn =>
      cases rn
      cases r1 with
      | str _ hz => exact .inl ⟨_, _, rfl, ⟨txtOk_len hz, rfl⟩, okR.here q st (.int _)⟩
  · cases r with
    | cons r1 rn =>
      cases rn
      cases r1 with
      | tup h1 h2 => exact .inl ⟨_, _, rfl, .inr ⟨_, SqT.of h1, h2.length⟩, okR.here q st (.int _)⟩
  · cases r with
    | cons r1 rn =>
      cases rn
      cases r1 with
      | seq h1 h2 => exact .inl ⟨_, _, rfl, .inl ⟨_, .inl (.inr ⟨_, h1⟩), h2.length⟩, okR.here q st (.int _)⟩
      | seqK h1 h2 => exact .inl ⟨_, _, rfl, .inl ⟨_, h1 _, h2.length⟩, okR.here q st (.int _)⟩
  · cases r with
    | cons r1 rn =>
      cases rn
      cases r1 with
      | ref h1 =>
        split at q
        · rename_i hs
          obtain ⟨us, p1, p2⟩ := st.obj _ _ _ hs h1
          exact .inl ⟨_, _, rfl, .inl ⟨_, SqL.of p1, p2.length⟩, okR.here q st (.int _)⟩
        · rename_i kvs hs
          obtain ⟨us, p1, p2, _⟩ := st.obj _ _ _ hs h1
          exact .inr ⟨_, _, rfl, p1, okR.here q st (by rw [← Rpf.length p2]; exact .int _)⟩
        · exact q.elim
  · exact q.elim
def absD : List D → Sto → R D
  | [.int i], S => .ok (.int (if i < 0 then -i else i)) S
  | _, _ => .no
theorem cm_abs : CallM X (.builtin "abs") absD := by
  refine ⟨_, call_abs, fun H m S vs ds σ W Q st r q => ?_⟩
  unfold absD at q
  split at q
  · cases r with
    | cons r1 rn =>
      cases rn
      cases r1
      exact ⟨_, rfl, okR.here q st (.int _)⟩
  · exact q.elim
def intD : List D → Sto → R D
  | [.int i], S => .ok (.int i) S
  | [.bl b], S => .ok (.int (if b then 1 else 0)) S
  | [.str z], S => match PySem.intText? z with
    | some n => if z.length ≤ 640 then .ok (.int n) S else .no
    | none => .no
  | _, _ => .no
theorem cm_int : CallM X (.type "int") intD := by
  refine ⟨_, CallR.or call_int1 call_int_str, fun H m S vs ds σ W Q st r q => ?_⟩
  unfold intD at q
  split at q
  · cases r with
    | cons r1 rn =>
      cases rn
      cases r1
      exact .inl (.inl ⟨_, rfl, okR.here q st (.int _)⟩)
  · cases r with
    | cons r1 rn =>
      cases rn
      cases r1
      exact .inl (.inr ⟨_, rfl, okR.here q st (.int _)⟩)
  · cases r with
    | cons r1 rn =>
      cases rn
      cases r1
      split at q
      · rename_i n hn
        split at q
        · rename_i hz
          exact .inr ⟨_, n, rfl, hn, hz, okR.here q st (.int _)⟩
        · exact q.elim
      · exact q.elim
  · exact q.elim
def max2D : List D → Sto → R D
  | [.int i, .int j], S => .ok (.int (if j > i then j else i)) S
  | _, _ => .no
theorem cm_max2 (hc : X.calm = true) : CallM X (.builtin "max") max2D := by
  refine ⟨_, call_max2 hc, fun H m S vs ds σ W Q st r q => ?_⟩
  unfold max2D at q
  split at q
  · cases r with
    | cons r1 rn =>
      cases rn with
      | cons r2 rn =>
        cases rn
        cases r1
        cases r2
        exact ⟨_, _, rfl, okR.here q st (.int _)⟩
  · exact q.elim
def min2D : List D → Sto → R D
  | [.int i, .int j], S => .ok (.int (if j < i then j else i)) S
  | _, _ => .no
theorem cm_min2 (hc : X.calm = true) : CallM X (.builtin "min") min2D := by
  refine ⟨_, call_min2 hc, fun H m S vs ds σ W Q st r q => ?_⟩
  unfold min2D at q
  split at q
  · cases r with
    | cons r1 rn =>
      cases rn with
      | cons r2 rn =>
        cases rn
        cases r1
        cases r2
        exact ⟨_, _, rfl, okR.here q st (.int _)⟩
  · exact q.elim
/-- the items of a list or a tuple -/
def itemsS (S : Sto) : D → Option (List D)
  | .tup ds => some ds
  | d => itemsL S d
theorem itemsS_sq {K : PySem.W.Frag} {mg : Str → Option Value} {H : Hp} {m : List Addr} {S : Sto} (st : Stt K mg H m S) {d : D} {v : V} {ds : List D} (r : Rp K mg H m d v) (e : itemsS S d = some ds) : ∃ a vs, v = .ref a ∧ (SqL K H a vs ∨ SqT K H a vs) ∧ Rps K mg H m ds vs := by
  unfold itemsS at e
  split at e
  · cases e
    cases r with
    | tup h1 h2 => exact ⟨_, _, rfl, .inr (SqT.of h1), h2⟩
  · obtain ⟨a, vs, h1, h2, h3⟩ := itemsL_sq st r e
    exact ⟨a, vs, h1, .inl h2, h3⟩
def keysD (kvs : List (Key × D)) : List D := kvs.map fun kv => kD kv.1
theorem keysD_v {K : PySem.W.Frag} {mg : Str → Option Value} {H : Hp} {m : List Addr} {kvs : List (Key × D)} {vs : List (Key × V)} (h : Rpf K mg H m kvs vs) (ht : keysOk kvs = true) : Rps K mg H m (keysD kvs) (vs.map fun kv => kV kv.1) := by
  unfold keysD
  unfold keysOk at ht
  induction kvs generalizing vs with
  | nil => cases h; exact .nil
  | cons p ps ih =>
    cases h with
    | @cons _ q _ qs h1 h2 =>
      rw [List.all_cons, Bool.and_eq_true] at ht
      rw [List.map_cons, List.map_cons]
      refine .cons ?_ (ih h2 ht.2)
      have z := ht.1
      rw [← h1.1]
      obtain ⟨k, d⟩ := p
      cases k with
      | inl i => exact .int i
      | inr x => exact .str x z
/-- list(x) of a list, a tuple, a dict; of a text (not here) -/
def listD : List D → Sto → R D
  | [d], S => match itemsS S d with
    | some ds => .ok (.ref S.length) (S ++ [.lst ds])
    | none => match d with
      | .ref j => match S[j]? with
        | some (.dK kvs) => .ok (.ref S.length) (S ++ [.lst (keysD kvs)])
        | _ => .no
      | _ => .no
  | _, _ => .no
theorem cm_list (hc : X.calm = true) : CallM X (.type "list") listD := by
  refine ⟨_, CallR.or call_list_of (call_list_dK hc), fun H m S vs ds σ W Q st r q => ?_⟩
  unfold listD at q
  split at q
  · cases r with
    | cons r1 rn =>
      cases rn
      split at q
      · rename_i ds hd
        obtain ⟨a, us, h1, h2, h3⟩ := itemsS_sq st r1 hd
        exact .inl ⟨a, us, by rw [h1], h2, fun p hp => st.newL hp h3 q⟩
      · split at q
        · split at q
          · rename_i kvs hs
            cases r1 with
            | ref h1 =>
              obtain ⟨us, p1, p2, p3⟩ := st.obj _ _ _ hs h1
              exact .inr ⟨_, us, rfl, p1, fun p hp => st.newL hp (keysD_v p2 p3) q⟩
          · exact q.elim
        · exact q.elim
  · exact q.elim
/-- tuple(x) -/
def tupleD : List D → Sto → R D
  | [d], S => match itemsS S d with
    | some ds => .ok (.tup ds) S
    | none => .no
  | _, _ => .no
theorem cm_tuple : CallM X (.type "tuple") tupleD := by
  refine ⟨_, call_tuple_of, fun H m S vs ds σ W Q st r q => ?_⟩
  unfold tupleD at q
  split at q
  · cases r with
    | cons r1 rn =>
      cases rn
      split at q
      · rename_i d ds hd
        unfold itemsS at hd
        split at hd
        · cases hd
          cases r1 with
          | tup h1 h2 => exact ⟨_, _, rfl, .inr ⟨SqT.of h1, okR.here q st (.tup h1 h2)⟩⟩
        · obtain ⟨a, us, h1, h2, h3⟩ := itemsL_sq st r1 hd
          exact ⟨a, us, by rw [h1], .inl ⟨h2, fun p hp => st.newT hp h3 q⟩⟩
      · exact q.elim
  · exact q.elim
/-- all, any of a list of bools; sum of a list of ints -/
def blsD : List D → Option (List Bool)
  | [] => some []
  | .bl b :: ds => (blsD ds).map (b :: ·)
  | _ => none
def intsD : List D → Option (List Int)
  | [] => some []
  | .int i :: ds => (intsD ds).map (i :: ·)
  | _ => none
def strsD : List D → Option (List Str)
  | [] => some []
  | .str i :: ds => (strsD ds).map (i :: ·)
  | _ => none
theorem blsD_v {K : PySem.W.Frag} {mg : Str → Option Value} {H : Hp} {m : List Addr} : ∀ {ds : List D} {vs : List V} {bs : List Bool}, Rps K mg H m ds vs → blsD ds = some bs → vs = bs.map V.bl
  | [], _, _, h, e => by cases h; cases e; rfl
  | d :: ds, _, bs, h, e => by
    cases h with
    | cons h1 h2 =>
      unfold blsD at e
      split at e
      · rename_i z; cases z
      · rename_i b ds' z
        cases z
        obtain ⟨bs', e1, rfl⟩ := Option.map_eq_some_iff.mp e
        cases h1
        rw [blsD_v h2 e1]
        rfl
      · cases e
theorem intsD_v {K : PySem.W.Frag} {mg : Str → Option Value} {H : Hp} {m : List Addr} : ∀ {ds : List D} {vs : List V} {bs : List Int}, Rps K mg H m ds vs → intsD ds = some bs → vs = bs.map V.int
  | [], _, _, h, e => by cases h; cases e; rfl
  | d :: ds, _, bs, h, e => by
    cases h with
    | cons h1 h2 =>
      unfold intsD at e
      split at e
      · rename_i z; cases z
      · rename_i b ds' z
        cases z
        obtain ⟨bs', e1, rfl⟩ := Option.map_eq_some_iff.mp e
        cases h1
        rw [intsD_v h2 e1]
        rfl
      · cases e
theorem strsD_v {K : PySem.W.Frag} {mg : Str → Option Value} {H : Hp} {m : List Addr} : ∀ {ds : List D} {vs : List V} {bs : List Str}, Rps K mg H m ds vs → strsD ds = some bs → vs = bs.map V.str ∧ ∀ s ∈ bs, txtOk s = true
  | [], _, _, h, e => by cases h; cases e; exact ⟨rfl, by simp⟩
  | d :: ds, _, bs, h, e => by
    cases h with
    | cons h1 h2 =>
      unfold strsD at e
      split at e
      · rename_i z; cases z
      · rename_i b ds' z
        cases z
        obtain ⟨bs', e1, rfl⟩ := Option.map_eq_some_iff.mp e
        cases h1 with
        | str _ hx =>
          obtain ⟨a1, a2⟩ := strsD_v h2 e1
          rw [a1]
          refine ⟨rfl, fun s hs => ?_⟩
          rcases List.mem_cons.mp hs with z | z
          · rw [z]; exact hx
          · exact a2 s z
      · cases e
def allD : List D → Sto → R D
  | [d], S => match (itemsL S d).bind blsD with
    | some bs => .ok (.bl (bs.all id)) S
    | none => .no
  | _, _ => .no
def anyD : List D → Sto → R D
  | [d], S => match (itemsL S d).bind blsD with
    | some bs => .ok (.bl (bs.any id)) S
    | none => .no
  | _, _ => .no
def sumD : List D → Sto → R D
  | [d], S => match (itemsL S d).bind intsD with
    | some bs => .ok (.int bs.sum) S
    | none => .no
  | _, _ => .no
end
end Mi

set_option Elab.async false
set_option linter.all false
set_option maxRecDepth 100000
set_option maxHeartbeats 1000000
namespace Mi
open PySem PySem.Spec PyProof.Rows L2
variable [TabsOf]

/-! ### statements -/
inductive Fl where
  | nx | rt (d : D) | bk | ct
inductive RS where
  | go (f : Fl) (e : Slots) (S : Sto) | exc (c f : Str) (d : D) (e : Slots) (S : Sto) | no
abbrev MS := Slots → Sto → RS
/-- what is wanted behind a statement -/
def okS (K : PySem.W.Frag) (mg : Str → Option Value) (H : Hp) (m : List Addr) (W : WX) (E : Ends) : RS → Prop
  | .go .nx e S => ∀ σ' H' m', Gr H m H' m' → Stt K mg H' m' S → Sl K mg H' m' e σ' → E.nx σ' H'
  | .go (.rt d) e S => ∀ v H' m', Gr H m H' m' → Stt K mg H' m' S → Rp K mg H' m' d v → E.rt v H'
  | .go .bk e S => ∀ σ' H' m', Gr H m H' m' → Stt K mg H' m' S → Sl K mg H' m' e σ' → E.bk σ' H'
  | .go .ct e S => ∀ σ' H' m', Gr H m H' m' → Stt K mg H' m' S → Sl K mg H' m' e σ' → E.ct σ' H'
  | .exc c f d e S => ∀ ca dx v σ' H' m', Gr H m H' m' → Stt K mg H' m' S → Sl K mg H' m' e σ' → mg c = some (.ref ca) → H' dx = some (.xd [(f, v)]) → Rp K mg H' m' d v → W (.ref ca) (some dx) σ' H'
  | .no => False
def tS (K : PySem.W.Frag) (mg : Str → Option Value) (W : WX) (f : MS) : TS := fun E σ H => ∃ m e S, Stt K mg H m S ∧ Sl K mg H m e σ ∧ okS K mg H m W E (f e S)
structure CS (X : Cx) (W : WX) (st : Stmt) (f : MS) : Prop where
  run : PS X st (tS X.K X.mg W f)
structure CSs (X : Cx) (W : WX) (st : List Stmt) (f : MS) : Prop where
  run : PSs X st (tS X.K X.mg W f)
/-- an expression's result, then a statement -/
def R.thn {α : Type} (r : R α) (e : Slots) (k : α → Sto → RS) : RS := match r with
  | .ok a S => k a S
  | .exc c f d S => .exc c f d e S
  | .no => .no
@[simp] theorem R.thn_ok {α : Type} (a : α) (S : Sto) (e : Slots) (k : α → Sto → RS) : (R.ok a S).thn e k = k a S := rfl
@[simp] theorem R.thn_exc {α : Type} (c f : Str) (d : D) (S : Sto) (e : Slots) (k : α → Sto → RS) : (R.exc c f d S : R α).thn e k = .exc c f d e S := rfl
@[simp] theorem R.thn_no {α : Type} (e : Slots) (k : α → Sto → RS) : (R.no : R α).thn e k = .no := rfl
/-- one statement, then the next -/
def RS.thn (r : RS) (k : Slots → Sto → RS) : RS := match r with
  | .go .nx e S => k e S
  | r => r
@[simp] theorem RS.thn_nx (e : Slots) (S : Sto) (k : Slots → Sto → RS) : (RS.go .nx e S).thn k = k e S := rfl
@[simp] theorem RS.thn_rt (d : D) (e : Slots) (S : Sto) (k : Slots → Sto → RS) : (RS.go (.rt d) e S).thn k = .go (.rt d) e S := rfl
@[simp] theorem RS.thn_bk (e : Slots) (S : Sto) (k : Slots → Sto → RS) : (RS.go .bk e S).thn k = .go .bk e S := rfl
@[simp] theorem RS.thn_ct (e : Slots) (S : Sto) (k : Slots → Sto → RS) : (RS.go .ct e S).thn k = .go .ct e S := rfl
@[simp] theorem RS.thn_exc (c f : Str) (d : D) (e : Slots) (S : Sto) (k : Slots → Sto → RS) : (RS.exc c f d e S).thn k = .exc c f d e S := rfl
@[simp] theorem RS.thn_no (k : Slots → Sto → RS) : RS.no.thn k = .no := rfl
section
variable {K : PySem.W.Frag} {mg : Str → Option Value} {H H' : Hp} {m m' : List Addr} {S : Sto} {e : Slots} {σ : L2.St} {W : WX} {E E' : Ends} {α β : Type} {Rl : Hp → List Addr → α → β → Prop} {Q : β → Hp → Prop}
theorem okS.mono {r : RS} (h : okS K mg H m W E r) (g : Gr H m H' m') : okS K mg H' m' W E r := by
  cases r with
  | go f e S =>
    cases f with
    | nx => exact fun σ' H2 m2 g2 => h σ' H2 m2 (g.trans g2)
    | rt d => exact fun v H2 m2 g2 => h v H2 m2 (g.trans g2)
    | bk => exact fun σ' H2 m2 g2 => h σ' H2 m2 (g.trans g2)
    | ct => exact fun σ' H2 m2 g2 => h σ' H2 m2 (g.trans g2)
  | exc c f d e S => exact fun ca dx v σ' H2 m2 g2 => h ca dx v σ' H2 m2 (g.trans g2)
  | no => exact h
/-- an expression, then a statement -/
theorem tS_bind {f : Slots → Sto → R α} {k : α → Sto → RS} (st : Stt K mg H m S) (sl : Sl K mg H m e σ) (h : okS K mg H m W E ((f e S).thn e k))
    (next : ∀ a S1 v H1 m1, f e S = .ok a S1 → Gr H m H1 m1 → Stt K mg H1 m1 S1 → Sl K mg H1 m1 e σ → Rl H1 m1 a v → okS K mg H1 m1 W E (k a S1) → Q v H1) : tM K mg W Rl f σ H Q := by
  refine ⟨m, e, S, st, sl, ?_⟩
  cases hf : f e S with
  | ok a S1 =>
    rw [hf] at h
    exact fun v H1 m1 g s1 r => next a S1 v H1 m1 hf g s1 (sl.mono st g) r (okS.mono h g)
  | exc c f d S1 =>
    rw [hf] at h
    exact fun ca dx v H' m' g s' hc hd r => h ca dx v σ H' m' g s' (sl.mono st g) hc hd r
  | no =>
    rw [hf] at h
    exact h
theorem okS.nx (h : okS K mg H m W E (.go .nx e S)) (st : Stt K mg H m S) (sl : Sl K mg H m e σ) : E.nx σ H := h σ H m (Gr.refl H m) st sl
end

def mSkip : MS := fun e S => .go .nx e S
def mSeq (f g : MS) : MS := fun e S => (f e S).thn g
def mRet (f : ME) : MS := fun e S => (f e S).thn e fun d S => .go (.rt d) e S
def mRetN : MS := fun e S => .go (.rt .non) e S
def mBrk : MS := fun e S => .go .bk e S
def mCont : MS := fun e S => .go .ct e S
def mExpr (f : ME) : MS := fun e S => (f e S).thn e fun _ S => .go .nx e S
def mIfS (c : MT) (f g : MS) : MS := fun e S => (c e S).thn e fun b S => if b = true then f e S else g e S
def mStop : MS := fun _ _ => .no
section
variable {X : Cx} {W : WX}
theorem css_nil : CSs X W [] mSkip := ⟨PSsi pss_nil fun E σ H ⟨m, e, S, st, sl, q⟩ => q.nx st sl⟩
theorem css_cons {s : Stmt} {rest : List Stmt} {f g : MS} (h : CS X W s f) (k : CSs X W rest g) : CSs X W (s :: rest) (mSeq f g) := by
  refine ⟨PSsi (pss_cons h.run k.run) fun E σ H ⟨m, e, S, st, sl, q⟩ => ?_⟩
  refine ⟨m, e, S, st, sl, ?_⟩
  unfold mSeq at q
  cases hf : f e S with
  | go fl e1 S1 =>
    rw [hf] at q
    cases fl with
    | nx => exact fun σ' H' m' g' st' sl' => ⟨m', e1, S1, st', sl', okS.mono q g'⟩
    | rt d => exact q
    | bk => exact q
    | ct => exact q
  | exc c f d e1 S1 => rw [hf] at q; exact q
  | no => rw [hf] at q; exact q
theorem css_one {s : Stmt} {f : MS} (h : CS X W s f) : CSs X W [s] f := ⟨PSsi (pss_one h.run) fun _ _ _ q => q⟩
theorem cs_pass {pos : Pos} : CS X W (.Pass pos) mSkip := ⟨PSi ps_pass fun E σ H ⟨m, e, S, st, sl, q⟩ => q.nx st sl⟩
theorem cs_brk {pos : Pos} : CS X W (.Break pos) mBrk := ⟨PSi ps_break fun E σ H ⟨m, e, S, st, sl, q⟩ => q σ H m (Gr.refl H m) st sl⟩
theorem cs_cont {pos : Pos} : CS X W (.Continue pos) mCont := ⟨PSi ps_continue fun E σ H ⟨m, e, S, st, sl, q⟩ => q σ H m (Gr.refl H m) st sl⟩
theorem cs_ret {ex : Expr} {f : ME} {pos : Pos} (h : CE X W ex f) : CS X W (.Return (some ex) pos) (mRet f) := by
  refine ⟨PSi (ps_ret h.run) fun E σ H ⟨m, e, S, st, sl, q⟩ => ?_⟩
  refine tS_bind st sl q fun d S1 v H1 m1 _ g1 st1 sl1 r1 q1 => ?_
  exact q1 v H1 m1 (Gr.refl _ _) st1 r1
theorem cs_retN {pos : Pos} : CS X W (.Return none pos) mRetN := ⟨PSi ps_retN fun E σ H ⟨m, e, S, st, sl, q⟩ => q .non H m (Gr.refl _ _) st .non⟩
theorem cs_expr {ex : Expr} {f : ME} {pos : Pos} (h : CE X W ex f) (hs : swapsWith ex none pos.line X.env = pure false := by rfl) : CS X W (.Expr ex pos) (mExpr f) := by
  refine ⟨PSi (ps_expr h.run hs) fun E σ H ⟨m, e, S, st, sl, q⟩ => ?_⟩
  refine tS_bind st sl q fun d S1 v H1 m1 _ g1 st1 sl1 r1 q1 => ?_
  exact q1.nx st1 sl1
theorem cs_doc {x j pos pos'} : CS X W (.Expr (.Constant (.str x) j pos) pos') mSkip := ⟨PSi ps_doc fun E σ H ⟨m, e, S, st, sl, q⟩ => q.nx st sl⟩
theorem cs_if {c : Expr} {a b : List Stmt} {t : MT} {f g : MS} {pos : Pos} (hc : CT X W c t) (ha : CSs X W a f) (hb : CSs X W b g) : CS X W (.If c a b pos) (mIfS t f g) := by
  refine ⟨PSi (ps_if hc.run ha.run hb.run) fun E σ H ⟨m, e, S, st, sl, q⟩ => ?_⟩
  refine tS_bind st sl q fun d S1 v H1 m1 _ g1 st1 sl1 r1 q1 => ?_
  cases r1
  cases d with
  | true => exact ⟨m1, e, S1, st1, sl1, q1⟩
  | false => exact ⟨m1, e, S1, st1, sl1, q1⟩
theorem cs_no {s : Stmt} : CS X W s mStop := ⟨⟨fun pins s σ H D I ⟨m, e, S, st, sl, q⟩ => q.elim⟩⟩
theorem css_no {s : List Stmt} : CSs X W s mStop := ⟨⟨fun pins s σ H D I ⟨m, e, S, st, sl, q⟩ => q.elim⟩⟩
end

/-! ### targets -/
abbrev MG := D → Slots → Sto → Option Slots
def gN (i : Nat) : MG := fun d e _ => some (e.set i (some d))
def gTs : List MG → List D → Slots → Sto → Option Slots
  | [], [], e, _ => some e
  | g :: gs, d :: ds, e, S => (g d e S).bind fun e => gTs gs ds e S
  | _, _, _, _ => none
def gT (gs : List MG) : MG := fun d e S => match itemsS S d with
  | some ds => gTs gs ds e S
  | none => none
/-- only the slots of a list are set -/
structure Only (is : List Nat) (σ σ' : L2.St) : Prop where
  len : σ'.length = σ.length
  at_ : ∀ j, j ∉ is → σ'[j]? = σ[j]?
structure CG (X : Cx) (tg : Expr) (g : MG) (is : List Nat) : Prop where
  run : ∃ t : TG, PG X tg t ∧ ∀ (H : Hp) (m : List Addr) (S : Sto) (e e' : Slots) (σ : L2.St) (d : D) (v : V) (Q : L2.St → Hp → Prop), Stt X.K X.mg H m S → Sl X.K X.mg H m e σ → Rp X.K X.mg H m d v → g d e S = some e' → (∀ σ', Sl X.K X.mg H m e' σ' → Only is σ σ' → Q σ' H) → t v σ H Q
structure CGs (X : Cx) (tg : List Expr) (g : List MG) (is : List Nat) : Prop where
  run : ∃ t : TGs, PGs X tg t ∧ ∀ (H : Hp) (m : List Addr) (S : Sto) (e e' : Slots) (σ : L2.St) (ds : List D) (vs : List V) (Q : L2.St → Hp → Prop), Stt X.K X.mg H m S → Sl X.K X.mg H m e σ → Rps X.K X.mg H m ds vs →
    gTs g ds e S = some e' → (∀ σ', Sl X.K X.mg H m e' σ' → Only is σ σ' → Q σ' H) → t vs σ H Q
theorem PGor {X : Cx} {tg : Expr} {t u : TG} (h : PG X tg t) (k : PG X tg u) : PG X tg (fun v σ H Q => t v σ H Q ∨ u v σ H Q) :=
  ⟨fun pins s σ H v w Q I r q => q.elim (h.run pins s σ H v w Q I r) (k.run pins s σ H v w Q I r)⟩
section
variable {X : Cx} {W : WX}
theorem cg_name (i : Nat) {x : Str} {pos : Pos} (hN : X.N.Nodup) (hi : X.N[i]? = some x) (hx : Loc X.env.scope x) (hf : X.fn x = true ∨ X.env.scope.names.lookup x = some .local := by first | exact .inl rfl | exact .inr rfl | assumption) : CG X (.Name x pos) (gN i) [i] :=
  ⟨_, pg_name hN hi hx hf, fun H m S e e' σ d v Q st sl r h q => by
    cases h
    refine q _ (sl.set i r) ⟨by simp, fun j hj => ?_⟩
    rw [List.getElem?_set, if_neg (fun z => hj (by rw [z]; exact List.mem_singleton.mpr rfl))]⟩
theorem gTs_len : ∀ {gs : List MG} {ds : List D} {e e' : Slots} {S : Sto}, gTs gs ds e S = some e' → ds.length = gs.length
  | [], [], _, _, _, _ => rfl
  | g :: gs, d :: ds, e, e', S, h => by
    unfold gTs at h
    obtain ⟨e1, _, h2⟩ := Option.bind_eq_some_iff.mp h
    simp [gTs_len h2]
  | [], _ :: _, _, _, _, h => by simp [gTs] at h
  | _ :: _, [], _, _, _, h => by simp [gTs] at h
theorem cgs_nil : CGs X [] [] [] := ⟨_, pgs_nil, fun H m S e e' σ ds vs Q st sl r h q => by
  have hl := gTs_len h
  cases ds with
  | nil =>
    cases r
    have h : some e = some e' := h
    cases h
    exact ⟨rfl, q _ sl ⟨rfl, fun _ _ => rfl⟩⟩
  | cons d ds => cases hl⟩
theorem cgs_cons {t : Expr} {ts : List Expr} {g : MG} {gs : List MG} {is js : List Nat} (h : CG X t g is) (k : CGs X ts gs js) (hp : ∀ {u : TG} {us : TGs}, PG X t u → PGs X ts us → PGs X (t :: ts) (gCons u us) := by exact fun h k => pgs_cons h k) : CGs X (t :: ts) (g :: gs) (is ++ js) := by
  obtain ⟨u, h1, h2⟩ := h.run
  obtain ⟨us, k1, k2⟩ := k.run
  refine ⟨_, hp h1 k1, fun H m S e e' σ ds vs Q st sl r hh q => ?_⟩
  cases ds with
  | nil => have z := gTs_len hh; cases z
  | cons d ds =>
    cases r with
    | cons r1 r2 =>
      unfold gTs at hh
      obtain ⟨e1, e2, e3⟩ := Option.bind_eq_some_iff.mp hh
      exact ⟨_, _, rfl, h2 H m S e e1 σ d _ _ st sl r1 e2 fun σ' sl' o1 => k2 H m S e1 e' σ' ds _ Q st sl' r2 e3 fun σ'' sl'' o2 => q σ'' sl'' ⟨o2.len.trans o1.len, fun j hj => (o2.at_ j fun z => hj (List.mem_append_right _ z)).trans (o1.at_ j fun z => hj (List.mem_append_left _ z))⟩⟩
theorem cg_tup {ts : List Expr} {gs : List MG} {k : Nat} {pos : Pos} {is : List Nat} (hc : X.calm = true) (h : CGs X ts gs is) (hn : (assignEach ts X.env).length = gs.length := by rfl) (hst : (assignEach ts X.env).findIdx? (·.1) = none := by rfl) : CG X (.Tuple ts k pos) (gT gs) is := by
  obtain ⟨u, h1, h2⟩ := h.run
  refine ⟨_, PGor (pg_tup hc h1 hn hst) (pg_lst hc h1 hn hst), fun H m S e e' σ d v Q st sl r hh q => ?_⟩
  unfold gT at hh
  split at hh
  · rename_i ds hd
    obtain ⟨a, vs, rfl, hs, rs⟩ := itemsS_sq st r hd
    have hl : vs.length = gs.length := by rw [← rs.length]; exact gTs_len hh
    rcases hs with hs | hs
    · exact .inr ⟨a, vs, rfl, hs, hl, h2 H m S e e' σ ds vs Q st sl rs hh q⟩
    · exact .inl ⟨a, vs, rfl, hs, hl, h2 H m S e e' σ ds vs Q st sl rs hh q⟩
  · cases hh

/-! ### assignments -/
def setG (g : MG) (d : D) (e : Slots) (S : Sto) : RS := match g d e S with
  | some e' => .go .nx e' S
  | none => .no
def mAsg (g : MG) (f : ME) : MS := fun e S => (f e S).thn e fun d S => setG g d e S
theorem cs_asg {tg ex : Expr} {g : MG} {is : List Nat} {f : ME} {pos : Pos} (hf : CE X W ex f) (hg : CG X tg g is) (hs : swapsWithSole [tg] ex pos.line X.env = pure false := by rfl) (hw : swappedStores [tg] ex X.env = pure none := by rfl) (h1 : (assignEach [tg] X.env).map (·.2) = [assign tg X.env] := by rfl) : CS X W (.Assign [tg] ex pos) (mAsg g f) := by
  obtain ⟨t, hh1, h2⟩ := hg.run
  refine ⟨PSi (ps_asg hf.run hh1 hs hw h1) fun E σ H ⟨m, e, S, st, sl, q⟩ => ?_⟩
  refine tS_bind st sl q fun d S1 v H1 m1 _ g1 st1 sl1 r1 q1 => ?_
  unfold setG at q1
  split at q1
  · rename_i e' he
    exact h2 H1 m1 S1 e e' σ d v _ st1 sl1 r1 he fun σ' sl' _ => q1 σ' H1 m1 (Gr.refl _ _) st1 sl'
  · exact q1.elim
/-- name = value -/
theorem cs_set (i : Nat) {x : Str} {ex : Expr} {f : ME} {pos pos' : Pos} (hN : X.N.Nodup) (hi : X.N[i]? = some x) (hx : Loc X.env.scope x) (he : CE X W ex f) (hs : swapsWith ex (some (.Name x pos')) pos.line X.env = pure false := by rfl)
    (hf : X.fn x = true ∨ X.env.scope.names.lookup x = some .local := by first | exact .inl rfl | exact .inr rfl | assumption) : CS X W (.Assign [.Name x pos'] ex pos) (mAsg (gN i) f) := by
  refine ⟨PSi (ps_set hN hi hx he.run hs hf) fun E σ H ⟨m, e, S, st, sl, q⟩ => ?_⟩
  refine tS_bind st sl q fun d S1 v H1 m1 _ g1 st1 sl1 r1 q1 => ?_
  exact q1 _ H1 m1 (Gr.refl _ _) st1 (sl1.set i r1)
/-- a, b = x, y (plain local names) -/
def mPar (i j : Nat) (a : MA) : MS := fun e S => (a e S).thn e fun ds S => match ds with
  | [x, y] => .go .nx ((e.set i (some x)).set j (some y)) S
  | _ => .no
theorem cs_par {i j : Nat} {x y : Str} {a b : Expr} {f : MA} {px py pt : Pos} {kt k2 pt2} {pos : Pos} (hf : CA X W [a, b] f) (hp : ∀ {ta : TA}, PA X [a, b] ta → PS X (.Assign [.Tuple [.Name x px, .Name y py] kt pt] (.Tuple [a, b] k2 pt2) pos) (tPar i j ta)) :
    CS X W (.Assign [.Tuple [.Name x px, .Name y py] kt pt] (.Tuple [a, b] k2 pt2) pos) (mPar i j f) := by
  refine ⟨PSi (hp hf.run) fun E σ H ⟨m, e, S, st, sl, q⟩ => ?_⟩
  refine tS_bind st sl q fun ds S1 vs H1 m1 hfe g1 st1 sl1 r1 q1 => ?_
  have hl := hf.len _ _ _ _ hfe
  match ds, hl, r1, q1 with
  | [x, y], _, r1, q1 =>
    cases r1 with
    | cons ra rn =>
      cases rn with
      | cons rb rn =>
        cases rn
        exact ⟨_, _, rfl, q1 _ H1 m1 (Gr.refl _ _) st1 ((sl1.set i ra).set j rb)⟩

/-! ### while -/
/-- as many turns as there may be -/
def big : Nat := 100000
def whileF (c : MT) (b : MS) : Nat → MS
  | 0, _, _ => .no
  | n + 1, e, S => (c e S).thn e fun t S => if t = true then (match b e S with
    | .go .nx e S => whileF c b n e S
    | .go .ct e S => whileF c b n e S
    | .go .bk e S => .go .nx e S
    | r => r) else .go .nx e S
def mWhile (c : MT) (b : MS) : MS := whileF c b big
theorem cs_while {c : Expr} {body : List Stmt} {t : MT} {b : MS} {pos : Pos} (hp : PassesOwn (model X.prog X.w) X.A X.env X.xe) (hc : CT X W c t) (hb : CSs X W body b) : CS X W (.While c body [] pos) (mWhile t b) := by
  refine ⟨PSi (ps_while hp hc.run hb.run) fun E σ H ⟨m, e, S, st, sl, q⟩ => ?_⟩
  refine ⟨fun n σ H => ∃ m e S, Stt X.K X.mg H m S ∧ Sl X.K X.mg H m e σ ∧ okS X.K X.mg H m W E (whileF t b n e S), ⟨big, m, e, S, st, sl, q⟩, fun n σ H ⟨m, e, S, st, sl, q⟩ => ?_⟩
  cases n with
  | zero => exact q.elim
  | succ n =>
    unfold whileF at q
    refine tS_bind st sl q fun d S1 v H1 m1 _ g1 st1 sl1 r1 q1 => ?_
    cases r1
    cases d with
    | false => exact q1.nx st1 sl1
    | true =>
      refine ⟨_, fun _ _ h => h, ?_⟩
      refine ⟨m1, e, S1, st1, sl1, ?_⟩
      have q1 : okS X.K X.mg H1 m1 W E (match b e S1 with
        | .go .nx e S => whileF t b n e S
        | .go .ct e S => whileF t b n e S
        | .go .bk e S => .go .nx e S
        | r => r) := q1
      cases hb : b e S1 with
      | go fl e2 S2 =>
        rw [hb] at q1
        cases fl with
        | nx => exact fun σ' H' m' g' st' sl' => ⟨n, Nat.lt_succ_self n, m', e2, S2, st', sl', okS.mono q1 g'⟩
        | ct => exact fun σ' H' m' g' st' sl' => ⟨n, Nat.lt_succ_self n, m', e2, S2, st', sl', okS.mono q1 g'⟩
        | bk => exact q1
        | rt d => exact q1
      | exc c f d e S => rw [hb] at q1; exact q1
      | no => rw [hb] at q1; exact q1
end
end Mi

set_option Elab.async false
set_option linter.all false
set_option maxRecDepth 100000
set_option maxHeartbeats 1000000
namespace Mi
open PySem PySem.Spec PyProof.Rows L2
variable [TabsOf]

/-! ### defs -/
abbrev FM := List D → Sto → R D
/-- the promise of a def that is g of the model -/
def spM (K : PySem.W.Frag) (mg : Str → Option Value) (n : Nat) (g : FM) : Sp := fun vs H Q E =>
  ∃ m ds S, Stt K mg H m S ∧ Rps K mg H m ds vs ∧ ds.length = n ∧ okR K mg H m [] (fun c d _ H => E c d H) (RpR K mg) Q (g ds S)
abbrev FnD (P : Program) (w : World) (K : PySem.W.Frag) (mg : Str → Option Value) (base : Heap) (k : Nat) (f : Addr) (fd : FuncData) (ps : List Str) (g : FM) : Prop :=
  FnOk P w K mg base (L2.CX P w) k f fd ps (spM K mg ps.length g)
def RS.out : RS → R D
  | .go .nx _ S => .ok .non S
  | .go (.rt d) _ S => .ok d S
  | .exc c f d _ S => .exc c f d S
  | _ => .no
def mStart (n : Nat) (ds : List D) : Slots := ds.map some ++ List.replicate (n - ds.length) none
/-- a def of so many slots by its body -/
def mDef (n : Nat) (b : MS) : FM := fun ds S => (b (mStart n ds) S).out
/-- what a def's body wants of an exception -/
abbrev WD (E : XK) : WX := fun c d _ H => E c d H
theorem start_sl {K : PySem.W.Frag} {mg : Str → Option Value} {H : Hp} {m : List Addr} {ds : List D} {vs : List V} {N : List Str} (h : Rps K mg H m ds vs) : Sl K mg H m (mStart N.length ds) (L2.start N vs) := by
  unfold mStart L2.start
  refine ⟨by simp [h.length], fun i d q => ?_⟩
  by_cases hi : i < ds.length
  · rw [List.getElem?_append_left (by simpa using hi), List.getElem?_map] at q
    rw [List.getElem?_append_left (by simpa [h.length] using hi), List.getElem?_map]
    cases e : ds[i]? with
    | none => rw [e] at q; cases q
    | some d' =>
      rw [e] at q
      cases q
      obtain ⟨v, h1, h2⟩ := h.get e
      exact ⟨v, by rw [h1]; rfl, h2⟩
  · rw [List.getElem?_append_right (by simpa using Nat.le_of_not_lt hi), List.getElem?_replicate] at q
    split at q <;> cases q
theorem fnD_of {P : Program} {w : World} {K : PySem.W.Frag} {mg : Str → Option Value} {base : Heap} {x qual : Str} {st : Stmt} {f : Addr} {fd : FuncData} {N ps : List Str} {k : Nat} {b : MS} (F : Fun K x qual st f fd) (S : FnScope N ps (defScope st))
    (body : ∀ (cdv : Value) (A : Around) (outer : List Env) (s : Shared) (H : Hp) (E : XK), Room k (A.deeper (envOfC qual (defScope st) s.heap.objs.size f cdv)) →
      CSs (cxOf (L2.CX P w) P w K mg base N qual (defScope st) f cdv A outer s H E) (WD E) (defBody st) b) : FnD P w K mg base (k + 1) f fd ps (mDef N.length b) := by
  refine Fun.okX F S (fun vs H Q E h => ?_) fun cdv A outer s H vs Q E hr h => ?_
  · obtain ⟨m, ds, S, st, r, hl, q⟩ := h
    rw [← r.length]
    exact hl
  · obtain ⟨m, ds, S, st, r, hl, q⟩ := h
    refine ⟨_, (body cdv A outer s H E hr).run, m, mStart N.length ds, S, st, start_sl r, ?_⟩
    show okS K mg H m (WD E) _ (b (mStart N.length ds) S)
    unfold mDef at q
    cases hb : b (mStart N.length ds) S with
    | go fl e S' =>
      rw [hb] at q
      cases fl with
      | nx => exact fun σ' H' m' g st' sl' => q .non H' m' g st' .non
      | rt d => exact fun v H' m' g st' r' => q v H' m' g st' r'
      | bk => exact q.elim
      | ct => exact q.elim
    | exc c f d e S' =>
      rw [hb] at q
      exact fun ca dx v σ' H' m' g st' sl' hc hd r' => q ca dx v H' m' g st' hc hd r'
    | no => rw [hb] at q; exact q.elim
section
variable {X : Cx} {W : WX}
theorem ce_call {k : Nat} {f : Addr} {fd : FuncData} {ps : List Str} {g : FM} {x : Str} {p pos : Pos} {ex : Expr} {es : List Expr} {a : MA} (F : FnD X.prog X.w X.K X.mg X.base k f fd ps g) (hr : Room k X.A) (hg : Gl X x) (hm : X.mg x = some (.ref f)) (hk : PySem.W.keepIn X.K (.ref f) = true)
    (hb : Binds X.K fd ps []) (tk : Takes X W) (ha : CA X W (ex :: es) a) (hl : (ex :: es).length = ps.length := by rfl) (hdb : (x == ("__debug__" : Str)) = false := by decide) (he : starEach (ex :: es) X.env = (false, eval ex X.env) :: starEach es X.env := by rfl)
    (hpl : (backTo pos (starEach es X.env)).any (·.1) = false := by rfl) : CE X W (.Call (.Name x p) (ex :: es) [] pos) (mCall g a) := by
  refine ⟨PEi (pe_callS F hr hg hm hk hb (passAt tk) ha.run hdb he hpl) fun σ H Q ⟨m, e, S, st, sl, q⟩ => ?_⟩
  refine tM_bind st sl q fun ds S1 vs H1 m1 hf g1 st1 sl1 r1 q1 => ?_
  refine ⟨m1, ds, S1, st1, r1, (ha.len _ _ _ _ hf).trans hl, ?_⟩
  cases hg : g ds S1 with
  | ok d S2 => rw [hg] at q1; exact q1
  | exc c f d S2 => rw [hg] at q1; exact q1
  | no => rw [hg] at q1; exact q1.elim
theorem pe_callS0 {k : Nat} {f : Addr} {fd : FuncData} {ps : List Str} {sp : Sp} {E : L2.St → XK} {x : Str} {p pos : Pos} {CX : CXT} (F : FnOk X.prog X.w X.K X.mg X.base CX k f fd ps sp) (hr : Room k X.A) (hg : Gl X x) (hm : X.mg x = some (.ref f)) (hk : PySem.W.keepIn X.K (.ref f) = true) (hb : Binds X.K fd ps [])
    (hx : ∀ σ, PassesAt CX X σ (E σ)) (hdb : (x == ("__debug__" : Str)) = false := by decide) : PE X (.Call (.Name x p) [] [] pos) (fun σ H Q => sp [] H Q (E σ)) := by
  refine ⟨fun pins s σ H Q I h => ?_⟩
  refine wpAny_Call_Name_kw (ld_glob I hg hm ?_ hdb)
  exact PySem.W.callWith_K0 I.kIn hk (run_fnS (us := []) F hr hb (hx σ) I .nil h)
theorem ce_call0 {k : Nat} {f : Addr} {fd : FuncData} {g : FM} {x : Str} {p pos : Pos} (F : FnD X.prog X.w X.K X.mg X.base k f fd [] g) (hr : Room k X.A) (hg : Gl X x) (hm : X.mg x = some (.ref f)) (hk : PySem.W.keepIn X.K (.ref f) = true)
    (hb : Binds X.K fd [] []) (tk : Takes X W) (hdb : (x == ("__debug__" : Str)) = false := by decide) : CE X W (.Call (.Name x p) [] [] pos) (mCall g mNil) := by
  refine ⟨PEi (pe_callS0 F hr hg hm hk hb (passAt tk) hdb) fun σ H Q ⟨m, e, S, st, sl, q⟩ => ?_⟩
  have q : okR X.K X.mg H m σ W (RpR X.K X.mg) Q (g [] S) := q
  refine ⟨m, [], S, st, .nil, rfl, ?_⟩
  cases hg : g [] S with
  | ok d S2 => rw [hg] at q; exact q
  | exc c f d S2 => rw [hg] at q; exact q
  | no => rw [hg] at q; exact q.elim
end

/-! ### what a loop walks -/
abbrev MI := Nat → Sto → Option (Option D)
/-- the machine's walk J and the model's -/
def Agr (K : PySem.W.Frag) (mg : Str → Option Value) (H1 : Hp) (m1 : List Addr) (J : It) (it : MI) : Prop :=
  ∀ (i : Nat) (H : Hp) (m : List Addr) (S : Sto), i ≤ lim → Gr H1 m1 H m → Stt K mg H m S → match it i S with
    | none => True
    | some none => J.stop i H
    | some (some d) => J.go i H ∧ ∀ x H', J.yld i H x H' → Gr H m H' m ∧ Stt K mg H' m S ∧ Rp K mg H' m d x
def okI (K : PySem.W.Frag) (mg : Str → Option Value) (H : Hp) (m : List Addr) (σ : L2.St) (W : WX) (Q : It → Hp → Prop) : R MI → Prop
  | .ok it S => ∀ J H' m', Gr H m H' m' → Stt K mg H' m' S → Agr K mg H' m' J it → Q J H'
  | .exc c f d S => ∀ ca dx v H' m', Gr H m H' m' → Stt K mg H' m' S → mg c = some (.ref ca) → H' dx = some (.xd [(f, v)]) → Rp K mg H' m' d v → W (.ref ca) (some dx) σ H'
  | .no => False
structure CI (X : Cx) (W : WX) (tg iter : Expr) (f : Slots → Sto → R MI) : Prop where
  run : ∃ wi : TI, PI X tg iter wi ∧ ∀ (σ : L2.St) (H : Hp) (Q : It → Hp → Prop) (m : List Addr) (e : Slots) (S : Sto), Stt X.K X.mg H m S → Sl X.K X.mg H m e σ → okI X.K X.mg H m σ W Q (f e S) → wi σ H Q
theorem tI_bind {K : PySem.W.Frag} {mg : Str → Option Value} {H : Hp} {m : List Addr} {S : Sto} {e : Slots} {σ : L2.St} {W : WX} {α β : Type} {Rl : Hp → List Addr → α → β → Prop} {Q : β → Hp → Prop} {Qk : It → Hp → Prop} {f : Slots → Sto → R α} {k : α → Sto → R MI}
    (st : Stt K mg H m S) (sl : Sl K mg H m e σ) (h : okI K mg H m σ W Qk ((f e S).bind k))
    (next : ∀ a S1 v H1 m1, f e S = .ok a S1 → Gr H m H1 m1 → Stt K mg H1 m1 S1 → Sl K mg H1 m1 e σ → Rl H1 m1 a v → okI K mg H1 m1 σ W Qk (k a S1) → Q v H1) : tM K mg W Rl f σ H Q := by
  refine ⟨m, e, S, st, sl, ?_⟩
  cases hf : f e S with
  | ok a S1 =>
    rw [hf, R.bind_ok] at h
    refine fun v H1 m1 g s1 r => next a S1 v H1 m1 hf g s1 (sl.mono st g) r ?_
    cases hk : k a S1 with
    | ok it S2 => rw [hk] at h; exact fun J H2 m2 g2 => h J H2 m2 (g.trans g2)
    | exc c f d S2 => rw [hk] at h; exact fun ca dx v H2 m2 g2 => h ca dx v H2 m2 (g.trans g2)
    | no => rw [hk] at h; exact h
  | exc c f d S1 =>
    rw [hf] at h
    exact h
  | no =>
    rw [hf] at h
    exact h
/-- over fixed items -/
def itOf (ds : List D) : MI := fun i _ => some ds[i]?
def itRef (j : Nat) : MI := fun i S => match S[j]? with
  | some (.lst ds) => some ds[i]?
  | _ => none
def itD (d : D) (S : Sto) : R MI := match d with
  | .seq ds => .ok (itOf ds) S
  | .tup ds => .ok (itOf ds) S
  | .str z => .ok (itOf (z.cps.toList.map fun c => .str (sign1 c))) S
  | .ref j => match S[j]? with
    | some (.lst _) => .ok (itRef j) S
    | _ => .no
  | _ => .no
theorem PIor {X : Cx} {tg e : Expr} {t u : TI} (h : PI X tg e t) (k : PI X tg e u) : PI X tg e (fun σ H R => t σ H R ∨ u σ H R) := by
  obtain ⟨h⟩ := h
  obtain ⟨k⟩ := k
  constructor
  intros
  rename_i q
  rcases q with q | q
  · exact h _ _ _ _ _ ‹_› q
  · exact k _ _ _ _ _ ‹_› q
end Mi

set_option Elab.async false
set_option linter.all false
set_option maxRecDepth 100000
set_option maxHeartbeats 1000000
namespace Mi
open PySem PySem.Spec PyProof.Rows L2
variable [TabsOf]

section
variable {K : PySem.W.Frag} {mg : Str → Option Value} {H : Hp} {m : List Addr} {S : Sto}
theorem agr_list (j : Nat) {a : Addr} (hj : m[j]? = some a) : Agr K mg H m (Itl K a) (itRef j) := by
  intro i H1 m1 S1 _ g st
  have hj1 := g.get hj
  unfold itRef
  split
  · trivial
  · rename_i h
    split at h
    · rename_i ds hs
      obtain ⟨vs, q1, q2⟩ := st.obj _ _ _ hs hj1
      refine ⟨vs, SqL.of q1, ?_⟩
      have h : ds[i]? = none := Option.some.inj h
      rw [← q2.length]
      exact List.getElem?_eq_none_iff.mp h
    · cases h
  · rename_i d h
    split at h
    · rename_i ds hs
      obtain ⟨vs, q1, q2⟩ := st.obj _ _ _ hs hj1
      have h : ds[i]? = some d := Option.some.inj h
      obtain ⟨v, e1, r1⟩ := q2.get h
      refine ⟨⟨vs, v, SqL.of q1, e1⟩, fun x H' ⟨hH, hx⟩ => ?_⟩
      subst hH
      have z := hx vs (SqL.of q1)
      rw [e1] at z
      cases z
      exact ⟨Gr.refl _ _, st, r1⟩
    · cases h
theorem agr_seq {a : Addr} {ds : List D} {vs : List V} (hs : ∀ (H1 : Hp) (m1 : List Addr), Gr H m H1 m1 → SqL K H1 a vs) (r : Rps K mg H m ds vs) (st : Stt K mg H m S) : Agr K mg H m (Itl K a) (itOf ds) := by
  intro i H1 m1 S1 _ g st1
  have r1 := Rps.mono st g _ _ r
  unfold itOf
  split
  · trivial
  · rename_i h
    have h : ds[i]? = none := Option.some.inj h
    refine ⟨vs, hs _ _ g, ?_⟩
    rw [← r1.length]
    exact List.getElem?_eq_none_iff.mp h
  · rename_i d h
    have h : ds[i]? = some d := Option.some.inj h
    obtain ⟨v, e1, r2⟩ := r1.get h
    refine ⟨⟨vs, v, hs _ _ g, e1⟩, fun x H' ⟨hH, hx⟩ => ?_⟩
    subst hH
    have z := hx vs (hs _ _ g)
    rw [e1] at z
    cases z
    exact ⟨Gr.refl _ _, st1, r2⟩
theorem agr_tup {a : Addr} {ds : List D} {vs : List V} (hs : H a = some (.tup vs)) (r : Rps K mg H m ds vs) (st : Stt K mg H m S) : Agr K mg H m (Itt K a) (itOf ds) := by
  intro i H1 m1 S1 _ g st1
  have r1 := Rps.mono st g _ _ r
  have hs1 : SqT K H1 a vs := SqT.of (g.kp hs (st.notIn hs rfl))
  unfold itOf
  split
  · trivial
  · rename_i h
    have h : ds[i]? = none := Option.some.inj h
    refine ⟨vs, hs1, ?_⟩
    rw [← r1.length]
    exact List.getElem?_eq_none_iff.mp h
  · rename_i d h
    have h : ds[i]? = some d := Option.some.inj h
    obtain ⟨v, e1, r2⟩ := r1.get h
    refine ⟨⟨vs, v, hs1, e1⟩, fun x H' ⟨hH, hx⟩ => ?_⟩
    subst hH
    have z := hx vs hs1
    rw [e1] at z
    cases z
    exact ⟨Gr.refl _ _, st1, r2⟩
theorem agr_str {z : Str} (hz : txtOk z = true) : Agr K mg H m (Its z) (itOf (z.cps.toList.map fun c => .str (sign1 c))) := by
  intro i H1 m1 S1 _ g st1
  unfold itOf
  split
  · trivial
  · rename_i h
    have h : (z.cps.toList.map fun c => D.str (sign1 c))[i]? = none := Option.some.inj h
    have h := List.getElem?_eq_none_iff.mp h
    rw [List.length_map, Array.length_toList] at h
    exact h
  · rename_i d h
    have h : (z.cps.toList.map fun c => D.str (sign1 c))[i]? = some d := Option.some.inj h
    rw [List.getElem?_map] at h
    obtain ⟨c, e1, e2⟩ := Option.map_eq_some_iff.mp h
    have e3 : z.cps[i]? = some c := by rw [← Array.getElem?_toList]; exact e1
    refine ⟨(Array.getElem?_eq_some_iff.mp e3).1, fun x H' ⟨hH, c', hc, hx⟩ => ?_⟩
    subst hH hx
    rw [e3] at hc
    cases hc
    subst e2
    exact ⟨Gr.refl _ _, st1, .str _ (sign1_ok hz (List.mem_of_getElem? e1))⟩
def itRng (lo : Int) (n : Nat) : MI := fun i _ => if i < n then some (some (.int (lo + (i : Nat)))) else some none
theorem agr_rng {lo : Int} {n : Nat} : Agr K mg H m (Itr lo n) (itRng lo n) := by
  intro i H1 m1 S1 _ g st1
  unfold itRng
  by_cases hi : i < n
  · rw [if_pos hi]
    refine ⟨hi, fun x H' ⟨hH, hx⟩ => ?_⟩
    subst hH hx
    exact ⟨Gr.refl _ _, st1, .int _⟩
  · rw [if_neg hi]
    exact Nat.le_of_not_lt hi
end
def mIt (f : ME) : Slots → Sto → R MI := fun e S => (f e S).bind fun d S => itD d S
def rng1D : List D → Sto → R MI
  | [.int j], S => if -(2 ^ 62) ≤ j ∧ j < 2 ^ 62 then .ok (itRng 0 j.toNat) S else .no
  | _, _ => .no
def rng2D : List D → Sto → R MI
  | [.int i, .int j], S => if -(2 ^ 62) ≤ i ∧ i < 2 ^ 62 ∧ -(2 ^ 62) ≤ j ∧ j < 2 ^ 62 then .ok (itRng i (j - i).toNat) S else .no
  | _, _ => .no
def mItA (g : List D → Sto → R MI) (a : MA) : Slots → Sto → R MI := fun e S => (a e S).bind g
/-- enumerate(list) -/
def enumL (ds : List D) (i : Nat) : Option D := ds[i]?.map fun d => .tup [.int (i : Nat), d]
def itEnum (d : D) : MI := fun i S => match itemsL S d with
  | some ds => some (enumL ds i)
  | none => none
def enumD : List D → Sto → R MI
  | [d], S => match itemsL S d with
    | some _ => .ok (itEnum d) S
    | none => .no
  | _, _ => .no
def zipL (ds es : List D) (i : Nat) : Option D := match ds[i]?, es[i]? with
  | some d, some e => some (.tup [d, e])
  | _, _ => none
def itZip (x y : D) : MI := fun i S => match itemsL S x, itemsL S y with
  | some ds, some es => some (zipL ds es i)
  | _, _ => none
def zipD : List D → Sto → R MI
  | [x, y], S => match itemsL S x, itemsL S y with
    | some _, some _ => .ok (itZip x y) S
    | _, _ => .no
  | _, _ => .no
section
variable {K : PySem.W.Frag} {mg : Str → Option Value} {H : Hp} {m : List Addr} {S : Sto}
/-- a new pair at a turn -/
theorem pair_new (st : Stt K mg H m S) {T : Addr} {d e : D} {x y : V} (hT : H T = none) (r1 : Rp K mg H m d x) (r2 : Rp K mg H m e y) : Gr H m (upd H T (.tup [x, y])) m ∧ Stt K mg (upd H T (.tup [x, y])) m S ∧ Rp K mg (upd H T (.tup [x, y])) m (.tup [d, e]) (.ref T) := by
  obtain ⟨g2, st2⟩ := st.make (ho := .tup [x, y]) hT
  exact ⟨g2, st2, .tup upd_same (.two (Rp.mono st g2 _ _ r1) (Rp.mono st g2 _ _ r2))⟩
theorem agr_enum {d : D} {a : Addr} (r : Rp K mg H m d (.ref a)) (st : Stt K mg H m S) : Agr K mg H m (Ite K a) (itEnum d) := by
  intro i H1 m1 S1 _ g st1
  have r1 := Rp.mono st g _ _ r
  unfold itEnum
  split
  · trivial
  · rename_i h
    split at h
    · rename_i ds hd
      obtain ⟨a', vs, e0, q1, q2⟩ := itemsL_sq st1 r1 hd
      cases e0
      have h : enumL ds i = none := Option.some.inj h
      unfold enumL at h
      rw [Option.map_eq_none_iff] at h
      refine ⟨vs, q1, ?_⟩
      rw [← q2.length]
      exact List.getElem?_eq_none_iff.mp h
    · cases h
  · rename_i d' h
    split at h
    · rename_i ds hd
      obtain ⟨a', vs, e0, q1, q2⟩ := itemsL_sq st1 r1 hd
      cases e0
      have h : enumL ds i = some d' := Option.some.inj h
      unfold enumL at h
      obtain ⟨d0, e1, rfl⟩ := Option.map_eq_some_iff.mp h
      obtain ⟨v, e2, r2⟩ := q2.get e1
      refine ⟨⟨vs, v, q1, e2⟩, fun x H' ⟨T, y, h1, h2, h3, h4⟩ => ?_⟩
      subst h1 h3
      have z := h4 vs q1
      rw [e2] at z
      cases z
      exact pair_new st1 h2 (.int _) r2
    · cases h
theorem agr_zip {x y : D} {a b : Addr} (rx : Rp K mg H m x (.ref a)) (ry : Rp K mg H m y (.ref b)) (st : Stt K mg H m S) : Agr K mg H m (Itz K a b) (itZip x y) := by
  intro i H1 m1 S1 _ g st1
  have rx1 := Rp.mono st g _ _ rx
  have ry1 := Rp.mono st g _ _ ry
  unfold itZip
  split
  · trivial
  · rename_i h
    split at h
    · rename_i ds es hd he
      obtain ⟨a', vs, e0, q1, q2⟩ := itemsL_sq st1 rx1 hd
      cases e0
      obtain ⟨b', us, e0, p1, p2⟩ := itemsL_sq st1 ry1 he
      cases e0
      have h : zipL ds es i = none := Option.some.inj h
      unfold zipL at h
      refine ⟨vs, us, q1, p1, ?_⟩
      rw [← q2.length, ← p2.length]
      split at h
      · cases h
      · rename_i hh
        by_cases z : ds.length ≤ i
        · exact .inl z
        · by_cases z2 : es.length ≤ i
          · exact .inr z2
          · exact (hh _ _ (List.getElem?_eq_getElem (Nat.lt_of_not_le z)) (List.getElem?_eq_getElem (Nat.lt_of_not_le z2))).elim
    · cases h
  · rename_i d' h
    split at h
    · rename_i ds es hd he
      obtain ⟨a', vs, e0, q1, q2⟩ := itemsL_sq st1 rx1 hd
      cases e0
      obtain ⟨b', us, e0, p1, p2⟩ := itemsL_sq st1 ry1 he
      cases e0
      have h : zipL ds es i = some d' := Option.some.inj h
      unfold zipL at h
      split at h
      · rename_i d1 d2 e1 e2
        cases h
        obtain ⟨v1, f1, r1⟩ := q2.get e1
        obtain ⟨v2, f2, r2⟩ := p2.get e2
        refine ⟨⟨vs, us, v1, v2, q1, p1, f1, f2⟩, fun x H' ⟨T, y1, y2, h1, h2, h3, h4, h5⟩ => ?_⟩
        subst h1 h3
        have z := h4 vs q1
        rw [f1] at z
        cases z
        have z := h5 us p1
        rw [f2] at z
        cases z
        exact pair_new st1 h2 r1 r2
      · cases h
    · cases h
end
section
variable {X : Cx} {W : WX} {tg : Expr}
theorem ci_of {iter : Expr} {f : ME} (h : CE X W iter f) : CI X W tg iter (mIt f) := by
  refine ⟨_, PIor (pi_list h.run) (PIor (pi_tup h.run) (pi_str h.run)), fun σ H Q m e S st sl q => ?_⟩
  -- which of the three
  obtain ⟨c, hc⟩ : ∃ c : Nat, ∀ d S1, f e S = .ok d S1 → (match d with
    | .tup _ => 1
    | .str _ => 2
    | _ => 0) = c := by
    cases hf : f e S with
    | ok d S1 => exact ⟨_, fun d' S1' h => by cases h; rfl⟩
    | exc c f d S1 => exact ⟨0, fun d' S1' h => by cases h⟩
    | no => exact ⟨0, fun d' S1' h => by cases h⟩
  by_cases h1 : c = 1
  · subst h1
    refine .inr (.inl ?_)
    refine tI_bind st sl q fun d S1 v H1 m1 e1 g1 st1 sl1 r1 q1 => ?_
    have z := hc d S1 e1
    cases d with
    | tup ds =>
      cases r1 with
      | tup p1 p2 => exact ⟨_, rfl, ⟨_, SqT.of p1⟩, q1 _ _ _ (Gr.refl _ _) st1 (agr_tup p1 p2 st1)⟩
    | _ => cases z
  · by_cases h2 : c = 2
    · subst h2
      refine .inr (.inr ?_)
      refine tI_bind st sl q fun d S1 v H1 m1 e1 g1 st1 sl1 r1 q1 => ?_
      have z := hc d S1 e1
      cases d with
      | str w =>
        cases r1 with
        | str _ hw => exact ⟨_, rfl, q1 _ _ _ (Gr.refl _ _) st1 (agr_str hw)⟩
      | _ => cases z
    · refine .inl ?_
      refine tI_bind st sl q fun d S1 v H1 m1 e1 g1 st1 sl1 r1 q1 => ?_
      have z := hc d S1 e1
      unfold itD at q1
      cases d with
      | seq ds =>
        cases r1 with
        | seq p1 p2 => exact ⟨_, rfl, ⟨_, .inl (.inr ⟨_, p1⟩)⟩, q1 _ _ _ (Gr.refl _ _) st1 (agr_seq (fun H2 m2 g2 => .inl (.inr ⟨_, g2.frz _ _ _ p1⟩)) p2 st1)⟩
        | seqK p1 p2 => exact ⟨_, rfl, ⟨_, p1 _⟩, q1 _ _ _ (Gr.refl _ _) st1 (agr_seq (fun H2 m2 g2 => p1 _) p2 st1)⟩
      | ref j =>
        cases r1 with
        | ref hj =>
          have q1 : okI X.K X.mg H1 m1 σ W Q (match S1[j]? with
            | some (.lst _) => .ok (itRef j) S1
            | _ => .no) := q1
          split at q1
          · rename_i hs
            obtain ⟨vs, p1, p2⟩ := st1.obj _ _ _ hs hj
            exact ⟨_, rfl, ⟨_, SqL.of p1⟩, q1 _ _ _ (Gr.refl _ _) st1 (agr_list j hj)⟩
          · exact q1.elim
      | tup ds => exact absurd z.symm h1
      | str ds => exact absurd z.symm h2
      | _ => exact q1.elim
theorem ci_range1 {a : Expr} {f : MA} {p pos : Pos} (hg : Gl X "range") (hm : X.mg "range" = none) (ha : CA X W [a] f) (hs : starEach [a] X.env = [(false, eval a X.env)] := by rfl) : CI X W tg (.Call (.Name "range" p) [a] [] pos) (mItA rng1D f) := by
  refine ⟨_, pi_range1 hg hm ha.run hs, fun σ H Q m e S st sl q => ?_⟩
  refine tI_bind st sl q fun d S1 v H1 m1 e1 g1 st1 sl1 r1 q1 => ?_
  unfold rng1D at q1
  split at q1
  · split at q1
    · rename_i hz
      cases r1 with
      | cons ra rn =>
        cases rn
        cases ra
        exact ⟨_, rfl, hz.1, hz.2, q1 _ _ _ (Gr.refl _ _) st1 agr_rng⟩
    · exact q1.elim
  · exact q1.elim
theorem ci_range2 {a b : Expr} {f : MA} {p pos : Pos} (hg : Gl X "range") (hm : X.mg "range" = none) (ha : CA X W [a, b] f) (hs : starEach [a, b] X.env = [(false, eval a X.env), (false, eval b X.env)] := by rfl) (hs2 : starEach [b] X.env = [(false, eval b X.env)] := by rfl) :
    CI X W tg (.Call (.Name "range" p) [a, b] [] pos) (mItA rng2D f) := by
  refine ⟨_, pi_range2 hg hm ha.run hs hs2, fun σ H Q m e S st sl q => ?_⟩
  refine tI_bind st sl q fun d S1 v H1 m1 e1 g1 st1 sl1 r1 q1 => ?_
  unfold rng2D at q1
  split at q1
  · split at q1
    · rename_i hz
      cases r1 with
      | cons ra rn =>
        cases rn with
        | cons rb rn =>
          cases rn
          cases ra
          cases rb
          exact ⟨_, _, rfl, hz, q1 _ _ _ (Gr.refl _ _) st1 agr_rng⟩
    · exact q1.elim
  · exact q1.elim
theorem ci_enum {ex : Expr} {f : MA} {p pos tpos : Pos} {elts : List Expr} {kk : Nat} (hg : Gl X "enumerate") (hm : X.mg "enumerate" = none) (ha : CA X W [ex] f) (hs : starEach [ex] X.env = [(false, eval ex X.env)] := by rfl) : CI X W (.Tuple elts kk tpos) (.Call (.Name "enumerate" p) [ex] [] pos) (mItA enumD f) := by
  refine ⟨_, pi_enum hg hm ha.run hs, fun σ H Q m e S st sl q => ?_⟩
  refine tI_bind st sl q fun d S1 v H1 m1 e1 g1 st1 sl1 r1 q1 => ?_
  unfold enumD at q1
  split at q1
  · split at q1
    · rename_i hd
      cases r1 with
      | cons ra rn =>
        cases rn
        obtain ⟨a, vs, rfl, h1, h2⟩ := itemsL_sq st1 ra hd
        exact ⟨a, vs, rfl, h1, q1 _ _ _ (Gr.refl _ _) st1 (agr_enum ra st1)⟩
    · exact q1.elim
  · exact q1.elim
theorem ci_zip {ex e2 : Expr} {f : MA} {p pos tpos : Pos} {elts : List Expr} {kk : Nat} (hg : Gl X "zip") (hm : X.mg "zip" = none) (ha : CA X W [ex, e2] f) (hp : ∀ {ta : TA}, PA X [ex, e2] ta → PI X (.Tuple elts kk tpos) (.Call (.Name "zip" p) [ex, e2] [] pos) (iZip X.K ta) := by exact fun h => pi_zip ‹_› ‹_› h) :
    CI X W (.Tuple elts kk tpos) (.Call (.Name "zip" p) [ex, e2] [] pos) (mItA zipD f) := by
  refine ⟨_, hp ha.run, fun σ H Q m e S st sl q => ?_⟩
  refine tI_bind st sl q fun d S1 v H1 m1 e1 g1 st1 sl1 r1 q1 => ?_
  unfold zipD at q1
  split at q1
  · split at q1
    · rename_i hd he
      cases r1 with
      | cons ra rn =>
        cases rn with
        | cons rb rn =>
          cases rn
          obtain ⟨a, vs, rfl, h1, h2⟩ := itemsL_sq st1 ra hd
          obtain ⟨b, us, rfl, k1, k2⟩ := itemsL_sq st1 rb he
          exact ⟨a, b, vs, us, rfl, h1, k1, q1 _ _ _ (Gr.refl _ _) st1 (agr_zip ra rb st1)⟩
    · exact q1.elim
  · exact q1.elim

/-! ### for -/
def forF (it : MI) (g : MG) (b : MS) : Nat → Nat → MS
  | 0, _, _, _ => .no
  | n + 1, i, e, S => match it i S with
    | none => .no
    | some none => .go .nx e S
    | some (some d) => match g d e S with
      | none => .no
      | some e => match b e S with
        | .go .nx e S => forF it g b n (i + 1) e S
        | .go .ct e S => forF it g b n (i + 1) e S
        | .go .bk e S => .go .nx e S
        | r => r
def mFor (f : Slots → Sto → R MI) (g : MG) (b : MS) : MS := fun e S => (f e S).thn e fun it S => forF it g b big 0 e S
theorem cs_for {iter : Expr} {body : List Stmt} {f : Slots → Sto → R MI} {g : MG} {b : MS} {pos : Pos} (hp : PassesOwn (model X.prog X.w) X.A X.env X.xe) (hc : X.calm = true) {is : List Nat} (hi : CI X W tg iter f) (hg : CG X tg g is) (hb : CSs X W body b)
    (hps : ∀ {wi : TI} {gg : TG} {tb : TS}, PI X tg iter wi → PG X tg gg → PSs X body tb → PS X (.For tg iter body [] pos) (tFor wi gg tb) := by exact fun a b c => ps_for ‹_› ‹_› a b c) : CS X W (.For tg iter body [] pos) (mFor f g b) := by
  obtain ⟨wi, i1, i2⟩ := hi.run
  obtain ⟨gg, g1, g2⟩ := hg.run
  refine ⟨PSi (hps i1 g1 hb.run) fun E σ H ⟨m, e, S, st, sl, q⟩ => ?_⟩
  refine i2 σ H _ m e S st sl ?_
  unfold mFor at q
  cases hf : f e S with
  | exc c f d S1 => rw [hf] at q; exact fun ca dx v H' m' g' st' hc hd r => q ca dx v σ H' m' g' st' (sl.mono st g') hc hd r
  | no => rw [hf] at q; exact q
  | ok it S1 =>
    rw [hf, R.thn_ok] at q
    intro J H1 m1 gr1 st1 ag
    refine ⟨fun i n σ H => ∃ m e S, Gr H1 m1 H m ∧ i + n = big ∧ Stt X.K X.mg H m S ∧ Sl X.K X.mg H m e σ ∧ okS X.K X.mg H m W E (forF it g b n i e S), ⟨big, m1, e, S1, Gr.refl _ _, by simp, st1, sl.mono st gr1, okS.mono q gr1⟩, ?_⟩
    rintro i n σ H ⟨m, e, S, gr, hin, st, sl, q⟩
    cases n with
    | zero => exact q.elim
    | succ n =>
      have a := ag i H m S (by have : big ≤ lim := by decide
                               omega) gr st
      unfold forF at q
      cases hit : it i S with
      | none => rw [hit] at q; exact q.elim
      | some o =>
        rw [hit] at q a
        cases o with
        | none => exact .inl ⟨a, q.nx st sl⟩
        | some d =>
          refine .inr ⟨a.1, _, fun _ _ h => h, fun x H' hy => ?_⟩
          obtain ⟨gr2, st2, r2⟩ := a.2 x H' hy
          have q : okS X.K X.mg H m W E (match g d e S with
            | none => .no
            | some e => match b e S with
              | .go .nx e S => forF it g b n (i + 1) e S
              | .go .ct e S => forF it g b n (i + 1) e S
              | .go .bk e S => .go .nx e S
              | r => r) := q
          cases hgd : g d e S with
          | none => rw [hgd] at q; exact q.elim
          | some e2 =>
            rw [hgd] at q
            refine g2 H' m S e e2 σ d x _ st2 (sl.mono st gr2) r2 hgd fun σ2 sl2 _ => ?_
            refine ⟨m, e2, S, st2, sl2, ?_⟩
            have q : okS X.K X.mg H m W E (match b e2 S with
              | .go .nx e S => forF it g b n (i + 1) e S
              | .go .ct e S => forF it g b n (i + 1) e S
              | .go .bk e S => .go .nx e S
              | r => r) := q
            have q := okS.mono q gr2
            cases hbe : b e2 S with
            | go fl e3 S3 =>
              rw [hbe] at q
              cases fl with
              | nx => exact fun σ' H3 m3 g3 st3 sl3 => ⟨n, Nat.lt_succ_self n, m3, e3, S3, (gr.trans gr2).trans g3, by omega, st3, sl3, okS.mono q g3⟩
              | ct => exact fun σ' H3 m3 g3 st3 sl3 => ⟨n, Nat.lt_succ_self n, m3, e3, S3, (gr.trans gr2).trans g3, by omega, st3, sl3, okS.mono q g3⟩
              | bk => exact q
              | rt d => exact q
            | exc c f d e S => rw [hbe] at q; exact q
            | no => rw [hbe] at q; exact q
end
end Mi

set_option Elab.async false
set_option linter.all false
set_option maxRecDepth 100000
set_option maxHeartbeats 1000000
namespace Mi
open PySem PySem.Spec PyProof.Rows L2
variable [TabsOf]

/-! ### comprehensions -/
/-- nothing leaves a block -/
abbrev W0 : WX := fun _ _ _ _ => False
def wipeM (e : Slots) : List Nat → Slots
  | [] => e
  | v :: vs => (wipeM e vs).set v none
/-- a result without an exception -/
def okG {α : Type} (P : α → Sto → Prop) : R α → Prop
  | .ok a S => P a S
  | _ => False
section
variable {K : PySem.W.Frag} {mg : Str → Option Value} {H H' : Hp} {m m' : List Addr} {S : Sto} {e : Slots} {σ : L2.St} {W : WX} {α β γ : Type} {Rl : Hp → List Addr → α → β → Prop} {Q : β → Hp → Prop} {P : γ → Sto → Prop}
theorem tM_bindG {f : Slots → Sto → R α} {k : α → Sto → R γ} (st : Stt K mg H m S) (sl : Sl K mg H m e σ) (h : okG P ((f e S).bind k))
    (next : ∀ a S1 v H1 m1, f e S = .ok a S1 → Gr H m H1 m1 → Stt K mg H1 m1 S1 → Sl K mg H1 m1 e σ → Rl H1 m1 a v → okG P (k a S1) → Q v H1) : tM K mg W Rl f σ H Q := by
  refine ⟨m, e, S, st, sl, ?_⟩
  cases hf : f e S with
  | ok a S1 =>
    rw [hf] at h
    exact fun v H1 m1 g s1 r => next a S1 v H1 m1 hf g s1 (sl.mono st g) r h
  | exc c f d S1 =>
    rw [hf] at h
    exact h.elim
  | no =>
    rw [hf] at h
    exact h.elim
theorem Sl.wipe (h : Sl K mg H m e σ) : ∀ vs : List Nat, Sl K mg H m (wipeM e vs) (L2.wipe σ vs)
  | [] => h
  | v :: vs => (Sl.wipe h vs).setNone v
end
theorem wipe_only {vs is : List Nat} {σ σ' : L2.St} (hs : ∀ i ∈ is, i ∈ vs) (o : Only is σ σ') : L2.wipe σ' vs = L2.wipe σ vs := by
  have key : ∀ (vs : List Nat) (τ : L2.St) (j : Nat), (L2.wipe τ vs)[j]? = if j ∈ vs then (if j < τ.length then some none else none) else τ[j]? := by
    intro vs
    induction vs with
    | nil => intro τ j; rfl
    | cons v vs ih =>
      intro τ j
      show ((L2.wipe τ vs).set v none)[j]? = _
      rw [List.getElem?_set, L2.wipe_length]
      by_cases hj : v = j
      · subst hj
        rw [if_pos rfl, if_pos List.mem_cons_self]
      · rw [if_neg hj, ih τ j]
        by_cases hm : j ∈ vs
        · rw [if_pos hm, if_pos (List.mem_cons_of_mem _ hm)]
        · rw [if_neg hm, if_neg (fun z => (List.mem_cons.mp z).elim (fun z => hj z.symm) hm)]
  apply List.ext_getElem?
  intro j
  rw [key, key, o.len]
  by_cases hm : j ∈ vs
  · rw [if_pos hm, if_pos hm]
  · rw [if_neg hm, if_neg hm, o.at_ j fun z => hm (hs j z)]
theorem wipe_wipe (σ : L2.St) (vs : List Nat) : L2.wipe (L2.wipe σ vs) vs = L2.wipe σ vs :=
  wipe_only (is := vs) (fun _ h => h) ⟨L2.wipe_length σ vs, fun j hj => by
    induction vs with
    | nil => rfl
    | cons v vs ih =>
      show ((L2.wipe σ vs).set v none)[j]? = _
      rw [List.getElem?_set, if_neg (fun z => hj (by rw [z]; exact List.mem_cons_self))]
      exact ih fun z => hj (List.mem_cons_of_mem _ z)⟩
section
variable {K : PySem.W.Frag} {mg : Str → Option Value} {H : Hp} {m : List Addr} {S : Sto} {A : Addr} {o o' : HO}
mutual
theorem Rp.updAt (h : H A = some o) (nt : ∀ xs, o ≠ .tup xs) (nf : ∀ ob xs, o ≠ .frz ob (.lst xs)) : ∀ (d : D) (v : V), Rp K mg H m d v → Rp K mg (upd H A o') m d v
  | .non, _, r => by cases r; exact .non
  | .bl _, _, r => by cases r; exact .bl _
  | .int _, _, r => by cases r; exact .int _
  | .str _, _, r => by
    cases r with
    | str _ r => exact .str _ r
  | .tup ds, _, r => by
    cases r with
    | tup h1 h2 => exact .tup (by rw [upd_ne (ne_of h1 h (fun z => nt _ z.symm))]; exact h1) (Rps.updAt h nt nf ds _ h2)
  | .seq ds, _, r => by
    cases r with
    | seq h1 h2 => exact .seq (by rw [upd_ne (ne_of h1 h (fun z => nf _ _ z.symm))]; exact h1) (Rps.updAt h nt nf ds _ h2)
    | seqK h1 h2 => exact .seqK h1 (Rps.updAt h nt nf ds _ h2)
  | .ref _, _, r => by
    cases r with
    | ref h1 => exact .ref h1
  | .glb _, _, r => by
    cases r with
    | glb h1 => exact .glb h1
  | .bty _, _, r => by cases r; exact .bty _
theorem Rps.updAt (h : H A = some o) (nt : ∀ xs, o ≠ .tup xs) (nf : ∀ ob xs, o ≠ .frz ob (.lst xs)) : ∀ (ds : List D) (vs : List V), Rps K mg H m ds vs → Rps K mg (upd H A o') m ds vs
  | [], _, r => by cases r; exact .nil
  | d :: ds, _, r => by
    cases r with
    | cons h1 h2 => exact .cons (Rp.updAt h nt nf d _ h1) (Rps.updAt h nt nf ds _ h2)
end
theorem Rpf.updAt {κ : Type} (h : H A = some o) (nt : ∀ xs, o ≠ .tup xs) (nf : ∀ ob xs, o ≠ .frz ob (.lst xs)) {ps : List (κ × D)} {qs : List (κ × V)} (r : Rpf K mg H m ps qs) : Rpf K mg (upd H A o') m ps qs :=
  Paired.mapP r fun _ _ z => ⟨z.1, Rp.updAt h nt nf _ _ z.2⟩
/-- a thing apart from the store changes -/
theorem Stt.updAt (st : Stt K mg H m S) (h : H A = some o) (hn : A ∉ m) (nt : ∀ xs, o ≠ .tup xs) (nf : ∀ ob xs, o ≠ .frz ob (.lst xs)) (nb : ∀ ps, o ≠ .tbl ps) (nx : ∀ f, o ≠ .ext f) : Stt K mg (upd H A o') m S := by
  refine ⟨st.len, st.nd, fun j u a h1 h2 => ?_, fun p hp => ?_⟩
  rotate_left
  · obtain ⟨ps, h1, h2, h3⟩ := st.tab p hp
    refine ⟨ps, by rw [upd_ne (fun z => nb ps (by rw [z, h] at h1; exact Option.some.inj h1))]; exact h1, h2, fun pos cv hc => ?_⟩
    obtain ⟨c, e1, e2⟩ := h3 pos cv hc
    exact ⟨c, e1, by rw [upd_ne (fun z => nx _ (by rw [z, h] at e2; exact Option.some.inj e2))]; exact e2⟩
  have q := st.obj j u a h1 h2
  have hap : a ≠ A := fun z => hn (z ▸ List.mem_of_getElem? h2)
  cases u with
  | lst ds => obtain ⟨vs, q1, q2⟩ := q; exact ⟨vs, by rw [upd_ne hap]; exact q1, Rps.updAt h nt nf _ _ q2⟩
  | dK ds => obtain ⟨vs, q1, q2, q3⟩ := q; exact ⟨vs, by rw [upd_ne hap]; exact q1, Rpf.updAt h nt nf q2, q3⟩
  | dT ds => obtain ⟨vs, q1, q2, q3⟩ := q; exact ⟨vs, by rw [upd_ne hap]; exact q1, Rpf.updAt h nt nf q2, q3⟩
  | lK ds => obtain ⟨o, vs, q1, q2, q3⟩ := q; exact ⟨o, vs, by rw [upd_ne hap]; exact q1, Rpf.updAt h nt nf q2, q3⟩
  | lT ds => obtain ⟨o, vs, q1, q2, q3⟩ := q; exact ⟨o, vs, by rw [upd_ne hap]; exact q1, Rpf.updAt h nt nf q2, q3⟩
  | ins C fs => obtain ⟨ca, dx, vs, q0, q1, q2⟩ := q; exact ⟨ca, dx, vs, q0, by rw [upd_ne hap]; exact q1, Rpf.updAt h nt nf q2⟩
theorem Gr.updAt {H0 : Hp} {m0 : List Addr} (g : Gr H0 m0 H m) (h0 : H0 A = none) : Gr H0 m0 (upd H A o') m :=
  ⟨g.pre, fun a u h n t => by rw [upd_ne (ne_of_none h h0)]; exact g.keep a u h n t, g.new, fun a ob u h => by rw [upd_ne (ne_of_none h h0)]; exact g.frz a ob u h⟩
end
def mTrue : MT := fun _ S => .ok true S
def lcF (it : MI) (g : MG) (t : MT) (f : ME) (e0 : Slots) : Nat → Nat → Sto → List D → R (List D)
  | 0, _, _, _ => .no
  | n + 1, i, S, acc => match it i S with
    | none => .no
    | some none => .ok acc S
    | some (some d) => match g d e0 S with
      | none => .no
      | some e => (t e S).bind fun b S => if b = true then (f e S).bind fun y S => lcF it g t f e0 n (i + 1) S (acc ++ [y]) else lcF it g t f e0 n (i + 1) S acc
def lcEnd : R (List D) → R D
  | .ok acc S => .ok (.ref S.length) (S ++ [.lst acc])
  | _ => .no
def mLC (fi : Slots → Sto → R MI) (g : MG) (t : MT) (f : ME) (vs : List Nat) : ME := fun e S => (fi e S).bind fun it S => lcEnd (lcF it g t f (wipeM e vs) big 0 S [])
structure CTs (X : Cx) (W : WX) (ifs : List Expr) (t : MT) : Prop where
  run : PTs X ifs (tT X.K X.mg W t)
section
variable {X : Cx} {W : WX}
theorem cts_nil : CTs X W [] mTrue := ⟨⟨fun pins s σ H Q I ⟨m, e, S, st, sl, q⟩ => pts_nil.run pins s σ H Q I (okR.here q st rfl)⟩⟩
theorem cts_one {c : Expr} {t : MT} (h : CT X W c t) : CTs X W [c] t := ⟨pts_one h.run⟩
/-- a target within a comprehension's block -/
structure CGB (X : Cx) (scope : Scope) (tg : Expr) (g : MG) (is : List Nat) : Prop where
  run : ∃ t : TG, (∀ (s : Shared) (H : Hp) (C : Addr) (cl : List (Str × Addr)) (fp : List Addr), PG (X.blk s H scope (compEnvC scope cl C X.env) fp) tg t) ∧
      ∀ (H : Hp) (m : List Addr) (S : Sto) (e e' : Slots) (σ : L2.St) (d : D) (v : V) (Q : L2.St → Hp → Prop), Stt X.K X.mg H m S → Sl X.K X.mg H m e σ → Rp X.K X.mg H m d v → g d e S = some e' → (∀ σ', Sl X.K X.mg H m e' σ' → Only is σ σ' → Q σ' H) → t v σ H Q
structure CGBs (X : Cx) (scope : Scope) (tg : List Expr) (g : List MG) (is : List Nat) : Prop where
  run : ∃ t : TGs, (∀ (s : Shared) (H : Hp) (C : Addr) (cl : List (Str × Addr)) (fp : List Addr), PGs (X.blk s H scope (compEnvC scope cl C X.env) fp) tg t) ∧
      ∀ (H : Hp) (m : List Addr) (S : Sto) (e e' : Slots) (σ : L2.St) (ds : List D) (vs : List V) (Q : L2.St → Hp → Prop), Stt X.K X.mg H m S → Sl X.K X.mg H m e σ → Rps X.K X.mg H m ds vs → gTs g ds e S = some e' → (∀ σ', Sl X.K X.mg H m e' σ' → Only is σ σ' → Q σ' H) → t vs σ H Q
theorem cgb_name (i : Nat) {scope : Scope} {x : Str} {pos : Pos} (h : ∀ (s : Shared) (H : Hp) (C : Addr) (cl : List (Str × Addr)) (fp : List Addr), PG (X.blk s H scope (compEnvC scope cl C X.env) fp) (.Name x pos) (gName i)) : CGB X scope (.Name x pos) (gN i) [i] :=
  ⟨_, h, fun H m S e e' σ d v Q st sl r h q => by
    cases h
    refine q _ (sl.set i r) ⟨by simp, fun j hj => ?_⟩
    rw [List.getElem?_set, if_neg (fun z => hj (by rw [z]; exact List.mem_singleton.mpr rfl))]⟩
theorem cgbs_nil {scope : Scope} : CGBs X scope [] [] [] := ⟨_, fun _ _ _ _ _ => pgs_nil, fun H m S e e' σ ds vs Q st sl r h q => by
  have hl := gTs_len h
  cases ds with
  | nil =>
    cases r
    have h : some e = some e' := h
    cases h
    exact ⟨rfl, q _ sl ⟨rfl, fun _ _ => rfl⟩⟩
  | cons d ds => cases hl⟩
theorem cgbs_cons {scope : Scope} {t : Expr} {ts : List Expr} {g : MG} {gs : List MG} {is js : List Nat} (h : CGB X scope t g is) (k : CGBs X scope ts gs js)
    (hp : ∀ {u : TG} {us : TGs} (s : Shared) (H : Hp) (C : Addr) (cl : List (Str × Addr)) (fp : List Addr), PG (X.blk s H scope (compEnvC scope cl C X.env) fp) t u → PGs (X.blk s H scope (compEnvC scope cl C X.env) fp) ts us → PGs (X.blk s H scope (compEnvC scope cl C X.env) fp) (t :: ts) (gCons u us) := by exact fun _ _ _ _ _ h k => pgs_cons h k) :
    CGBs X scope (t :: ts) (g :: gs) (is ++ js) := by
  obtain ⟨u, h1, h2⟩ := h.run
  obtain ⟨us, k1, k2⟩ := k.run
  refine ⟨_, fun s H C cl fp => hp s H C cl fp (h1 s H C cl fp) (k1 s H C cl fp), fun H m S e e' σ ds vs Q st sl r hh q => ?_⟩
  cases ds with
  | nil => have z := gTs_len hh; cases z
  | cons d ds =>
    cases r with
    | cons r1 r2 =>
      unfold gTs at hh
      obtain ⟨e1, e2, e3⟩ := Option.bind_eq_some_iff.mp hh
      exact ⟨_, _, rfl, h2 H m S e e1 σ d _ _ st sl r1 e2 fun σ' sl' o1 => k2 H m S e1 e' σ' ds _ Q st sl' r2 e3 fun σ'' sl'' o2 => q σ'' sl'' ⟨o2.len.trans o1.len, fun j hj => (o2.at_ j fun z => hj (List.mem_append_right _ z)).trans (o1.at_ j fun z => hj (List.mem_append_left _ z))⟩⟩
theorem cgb_tup {scope : Scope} {ts : List Expr} {gs : List MG} {k : Nat} {pos : Pos} {is : List Nat} (hc : X.calm = true) (h : CGBs X scope ts gs is)
    (hn : ∀ (cl : List (Str × Addr)) (C : Addr), (assignEach ts (compEnvC scope cl C X.env)).length = gs.length := by exact fun _ _ => rfl) (hst : ∀ (cl : List (Str × Addr)) (C : Addr), (assignEach ts (compEnvC scope cl C X.env)).findIdx? (·.1) = none := by exact fun _ _ => rfl) : CGB X scope (.Tuple ts k pos) (gT gs) is := by
  obtain ⟨u, h1, h2⟩ := h.run
  refine ⟨fun v σ H Q => gTup X.K gs.length u v σ H Q ∨ gLst X.K gs.length u v σ H Q, fun s H C cl fp => ?_, fun H m S e e' σ d v Q st sl r hh q => ?_⟩
  · have a1 : PG (X.blk s H scope (compEnvC scope cl C X.env) fp) (.Tuple ts k pos) (gTup X.K gs.length u) := pg_tup (X := X.blk s H scope (compEnvC scope cl C X.env) fp) hc (h1 s H C cl fp) (hn cl C) (hst cl C)
    have a2 : PG (X.blk s H scope (compEnvC scope cl C X.env) fp) (.Tuple ts k pos) (gLst X.K gs.length u) := pg_lst (X := X.blk s H scope (compEnvC scope cl C X.env) fp) hc (h1 s H C cl fp) (hn cl C) (hst cl C)
    exact PGor a1 a2
  unfold gT at hh
  split at hh
  · rename_i ds hd
    obtain ⟨a, vs, rfl, hs, rs⟩ := itemsS_sq st r hd
    have hl : vs.length = gs.length := by rw [← rs.length]; exact gTs_len hh
    rcases hs with hs | hs
    · exact .inr ⟨a, vs, rfl, hs, hl, h2 H m S e e' σ ds vs Q st sl rs hh q⟩
    · exact .inl ⟨a, vs, rfl, hs, hl, h2 H m S e e' σ ds vs Q st sl rs hh q⟩
  · cases hh
/-- the reading of a comprehension's turns -/
theorem lc_read {σ : L2.St} {H1 : Hp} {m1 : List Addr} {S1 : Sto} {e : Slots} {J : It} {it : MI} {gg : TG} {g : MG} {t : MT} {f : ME} {vs is : List Nat} {Q : VK} {K : PySem.W.Frag} {mg : Str → Option Value}
    (hg2 : ∀ (H : Hp) (m : List Addr) (S : Sto) (e e' : Slots) (σ : L2.St) (d : D) (v : V) (Q : L2.St → Hp → Prop), Stt K mg H m S → Sl K mg H m e σ → Rp K mg H m d v → g d e S = some e' → (∀ σ', Sl K mg H m e' σ' → Only is σ σ' → Q σ' H) → gg v σ H Q)
    (his : ∀ i ∈ is, i ∈ vs) (ag : Agr K mg H1 m1 J it) (st1 : Stt K mg H1 m1 S1) (sl : Sl K mg H1 m1 e σ)
    (q : okR K mg H1 m1 σ W (RpR K mg) Q (lcEnd (lcF it g t f (wipeM e vs) big 0 S1 []))) : ∀ D, H1 D = none → ∃ W : Nat → Nat → Hp → Prop, (∃ m, W 0 m (upd H1 D (.lst []))) ∧ ∀ i m H, W i m H →
      (J.stop i H ∧ Q (.ref D) H) ∨ (J.go i H ∧ ∃ Nx : Hp → Prop, (∀ H', Nx H' → ∃ m', m' < m ∧ W (i + 1) m' H') ∧ ∀ x H', J.yld i H x H' → gg x (L2.wipe σ vs) H' fun σ2 H2 => L2.wipe σ2 vs = L2.wipe σ vs ∧ tT K mg W0 t σ2 H2 fun b H3 =>
        if b = true then tE K mg W0 f σ2 H3 fun y H4 => ∃ acc, H4 D = some (.lst acc) ∧ acc.length < sizeLine ∧ Nx (upd H4 D (.lst (acc ++ [y]))) else Nx H3) := by
  intro A hA
  have fin : ∀ {acc : List D} {S : Sto} {H : Hp} {m : List Addr} {us : List V}, okG (fun acc S => ∀ H m us, Gr H1 m1 H m → Stt K mg H m S → A ∉ m → H A = some (.lst us) → Rps K mg H m acc us → Q (.ref A) H) (.ok acc S : R (List D)) →
      Gr H1 m1 H m → Stt K mg H m S → A ∉ m → H A = some (.lst us) → Rps K mg H m acc us → Q (.ref A) H := fun q g st hn ha r => q _ _ _ g st hn ha r
  have q' : okG (fun acc S => ∀ H m us, Gr H1 m1 H m → Stt K mg H m S → A ∉ m → H A = some (.lst us) → Rps K mg H m acc us → Q (.ref A) H) (lcF it g t f (wipeM e vs) big 0 S1 []) := by
    cases hl : lcF it g t f (wipeM e vs) big 0 S1 [] with
    | ok acc S =>
      rw [hl] at q
      intro H m us gr st hn ha r
      obtain ⟨g2, st2⟩ := st.adopt (o := .lst acc) gr hA hn ⟨us, ha, r⟩
      exact q (.ref A) H (m ++ [A]) g2 st2 (.ref (by rw [← st.len]; simp))
    | exc c f d S => rw [hl] at q; exact q
    | no => rw [hl] at q; exact q
  refine ⟨fun i n H => ∃ m S acc us, Gr H1 m1 H m ∧ Stt K mg H m S ∧ A ∉ m ∧ H A = some (.lst us) ∧ Rps K mg H m acc us ∧ acc.length ≤ i ∧ i + n = big ∧ okG (fun acc S => ∀ H m us, Gr H1 m1 H m → Stt K mg H m S → A ∉ m → H A = some (.lst us) → Rps K mg H m acc us → Q (.ref A) H) (lcF it g t f (wipeM e vs) n i S acc), ⟨big, ?_⟩, ?_⟩
  · obtain ⟨g2, st2⟩ := st1.make (ho := .lst []) hA
    refine ⟨m1, S1, [], [], g2, st2, ?_, upd_same, .nil, Nat.zero_le _, by simp, q'⟩
    intro z
    obtain ⟨o, ho, _⟩ := st1.kind z
    rw [hA] at ho
    cases ho
  · rintro i n H ⟨m, S, acc, us, gr, st, hn, ha, ra, hla, hin, q⟩
    cases n with
    | zero => exact q.elim
    | succ n =>
      have a := ag i H m S (by have : big ≤ lim := by decide
                               omega) gr st
      unfold lcF at q
      cases hit : it i S with
      | none => rw [hit] at q; exact q.elim
      | some o =>
        rw [hit] at q a
        cases o with
        | none => exact .inl ⟨a, fin q gr st hn ha ra⟩
        | some d =>
          refine .inr ⟨a.1, _, fun _ h => h, fun x H' hy => ?_⟩
          obtain ⟨gr2, st2, r2⟩ := a.2 x H' hy
          have q : okG _ (match g d (wipeM e vs) S with
            | none => .no
            | some e2 => (t e2 S).bind fun b S => if b = true then (f e2 S).bind fun y S => lcF it g t f (wipeM e vs) n (i + 1) S (acc ++ [y]) else lcF it g t f (wipeM e vs) n (i + 1) S acc) := q
          cases hgd : g d (wipeM e vs) S with
          | none => rw [hgd] at q; exact q.elim
          | some e2 =>
            rw [hgd] at q
            have sl2 : Sl K mg H' m (wipeM e vs) (L2.wipe σ vs) := ((sl.mono st1 gr).mono st gr2).wipe vs
            refine hg2 H' m S (wipeM e vs) e2 (L2.wipe σ vs) d x _ st2 sl2 r2 hgd fun σ2 sl3 on => ⟨?_, ?_⟩
            · rw [wipe_only his on, wipe_wipe]
            · refine tM_bindG st2 sl3 q fun b S3 bv H3 m3 _ g3 st3 sl4 rb q3 => ?_
              cases rb
              cases b with
              | true =>
                rw [if_pos rfl]
                have q3 : okG _ ((f e2 S3).bind fun y S => lcF it g t f (wipeM e vs) n (i + 1) S (acc ++ [y])) := q3
                refine tM_bindG st3 sl4 q3 fun y S4 yv H4 m4 _ g4 st4 sl5 ry q4 => ?_
                have gA : Gr H m H4 m4 := (gr2.trans g3).trans g4
                have ha4 : H4 A = some (.lst us) := gA.kp ha hn
                have hn4 : A ∉ m4 := gA.not ha hn
                have hra : us.length = acc.length := ra.length.symm
                refine ⟨us, ha4, Nat.lt_of_lt_of_le (by omega : us.length < big) (by decide), ⟨n, Nat.lt_succ_self n, ?_⟩⟩
                exact ⟨m4, S4, acc ++ [y], us ++ [yv], (gr.trans gA).updAt hA, st4.updAt ha4 hn4 (fun _ z => by cases z) (fun _ _ z => by cases z) (fun _ z => by cases z) (fun _ z => by cases z), hn4, upd_same,
                  Rps.updAt ha4 (fun _ z => by cases z) (fun _ _ z => by cases z) _ _ ((Rps.mono st gA _ _ ra).append (.one ry)), by simp; omega, by omega, q4⟩
              | false =>
                rw [if_neg (by decide)]
                have q3 : okG _ (lcF it g t f (wipeM e vs) n (i + 1) S3 acc) := q3
                have gA : Gr H m H3 m3 := gr2.trans g3
                have hn3 : A ∉ m3 := gA.not ha hn
                exact ⟨n, Nat.lt_succ_self n, m3, S3, acc, us, gr.trans gA, st3, hn3, gA.kp ha hn, Rps.mono st gA _ _ ra, by omega, by omega, q3⟩
theorem ce_lc {elt tg iter : Expr} {ifs : List Expr} {scope : Scope} {own : List (Str × Nat)} {pos : Pos} {fi : Slots → Sto → R MI} {g : MG} {is : List Nat} {t : MT} {f : ME} (hc : X.calm = true) (hN : X.N.Nodup) (hi : CI X W tg iter fi) (ok : BlkOk X.N X.env.scope scope own)
    (hg : CGB X scope tg g is)
    (his : ∀ i ∈ is, i ∈ own.map (·.2))
    (ht : ∀ (s : Shared) (H : Hp) (C : Addr) (cl : List (Str × Addr)) (fp : List Addr), CTs (X.blk s H scope (compEnvC scope cl C X.env) fp) W0 ifs t)
    (he : ∀ (s : Shared) (H : Hp) (C : Addr) (cl : List (Str × Addr)) (fp : List Addr), CE (X.blk s H scope (compEnvC scope cl C X.env) fp) W0 elt f) (hs : ∀ x, foldedSetIterable iter X.env x = pure x := by intro _; rfl) :
    CE X W (.ListComp elt [⟨tg, iter, ifs, 0⟩] scope pos) (mLC fi g t f (own.map (·.2))) := by
  obtain ⟨wi, i1, i2⟩ := hi.run
  obtain ⟨gg, g1, g2⟩ := hg.run
  refine ⟨PEi (pe_lc (te := tE X.K X.mg W0 f) (tt := tT X.K X.mg W0 t) hc hN i1 ok g1 (fun s H C cl fp => (ht s H C cl fp).run) (fun s H C cl fp => (he s H C cl fp).run) hs) fun σ H Q ⟨m, e, S, st, sl, q⟩ => ?_⟩
  refine i2 σ H _ m e S st sl ?_
  unfold mLC at q
  cases hf : fi e S with
  | exc c f d S1 => rw [hf] at q; exact q
  | no => rw [hf] at q; exact q
  | ok it S1 =>
    rw [hf, R.bind_ok] at q
    intro J H1 m1 gr1 st1 ag
    exact lc_read g2 his ag st1 (sl.mono st gr1) (okR.mono q gr1)
/-- name = [..] on one line, the name a local -/
theorem cs_setLc (i : Nat) {y : Str} {py : Pos} {elt tg iter : Expr} {ifs : List Expr} {scope : Scope} {own : List (Str × Nat)} {pos spos : Pos} {fi : Slots → Sto → R MI} {g : MG} {is : List Nat} {t : MT} {f : ME} (hc : X.calm = true) (hN : X.N.Nodup) (hy : X.N[i]? = some y) (hyl : X.env.scope.names.lookup y = some .local)
    (hsw : swapsWith (.ListComp elt [⟨tg, iter, ifs, 0⟩] scope pos) (some (.Name y py)) spos.line X.env = pure true) (hi : CI X W tg iter fi) (ok : BlkOk X.N X.env.scope scope own)
    (hg : CGB X scope tg g is)
    (his : ∀ i ∈ is, i ∈ own.map (·.2))
    (ht : ∀ (s : Shared) (H : Hp) (C : Addr) (cl : List (Str × Addr)) (fp : List Addr), CTs (X.blk s H scope (compEnvC scope cl C X.env) fp) W0 ifs t)
    (he : ∀ (s : Shared) (H : Hp) (C : Addr) (cl : List (Str × Addr)) (fp : List Addr), CE (X.blk s H scope (compEnvC scope cl C X.env) fp) W0 elt f) (hs : ∀ x, foldedSetIterable iter X.env x = pure x := by intro _; rfl) :
    CS X W (.Assign [.Name y py] (.ListComp elt [⟨tg, iter, ifs, 0⟩] scope pos) spos) (mAsg (gN i) (mLC fi g t f (own.map (·.2)))) := by
  obtain ⟨wi, i1, i2⟩ := hi.run
  obtain ⟨gg, g1, g2⟩ := hg.run
  refine ⟨PSi (ps_setLc (te := tE X.K X.mg W0 f) (tt := tT X.K X.mg W0 t) hc hN hy hyl hsw i1 ok g1 (fun s H C cl fp => (ht s H C cl fp).run) (fun s H C cl fp => (he s H C cl fp).run) hs) fun E σ H ⟨m, e, S, st, sl, q⟩ => ?_⟩
  have q' : tE X.K X.mg W (mLC fi g t f (own.map (·.2))) σ H (fun x H1 => gName i x σ H1 E.nx) := by
    refine tS_bind st sl q fun d S1 v H1 m1 _ g1 st1 sl1 r1 q1 => ?_
    exact q1 _ H1 m1 (Gr.refl _ _) st1 (sl1.set i r1)
  obtain ⟨m, e, S, st, sl, q⟩ := q'
  refine i2 σ H _ m e S st sl ?_
  unfold mLC at q
  cases hf : fi e S with
  | exc c f d S1 => rw [hf] at q; exact q
  | no => rw [hf] at q; exact q
  | ok it S1 =>
    rw [hf, R.bind_ok] at q
    intro J H1 m1 gr1 st1 ag
    exact lc_read g2 his ag st1 (sl.mono st gr1) (okR.mono q gr1)
end
end Mi

set_option Elab.async false
set_option linter.all false
set_option maxRecDepth 100000
set_option maxHeartbeats 1000000
namespace Mi
open PySem PySem.Spec PyProof.Rows L2
variable [TabsOf]

/-! ### try: .. except A as e: .. except B as e: .. (several clauses, each with its name) -/
/-- the ends of a clause's suite: the name's slot i is forgotten -/
def forgets (i : Nat) (E : Ends) : Ends where
  nx := fun τ G => E.nx (τ.set i none) G
  rt := E.rt
  bk := fun τ G => E.bk (τ.set i none) G
  ct := fun τ G => E.ct (τ.set i none) G
abbrev Clause := Value × Nat × (Addr → Value → Option Addr → TS)
/-- what the clauses, one behind another, wish of an exception -/
def wishOf (K : PySem.W.Frag) (Wo : WX) (E : Ends) : List Clause → WX
  | [] => Wo
  | cl :: rest => fun kind dx τ G => ∃ hit, PySem.W.exmOne K kind cl.1 = some hit ∧ (hit = true → ∀ z, G z = none → cl.2.2 z kind dx (forgets cl.2.1 E) (τ.set cl.2.1 (some (.ref z))) G) ∧ (hit = false → wishOf K Wo E rest kind dx τ G)
inductive ClausesOk (X : Cx) : List ExceptHandler → List Clause → Prop
  | nil : ClausesOk X [] []
  | cons {x n : Str} {c : Value} {i : Nat} {ts : Addr → Value → Option Addr → TS} {first : Stmt} {more : List Stmt} {p1 p2 : Pos} {hs : List ExceptHandler} {cs : List Clause} (nm : Names X x c) (slot : X.N[i]? = some n) (kind : X.env.kindOf n = some .local)
      (suite : ∀ (z : Addr) (ob : Obj) (cls : Value) (dx : Option Addr) (pn : List (Addr × Obj)), Zc cls dx ob → (∃ vs, ob.data = .fields vs) → PSs (X.suite z ((z, ob) :: pn)) (first :: more) (ts z cls dx)) (tail : ClausesOk X hs cs) :
      ClausesOk X (.ExceptHandler (some (.Name x p1)) (some n) (first :: more) p2 :: hs) ((c, i, ts) :: cs)
section
variable {X : Cx} {body : List Stmt} {h0 : ExceptHandler} {hs : List ExceptHandler} {cs : List Clause} {pos : Pos} {tb : WX → TS} {Wo : WX}
theorem ps_try_clauses (hstk : X.stack = X.env :: X.outer) (hfrm : X.env.frame = some X.env.locals) (hN : X.N.Nodup) (tk : Takes X Wo)
    (hbody : ∀ (W : WX) (pn : List (Addr × Obj)) (xe : Value → Shared → Prop), Takes (X.tr pn xe) W → PassesOwn (model X.prog X.w) X.A X.env xe → PSs (X.tr pn xe) body (tb W))
    (hcl : ClausesOk X (h0 :: hs) cs) : PS X (.Try body (h0 :: hs) [] [] pos) (fun E τ G => tb (wishOf X.K Wo E cs) E τ G) := by
  refine ⟨fun pins s τ G E I hread => ?_⟩
  have okX := I.ok
  have frames : X.A.frames = some (X.env :: X.outer) := by rw [okX.frames, hstk]
  refine wpAny_Try_except ?_
  have bodyRun := hbody (wishOf X.K Wo E cs) (X.pn ++ pins) (fun u s1 => wpAny (model X.prog X.w) X.A (noteFrame u X.env) (fun _ s2 => wpAny (model X.prog X.w) X.A (setFlight u none) (fun _ s3 =>
    wpAny (model X.prog X.w) X.A (handleBy u X.env (h0 :: hs)) (SP X pins E) X.xe s3) X.xe s2) X.xe s1)
  refine wpAny_mono ((bodyRun (fun u s' caught => ?_) PassesOwn.looking).run [] s τ G E (I.toTry _) hread) (fun fl s1 hend => ?_) (fun u s1 hu => hu)
  · obtain ⟨z, B, sI, pins', τ', G', kind, dx, rfl, J', nb, up, sky, free, os, bare, wish⟩ := caught
    have J : Inv X pins τ' G' sI := J'.ofTry okX
    have sky2 : Sky B (X.env :: X.outer) z (Zc kind dx) X.env.locals s'.heap := by rw [← hstk]; exact sky
    show wpAny (model X.prog X.w) X.A (noteFrame (.ref z) X.env) _ _ _
    refine Sky.land Zc.steady frames hfrm sky2 fun g3 fly3 upto3 => ?_
    have J3 : Inv X pins τ' G' { s' with heap := g3 } := J.landed nb fly3.1 (up.trans upto3) os bare
    obtain ⟨ob3, vs3, at3, zc3, dat3⟩ := fly3.there
    have noFrame : z ∉ frs (X.env :: X.outer) := fun hm => by
      obtain ⟨_, o', e', hnf⟩ := fly3.2.2.1.mem hm
      rw [at3] at e'
      cases e'
      exact hnf _ dat3
    have zL : z ≠ X.env.locals := fun w => noFrame (List.mem_filterMap.mpr ⟨X.env, List.mem_cons_self, by rw [hfrm, w]⟩)
    have zF : z ∉ X.fs := fun hm => by
      obtain ⟨en, he, q⟩ := List.mem_filterMap.mp hm
      exact noFrame (List.mem_filterMap.mpr ⟨en, List.mem_cons_of_mem _ he, q⟩)
    have S3 := J3.suite at3 dat3 free zL zF
    have along : ∀ {hs' : List ExceptHandler} {cs' : List Clause}, ClausesOk X hs' cs' → wishOf X.K Wo E cs' kind dx τ' G' →
        wpAny (model X.prog X.w) X.A (handleBy (.ref z) X.env hs') (SP X pins E) X.xe { s' with heap := g3 } := by
      intro hs' cs' ok'
      induction ok' with
      | nil =>
        intro wish
        refine wpAny_handleBy_nil ?_
        obtain ⟨_, _, _, ob, vs, tr, ot, ts', a1, _, a2, a3, _⟩ := id fly3
        unfold PySem.passOn
        refine wpAny_bind (wpAny_field a1 a2 a3 ?_)
        rw [if_neg (show ¬ ((Value.ref tr == Value.none) = true) from by simp)]
        have out : wpAny (model X.prog X.w) X.A (setFlight (.ref z) X.env.frame) (fun _ s4 => wpAny (model X.prog X.w) X.A (throw (.ref z) : Sem Flow) (SP X pins E) X.xe s4) X.xe { s' with heap := g3 } := by
          rw [hfrm]
          refine HandSPX.setFlight_upZ fly3 fun g4 held4 upto4 => wpAny_throw (tk _ _ ?_)
          exact ⟨z, B, sI, pins, τ', G', kind, dx, rfl, J, nb, (up.trans upto3).trans upto4, .inr (.inr (by rw [hstk]; exact held4)), free, os, bare, wish⟩
        first
          | exact wpAny_bind (wpAny_pure (wpAny_bind out))
          | exact wpAny_bind out
      | @cons x n c i ts first more p1 p2 hs2 cs2 nm slot kd suite tail ih =>
        intro wish
        obtain ⟨hit, hexm, hyes, hno⟩ := wish
        refine wpAny_handleBy_cons (codeAny_handlers_test ?_) (by intro w; cases w)
        have lookT : PySem.W.Looks (model X.prog X.w) g3 (typeOf (.ref z)) kind := fun A Q E' s k q => wpAny_typeOf_ref (k _ _ at3) (by rw [zc3.1]; exact q)
        have lookM := PySem.W.exm_one (M := model X.prog X.w) (J3.kIn) lookT hexm
        have clsOf : ∀ {Q : Value → Shared → Prop} {E' : Value → Shared → Prop}, Q c { s' with heap := g3 } → wpAny (model X.prog X.w) (X.A.mark (some (.ref z))) (eval (.Name x p1) X.env) Q E' { s' with heap := g3 } := fun {Q E'} q => by
          obtain ⟨hg, hdbg, hm | ⟨hm, hv, hnn⟩⟩ := nm
          · exact ld_glob (X := X.suite z ((z, ob3) :: (X.pn ++ pins))) S3 hg hm q hdbg
          · exact ld_blt (X := X.suite z ((z, ob3) :: (X.pn ++ pins))) S3 hg hm hv q hnn hdbg
        refine clsOf (lookM.here ?_)
        cases hit with
        | false =>
          show wpAny _ X.A (handleBy (.ref z) X.env hs2) _ _ _
          exact ih (hno rfl)
        | true =>
          refine codeAny_handlers_suite_as ?_
          refine HandSPX.lands_againZ fly3 fun g4 fly4 upto4 => ?_
          have J4 : Inv X pins τ' G' { s' with heap := g4 } := J.landed nb fly4.1 ((up.trans upto3).trans upto4) os bare
          obtain ⟨ob4, vs4, at4, zc4, dat4⟩ := fly4.there
          have S4 := J4.suite at4 dat4 free zL zF
          refine store_ok (X := X.suite z ((z, ob4) :: (X.pn ++ pins))) (v := .ref z) S4 hN slot (.inl kd) rfl (fun s5 S5 => ?_) (.inr kd)
          refine wpAny_mono ((suite z ob4 kind dx (X.pn ++ pins) zc4 ⟨_, dat4⟩).run [] s5 _ G' _ S5 (hyes rfl z free)) (fun fl s6 hsuite => ?_) (fun _ _ w => False.elim w)
          have behind : ∀ {τ6 : L2.St} {G6 : Hp} {Q : Shared → Prop}, Inv (X.suite z ((z, ob4) :: (X.pn ++ pins))) [] τ6 G6 s6 → (∀ s7, Inv X pins (τ6.set i none) G6 s7 → Q s7) →
              wpAny (model X.prog X.w) X.A (do bindName X.env n .none; unbindBehindTheSuite X.env n p2) (fun _ s7 => Q s7) X.xe s6 := fun {τ6 G6 Q} S6 hq => gone_ok (S6.unsuite okX) hN slot kd hq
          cases fl with
          | next =>
            obtain ⟨τ6, G6, S6, q6⟩ := hsuite
            exact behind S6 fun s7 J7 => ⟨_, _, J7, q6⟩
          | brk =>
            obtain ⟨τ6, G6, S6, q6⟩ := hsuite
            exact behind S6 fun s7 J7 => ⟨_, _, J7, q6⟩
          | cont =>
            obtain ⟨τ6, G6, S6, q6⟩ := hsuite
            exact behind S6 fun s7 J7 => ⟨_, _, J7, q6⟩
          | ret u =>
            obtain ⟨v6, τ6, G6, S6, r6, q6⟩ := hsuite
            exact behind S6 fun s7 J7 => ⟨_, _, _, J7, r6, q6⟩
    exact along hcl wish
  · cases fl with
    | next =>
      obtain ⟨τ', G', J', q⟩ := hend
      exact wpAny_execs_nil ⟨τ', G', J'.ofTry okX, q⟩
    | brk =>
      obtain ⟨τ', G', J', q⟩ := hend
      exact ⟨τ', G', J'.ofTry okX, q⟩
    | cont =>
      obtain ⟨τ', G', J', q⟩ := hend
      exact ⟨τ', G', J'.ofTry okX, q⟩
    | ret u =>
      obtain ⟨v, τ', G', J', r, q⟩ := hend
      exact ⟨v, τ', G', J'.ofTry okX, r, q⟩
end

/-! ### own exceptions: class C(FaceError): def __init__(self, f): self.f = f -/
def spExc (C : Addr) (fld : Str) : Sp := fun vs H Q _ => ∃ (a : Addr) (v : V), vs = [.ref a, v] ∧ H a = some (exo a C none) ∧ ∀ dx, H dx = none → dx ≠ a → Q .non (upd (upd H dx (exd dx [(fld, v)])) a (exo a C (some dx)))
theorem exc_init {P : Program} {w : World} {K : PySem.W.Frag} {mg : Str → Option Value} {base : Heap} {qual : Str} {st : Stmt} {f C : Addr} {fd : FuncData} {x y fld : Str} {p1 p2 p3 p4 : Pos} (F : Fun K "__init__" qual st f fd) (S : FnScope [x, y] [x, y] (defScope st))
    (hb : defBody st = [.Assign [.Attribute (.Name x p1) fld p2] (.Name y p3) p4]) (T : OexC K C) (hno : PySem.W.findIn K (.ref C) fld = some none)
    (hd1 : (x == ("__debug__" : Str)) = false) (hc1 : (x == ("__classdict__" : Str)) = false) (hd2 : (y == ("__debug__" : Str)) = false) (hc2 : (y == ("__classdict__" : Str)) = false) : FnOk P w K mg base (L2.CX P w) 1 f fd [x, y] (spExc C fld) := by
  refine Fun.okX F S (fun vs H Q E h => ?_) fun cdv A outer s H vs Q E hr h => ?_
  · obtain ⟨a, v, rfl, _⟩ := h
    rfl
  · obtain ⟨a, v, rfl, ha, k⟩ := h
    rw [hb]
    have vx : Vis (defScope st) x := (S.par x List.mem_cons_self).imp id .inl
    have vy : Vis (defScope st) y := (S.par y (List.mem_cons_of_mem _ List.mem_cons_self)).imp id .inl
    refine ⟨_, pss_one (ps_ost (pe_var (i := 0) rfl vx hd1 hc1) (pe_var (i := 1) rfl vy hd2 hc2)), ?_⟩
    refine ⟨v, rfl, .ref a, rfl, a, C, rfl, T, hno, .inl ⟨ha, fun dx h1 h2 => k dx h1 h2⟩⟩
structure ExcF (P : Program) (w : World) (K : PySem.W.Frag) (mg : Str → Option Value) (base : Heap) (x fld : Str) : Prop where
  ex : ∃ (C fI : Addr) (fd : FuncData) (a b : Str), mg x = some (.ref C) ∧ OexC K C ∧ PySem.W.findIn K (.ref C) "__init__" = some (some (.ref fI)) ∧ PySem.W.typeIn K (.ref fI) = some (.type "function") ∧ FnOk P w K mg base (L2.CX P w) 1 fI fd [a, b] (spExc C fld) ∧ Binds K fd [a, b] [] ∧
    XfC K C ∧ PySem.W.findIn K (.ref C) fld = some none
def mRaise (c f : Str) (g : ME) : MS := fun e S => (g e S).thn e fun d S => .exc c f d e S
section
variable {X : Cx} {W : WX}
theorem cs_raise {x fld : Str} {ex : Expr} {g : ME} {p pos pos' : Pos} (F : ExcF X.prog X.w X.K X.mg X.base x fld) (hr : Room 2 X.A) (hc : X.calm = true) (tk : Takes X W) (hg : Gl X x) (ha : CE X W ex g) (hdb : (x == ("__debug__" : Str)) = false := by decide)
    (he : starEach (ex :: []) X.env = (false, eval ex X.env) :: starEach [] X.env := by rfl) (hpl : (backTo pos (starEach [] X.env)).any (·.1) = false := by rfl) : CS X W (.Raise (some (.Call (.Name x p) [ex] [] pos)) none pos') (mRaise x fld g) := by
  obtain ⟨C, fI, fd, a, b, hm, T, iC, tI, F1, hb, _⟩ := F.ex
  refine ⟨PSi (ps_raise hc tk (pmk_oex T iC tI F1 hr hb .nil passL hg hm (pa_cons ha.run pa_nil he) hdb he hpl)) fun E σ H ⟨m, e, S, st, sl, q⟩ => ?_⟩
  refine tS_bind st sl q fun d S1 v H1 m1 _ g1 st1 sl1 r1 q1 => ?_
  refine ⟨by show 1 ≤ 1000; decide, fun z hz => ⟨z, v, rfl, upd_same, fun dx hdx hne => ⟨rfl, dx, [(fld, v)], upd_same, ?_, ?_, ?_⟩⟩⟩
  · rw [upd_ne hne, upd_same]
  · rw [upd_ne hne] at hdx
    exact hdx
  · have h1dx : H1 dx = none := by rw [upd_ne hne] at hdx; exact hdx
    have e1 : upd (del (upd (upd (upd H1 z (exo z C none)) dx (exd dx [(fld, v)])) z (exo z C (some dx))) z) dx (.xd [(fld, v)]) = upd H1 dx (.xd [(fld, v)]) := by
      funext b
      by_cases hbd : b = dx
      · rw [hbd, upd_same, upd_same]
      · rw [upd_ne hbd, upd_ne hbd]
        by_cases hbz : b = z
        · rw [hbz, del_same, hz]
        · rw [del_ne hbz, upd_ne hbz, upd_ne hbd, upd_ne hbz]
    rw [e1]
    obtain ⟨g2, st2⟩ := st1.make (ho := .xd [(fld, v)]) h1dx
    exact q1 C dx v σ _ m1 g2 st2 (sl1.mono st1 g2) hm upd_same (Rp.mono st1 g2 _ _ r1)
end

/-! ### try: .. except C as e: return .. -/
abbrev HF := Str → D → Sto → R D
inductive HdMs (X : Cx) (excs : List Str) : List ExceptHandler → List Clause → List (Str × Nat × HF) → Prop
  | nil : HdMs X excs [] [] []
  | cons {x n : Str} {C : Addr} {i : Nat} {ts : Addr → Value → Option Addr → TS} {first : Stmt} {more : List Stmt} {p1 p2 : Pos} {hs : List ExceptHandler} {cs : List Clause} {h : HF} {hf : List (Str × Nat × HF)} (nm : Names X x (.ref C)) (hm : X.mg x = some (.ref C)) (slot : X.N[i]? = some n) (kind : X.env.kindOf n = some .local)
      (suite : ∀ (z : Addr) (ob : Obj) (cls : Value) (dx : Option Addr) (pn : List (Addr × Obj)), Zc cls dx ob → (∃ vs, ob.data = .fields vs) → PSs (X.suite z ((z, ob) :: pn)) (first :: more) (ts z cls dx))
      (exm : ∀ c ∈ excs, ∀ ca, X.mg c = some (.ref ca) → PySem.W.exmOne X.K (.ref ca) (.ref C) = some (decide (c = x)))
      (sem : ∀ (z dx : Addr) (v : V) (f : Str) (d : D) (H : Hp) (m : List Addr) (S : Sto) (σ : L2.St) (E : Ends), Stt X.K X.mg H m S → i < σ.length → H dx = some (.xd [(f, v)]) → Rp X.K X.mg H m d v → okR X.K X.mg H m σ W0 (RpR X.K X.mg) E.rt (h f d S) → ts z (.ref C) (some dx) (forgets i E) (σ.set i (some (.ref z))) H)
      (tail : HdMs X excs hs cs hf) : HdMs X excs (.ExceptHandler (some (.Name x p1)) (some n) (first :: more) p2 :: hs) ((.ref C, i, ts) :: cs) ((x, i, h) :: hf)
theorem HdMs.clauses {X : Cx} {excs : List Str} {hs : List ExceptHandler} {cs : List Clause} {hf : List (Str × Nat × HF)} (h : HdMs X excs hs cs hf) : ClausesOk X hs cs := by
  induction h with
  | nil => exact .nil
  | cons nm hm slot kind suite exm sem tail ih => exact .cons nm slot kind suite ih
def hdl (f : Str) (d : D) (e : Slots) (S : Sto) (c : Str) : List (Str × Nat × HF) → RS
  | [] => .exc c f d e S
  | (x, i, h) :: r => if c = x then (if i < e.length then (match h f d S with
    | .ok v S => .go (.rt v) e S
    | _ => .no) else .no) else hdl f d e S c r
def mTry (excs : List Str) (b : MS) (hf : List (Str × Nat × HF)) : MS := fun e S => match b e S with
  | .exc c f d e S => if c ∈ excs then hdl f d e S c hf else .no
  | r => r
section
variable {X : Cx} {W : WX}
theorem hdl_wish {excs : List Str} {hs : List ExceptHandler} {cs : List Clause} {hf : List (Str × Nat × HF)} (hh : HdMs X excs hs cs hf) {c f : Str} {d : D} {e : Slots} {S : Sto} {E : Ends} {ca dx : Addr} {v : V} {σ : L2.St} {H : Hp} {m : List Addr} (hc : c ∈ excs)
    (st : Stt X.K X.mg H m S) (sl : Sl X.K X.mg H m e σ) (hca : X.mg c = some (.ref ca)) (hdx : H dx = some (.xd [(f, v)])) (r : Rp X.K X.mg H m d v) (q : okS X.K X.mg H m W E (hdl f d e S c hf)) : wishOf X.K W E cs (.ref ca) (some dx) σ H := by
  induction hh with
  | nil => exact q ca dx v σ H m (Gr.refl _ _) st sl hca hdx r
  | @cons x n C i ts first more p1 p2 hs cs h hf nm hm slot kind suite exm sem tail ih =>
    refine ⟨_, exm c hc ca hca, fun hit z hz => ?_, fun hno => ?_⟩
    · have hcx : c = x := of_decide_eq_true hit
      subst hcx
      rw [hm] at hca
      cases hca
      unfold hdl at q
      rw [if_pos rfl] at q
      by_cases hi : i < e.length
      · rw [if_pos hi] at q
        refine sem z dx v f d H m S σ E st (by rw [← sl.len]; exact hi) hdx r ?_
        cases hh : h f d S with
        | ok v2 S2 => rw [hh] at q; exact fun u H2 m2 g2 s2 r2 => q u H2 m2 g2 s2 r2
        | exc c f d S2 => rw [hh] at q; exact q.elim
        | no => rw [hh] at q; exact q.elim
      · rw [if_neg hi] at q
        exact q.elim
    · have hcx : ¬ c = x := of_decide_eq_false hno
      unfold hdl at q
      rw [if_neg hcx] at q
      exact ih q
theorem cs_try {excs : List Str} {body : List Stmt} {h0 : ExceptHandler} {hs : List ExceptHandler} {cs : List Clause} {hf : List (Str × Nat × HF)} {b : MS} {pos : Pos} (hstk : X.stack = X.env :: X.outer) (hfrm : X.env.frame = some X.env.locals) (hN : X.N.Nodup) (tk : Takes X W)
    (hb : ∀ (W' : WX) (pn : List (Addr × Obj)) (xe : Value → Shared → Prop), Takes (X.tr pn xe) W' → PassesOwn (model X.prog X.w) X.A X.env xe → CSs (X.tr pn xe) W' body b) (hh : HdMs X excs (h0 :: hs) cs hf) : CS X W (.Try body (h0 :: hs) [] [] pos) (mTry excs b hf) := by
  refine ⟨PSi (ps_try_clauses (tb := fun W' => tS X.K X.mg W' b) hstk hfrm hN tk (fun W' pn xe tk' po => (hb W' pn xe tk' po).run) hh.clauses) fun E σ H ⟨m, e, S, st, sl, q⟩ => ?_⟩
  refine ⟨m, e, S, st, sl, ?_⟩
  unfold mTry at q
  cases hbe : b e S with
  | go fl e1 S1 =>
    rw [hbe] at q
    cases fl with
    | nx => exact q
    | rt d => exact q
    | bk => exact q
    | ct => exact q
  | no => rw [hbe] at q; exact q
  | exc c f d e1 S1 =>
    rw [hbe] at q
    have q : okS X.K X.mg H m W E (if c ∈ excs then hdl f d e1 S1 c hf else .no) := q
    by_cases hc : c ∈ excs
    · rw [if_pos hc] at q
      intro ca dx v σ' H' m' g' st' sl' hca hdx r'
      exact hdl_wish hh hc st' sl' hca hdx r' (okS.mono q g')
    · rw [if_neg hc] at q
      exact q.elim
/-- return (S, e.f) -/
def hfPair (s : Str) (fld : Str) : HF := fun f d S => if f = fld then .ok (.tup [.str s, d]) S else .no
theorem hd_pair {excs : List Str} {x n fld s : Str} {C : Addr} {i k1 k2 : Nat} {p1 p2 q1 q2 q3 q4 q5 : Pos} {hs : List ExceptHandler} {cs : List Clause} {hf : List (Str × Nat × HF)} (F : ExcF X.prog X.w X.K X.mg X.base x fld) (hg : Gl X x) (hdx : (x == ("__debug__" : Str)) = false) (hm : X.mg x = some (.ref C)) (slot : X.N[i]? = some n) (kind : X.env.kindOf n = some .local)
    (hdn : (n == ("__debug__" : Str)) = false) (hcn : (n == ("__classdict__" : Str)) = false) (ts : txtOk s = true) (exm : ∀ c ∈ excs, ∀ ca, X.mg c = some (.ref ca) → PySem.W.exmOne X.K (.ref ca) (.ref C) = some (decide (c = x)))
    (tail : HdMs X excs hs cs hf) : ∃ cs', HdMs X excs (.ExceptHandler (some (.Name x p1)) (some n) [.Return (some (.Tuple [.Constant (.str s) k1 q1, .Attribute (.Name n q2) fld q3] k2 q4)) q5] p2 :: hs) cs' ((x, i, hfPair s fld) :: hf) := by
  obtain ⟨C', fI, fd, a, b, hm', T, iC, tI, F1, hb, xf, hno⟩ := F.ex
  rw [hm] at hm'
  cases hm'
  refine ⟨_, .cons ⟨hg, hdx, .inl hm⟩ hm slot kind (fun z ob cls dx pn hz hf => pss_one (ps_ret (pe_tup (pa_cons pe_str (pa_cons (pe_xf (a := z) (oe := ob) xf hno hz hf (pe_var (i := i) slot (.inl kind) hdn hcn)) pa_nil))))) exm ?_ tail⟩
  intro z dx v f d H m S σ E st hi hxd r q
  unfold hfPair at q
  by_cases hff : f = fld
  · rw [if_pos hff] at q
    subst hff
    have e1 : (σ.set i (some (V.ref z)))[i]? = some (some (V.ref z)) := by rw [List.getElem?_set, if_pos rfl, if_pos hi]
    refine ⟨.ref z, e1, rfl, rfl, dx, [(f, v)], v, rfl, hxd, by simp [List.lookup], ⟨by show 2 ≤ sizeLine; decide, fun p hp => ?_⟩⟩
    exact st.newT hp (.two (.str _ ts) r) q
  · rw [if_neg hff] at q
    exact q.elim
end
end Mi

set_option Elab.async false
set_option linter.all false
set_option maxRecDepth 100000
set_option maxHeartbeats 1000000
namespace Mi
open PySem PySem.Spec PyProof.Rows L2
variable [TabsOf]

section
variable {X : Cx} {W : WX}
theorem cm_all (hc : X.calm = true) : CallM X (.builtin "all") allD := by
  refine ⟨_, cr_all hc, fun H m S vs ds σ W Q st r q => ?_⟩
  unfold allD at q
  split at q
  · split at q
    · rename_i bs hb
      obtain ⟨ds, h1, h2⟩ := Option.bind_eq_some_iff.mp hb
      cases r with
      | cons r1 rn =>
        cases rn
        obtain ⟨a, us, rfl, s1, s2⟩ := itemsL_sq st r1 h1
        exact ⟨a, bs, rfl, by rw [← blsD_v s2 h2]; exact s1, okR.here q st (.bl _)⟩
    · exact q.elim
  · exact q.elim
theorem cm_sum (hc : X.calm = true) : CallM X (.builtin "sum") sumD := by
  refine ⟨_, cr_sum hc, fun H m S vs ds σ W Q st r q => ?_⟩
  unfold sumD at q
  split at q
  · split at q
    · rename_i bs hb
      obtain ⟨ds, h1, h2⟩ := Option.bind_eq_some_iff.mp hb
      cases r with
      | cons r1 rn =>
        cases rn
        obtain ⟨a, us, rfl, s1, s2⟩ := itemsL_sq st r1 h1
        exact ⟨a, bs, rfl, by rw [← intsD_v s2 h2]; exact s1, okR.here q st (.int _)⟩
    · exact q.elim
  · exact q.elim

/-! ### isinstance of built-in classes -/
/-- the type's name of a value -/
def tyN (S : Sto) : D → Option String
  | .non => some "NoneType"
  | .bl _ => some "bool"
  | .int _ => some "int"
  | .str _ => some "str"
  | .tup _ => some "tuple"
  | .seq _ => some "list"
  | .ref j => match S[j]? with
    | some (.lst _) => some "list"
    | some (.dK _) | some (.dT _) | some (.lK _) => some "dict"
    | _ => none
  | _ => none
/-- a subclass, of the names that matter -/
def subN (a b : String) : Option Bool :=
  if ["NoneType", "bool", "int", "str", "tuple", "list", "dict"].contains a && ["bool", "int", "str", "tuple", "list", "dict"].contains b then some (a == b || (a == "bool" && b == "int")) else none
theorem subN_kit {a b : String} {r : Bool} (h : subN a b = some r) : L2.kitB a b = some r := by
  unfold subN at h
  split at h
  · rename_i hc
    rw [Bool.and_eq_true] at hc
    have ha := List.contains_iff_mem.mp hc.1
    have hb := List.contains_iff_mem.mp hc.2
    have key : ∀ a ∈ ["NoneType", "bool", "int", "str", "tuple", "list", "dict"], ∀ b ∈ ["bool", "int", "str", "tuple", "list", "dict"], L2.kitB a b = some (a == b || (a == "bool" && b == "int")) := by decide +kernel
    rw [key a ha b hb]
    exact h
  · cases h
theorem tyN_x {H : Hp} {m : List Addr} {S : Sto} {d : D} {v : V} {n : String} (st : Stt X.K X.mg H m S) (r : Rp X.K X.mg H m d v) (h : tyN S d = some n) : TyX X.K H v (.type n) := by
  unfold tyN at h
  split at h
  · cases r; cases h; exact .base .non
  · cases r; cases h; exact .base (.bl _)
  · cases r; cases h; exact .base (.int _)
  · cases r; cases h; exact .base (.str _)
  · cases h
    cases r with
    | tup h1 h2 => exact .base (.tup h1)
  · cases h
    cases r with
    | seq h1 h2 => exact .base (.frz h1)
    | seqK h1 h2 =>
      rcases h1 (fun _ => none) with (z | ⟨o, z⟩) | ⟨o, its, n, hk, hc, _⟩
      · cases z
      · cases z
      · exact .kList hk hc
  · cases r with
    | ref hj =>
      split at h
      · rename_i hs
        cases h
        obtain ⟨vs, q1, _⟩ := st.obj _ _ _ hs hj
        exact .base (.lst q1)
      · rename_i hs
        cases h
        obtain ⟨vs, q1, _⟩ := st.obj _ _ _ hs hj
        exact .base (.dK q1)
      · rename_i hs
        cases h
        obtain ⟨vs, q1, _⟩ := st.obj _ _ _ hs hj
        exact .base (.dT q1)
      · rename_i hs
        cases h
        obtain ⟨o, vs, q1, _⟩ := st.obj _ _ _ hs hj
        exact .fDict q1
      · cases h
  · cases h
def btys : List D → Option (List String)
  | [] => some []
  | .bty n :: r => (btys r).map (n :: ·)
  | _ => none
def anyN (a : String) : List String → Option Bool
  | [] => some false
  | b :: r => match subN a b with
    | some true => some true
    | some false => anyN a r
    | none => none
def isiD : List D → Sto → R D
  | [x, .bty n], S => match (tyN S x).bind fun a => subN a n with
    | some b => .ok (.bl b) S
    | none => .no
  | [x, .tup cs], S => match (tyN S x).bind fun a => (btys cs).bind fun ns => anyN a ns with
    | some b => .ok (.bl b) S
    | none => .no
  | _, _ => .no
theorem btys_v {H : Hp} {m : List Addr} : ∀ {ds : List D} {vs : List V} {ns : List String}, Rps X.K X.mg H m ds vs → btys ds = some ns → Paired ClsV vs (ns.map Value.type)
  | [], _, _, h, e => by cases h; cases e; exact .nil
  | d :: ds, _, ns, h, e => by
    cases h with
    | cons h1 h2 =>
      unfold btys at e
      split at e
      · rename_i z; cases z
      · rename_i n r z
        cases z
        obtain ⟨ns', e1, rfl⟩ := Option.map_eq_some_iff.mp e
        cases h1
        exact .cons (.ty n) (btys_v h2 e1)
      · cases e
theorem anyN_kit {K : PySem.W.Frag} {a : String} : ∀ {ns : List String} {b : Bool}, anyN a ns = some b → PySem.W.kitAny K (.type a) (ns.map Value.type) = some b
  | [], _, h => by cases h; rfl
  | n :: ns, b, h => by
    unfold anyN at h
    split at h
    · rename_i hs
      cases h
      exact kitAny_cons (kit_ty (subN_kit hs)) (fun z => by cases z) (fun _ => rfl)
    · rename_i hs
      exact kitAny_cons (kit_ty (subN_kit hs)) (fun _ => anyN_kit h) (fun z => by cases z)
    · cases h
theorem cm_isi : CallM X (.builtin "isinstance") isiD := by
  refine ⟨_, CallR.or call_isi call_isiT, fun H m S vs ds σ W Q st r q => ?_⟩
  unfold isiD at q
  split at q
  · split at q
    · rename_i b hb
      obtain ⟨a, h1, h2⟩ := Option.bind_eq_some_iff.mp hb
      cases r with
      | cons r1 rn =>
        cases rn with
        | cons r2 rn =>
          cases rn
          cases r2
          exact .inl ⟨_, _, _, _, b, rfl, .ty _, tyN_x st r1 h1, kit_ty (subN_kit h2), okR.here q st (.bl b)⟩
    · exact q.elim
  · split at q
    · rename_i b hb
      obtain ⟨a, h1, h2⟩ := Option.bind_eq_some_iff.mp hb
      obtain ⟨ns, h3, h4⟩ := Option.bind_eq_some_iff.mp h2
      cases r with
      | cons r1 rn =>
        cases rn with
        | cons r2 rn =>
          cases rn
          cases r2 with
          | tup p1 p2 => exact .inr ⟨_, _, _, _, _, b, rfl, p1, btys_v p2 h3, tyN_x st r1 h1, anyN_kit h4, okR.here q st (.bl b)⟩
    · exact q.elim
  · exact q.elim

/-! ### methods of built-in types -/
def isTy (T : String) (S : Sto) (d : D) : Bool := match d with
  | .str _ => T == "str"
  | .seq _ => T == "list"
  | .ref j => match S[j]? with
    | some (.lst _) => T == "list"
    | _ => false
  | _ => false
theorem isTy_v {T : String} {H : Hp} {m : List Addr} {S : Sto} {d : D} {v : V} (st : Stt X.K X.mg H m S) (r : Rp X.K X.mg H m d v) (h : isTy T S d = true) : tyV X.K T v H := by
  unfold isTy at h
  split at h
  · cases r; exact beq_iff_eq.mp h
  · have hT := beq_iff_eq.mp h
    cases r with
    | seq h1 h2 => exact .inl ⟨hT, _, .inl (.inr ⟨_, h1⟩)⟩
    | seqK h1 h2 => exact .inl ⟨hT, _, h1 _⟩
  · split at h
    · rename_i hs
      have hT := beq_iff_eq.mp h
      cases r with
      | ref hj =>
        obtain ⟨vs, q1, _⟩ := st.obj _ _ _ hs hj
        exact .inl ⟨hT, _, SqL.of q1⟩
    · cases h
  · cases h
def MethM (X : Cx) (id : String) (g : D → List D → Sto → R D) : Prop :=
  ∃ r : V → List V → Hp → VK → Prop, MtR X id r ∧ ∀ (H : Hp) (m : List Addr) (S : Sto) (x : V) (vs : List V) (d : D) (ds : List D) (σ : L2.St) (W : WX) (Q : VK), Stt X.K X.mg H m S → Rp X.K X.mg H m d x → Rps X.K X.mg H m ds vs → okR X.K X.mg H m σ W (RpR X.K X.mg) Q (g d ds S) → r x vs H Q
def mMeth (T : String) (g : D → List D → Sto → R D) (f : ME) (a : MA) : ME := fun e S => (f e S).bind fun o S => if isTy T S o = true then (a e S).bind fun ds S => g o ds S else .no
theorem ce_bm {T id : String} {name : Str} {o ex : Expr} {es : List Expr} {g : D → List D → Sto → R D} {f : ME} {a : MA} {apos cpos : Pos} (pa : PlainAttrs T) (slot : Slot T name id) (hty : typeOf (.builtin id) = pure (.type "method_descriptor")) (hm : MethM X id g) (ho : CE X W o f) (ha : CA X W (ex :: es) a)
    (hp : ∀ {r : V → List V → Hp → VK → Prop} {to : TE} {t : TA}, MtR X id r → PE X o to → PA X (ex :: es) t → PE X (.Call (.Attribute o name apos) (ex :: es) [] cpos) (tBM X.K T r to t) := by exact fun a b c => pe_bm ‹_› ‹_› ‹_› a b c) : CE X W (.Call (.Attribute o name apos) (ex :: es) [] cpos) (mMeth T g f a) := by
  obtain ⟨r, h1, h2⟩ := hm
  refine ⟨PEi (hp h1 ho.run ha.run) fun σ H Q ⟨m, e, S, st, sl, q⟩ => ?_⟩
  refine tM_bind st sl q fun d S1 v H1 m1 _ g1 st1 sl1 r1 q1 => ?_
  by_cases ht : isTy T S1 d = true
  · rw [if_pos ht] at q1
    refine ⟨isTy_v st1 r1 ht, ?_⟩
    refine tM_bind st1 sl1 q1 fun ds S2 vs H2 m2 _ g2 st2 sl2 r2 q2 => ?_
    exact h2 H2 m2 S2 v vs d ds σ W Q st2 (Rp.mono st1 g2 _ _ r1) r2 q2
  · rw [if_neg ht] at q1
    exact q1.elim
theorem ce_bm0 {T id : String} {name : Str} {o : Expr} {g : D → List D → Sto → R D} {f : ME} {apos cpos : Pos} (pa : PlainAttrs T) (slot : Slot T name id) (hty : typeOf (.builtin id) = pure (.type "method_descriptor")) (hm : MethM X id g) (ho : CE X W o f)
    (hbase : attributeBase o name X.env (eval o X.env) = eval o X.env := by rfl) (hline : (apos.endLine == cpos.line) = true := by rfl) : CE X W (.Call (.Attribute o name apos) [] [] cpos) (mMeth T g f mNil) := by
  obtain ⟨r, h1, h2⟩ := hm
  refine ⟨PEi (pe_bm0 pa slot hty h1 ho.run hbase hline) fun σ H Q ⟨m, e, S, st, sl, q⟩ => ?_⟩
  refine tM_bind st sl q fun d S1 v H1 m1 _ g1 st1 sl1 r1 q1 => ?_
  by_cases ht : isTy T S1 d = true
  · rw [if_pos ht] at q1
    exact ⟨isTy_v st1 r1 ht, h2 H1 m1 S1 v [] d [] σ W Q st1 r1 .nil q1⟩
  · rw [if_neg ht] at q1
    exact q1.elim
def appendD : D → List D → Sto → R D
  | .ref j, [d], S => match S[j]? with
    | some (.lst xs) => if xs.length < lim then .ok .non (S.set j (.lst (xs ++ [d]))) else .no
    | _ => .no
  | _, _, _ => .no
theorem Stt.putL {H : Hp} {m : List Addr} {S : Sto} {σ : L2.St} {W : WX} {Q : VK} {j : Nat} {p : Addr} {us vs : List V} {ds : List D} {K : PySem.W.Frag} {mg : Str → Option Value} {d : D} {v : V} (st : Stt K mg H m S) (hj : m[j]? = some p) (h : H p = some (.lst us)) (r : Rps K mg H m ds vs) (rv : Rp K mg H m d v)
    (q : okR K mg H m σ W (RpR K mg) Q (.ok d (S.set j (.lst ds)))) : Q v (upd H p (.lst vs)) := by
  have up : ∀ (d : D) (v : V), Rp K mg H m d v → Rp K mg (upd H p (.lst vs)) m d v := fun d v r => Rp.updAt h (fun _ z => by cases z) (fun _ _ z => by cases z) d v r
  obtain ⟨g2, st2⟩ := st.put (ho := .lst vs) (o := .lst ds) hj (fun o u z => by rw [h] at z; cases z) ⟨vs, upd_same, Rps.updAt h (fun _ z => by cases z) (fun _ _ z => by cases z) _ _ r⟩
  exact q _ _ _ g2 st2 (up _ _ rv)
theorem mm_append : MethM X "list.append" appendD := by
  refine ⟨_, mt_append, fun H m S x vs d ds σ W Q st rx rs q => ?_⟩
  unfold appendD at q
  split at q
  · split at q
    · rename_i hs
      split at q
      · rename_i hz
        cases rx with
        | ref hj =>
          cases rs with
          | cons r1 rn =>
            cases rn
            obtain ⟨us, q1, q2⟩ := st.obj _ _ _ hs hj
            exact ⟨_, us, _, rfl, rfl, q1, by rw [← q2.length]; exact Nat.lt_of_lt_of_le hz lim_le, st.putL hj q1 (q2.append (.one r1)) .non q⟩
      · exact q.elim
    · exact q.elim
  · exact q.elim
def extendD : D → List D → Sto → R D
  | .ref j, [.ref k], S => match S[j]?, S[k]? with
    | some (.lst xs), some (.lst ys) => if xs.length + ys.length ≤ lim then .ok .non (S.set j (.lst (xs ++ ys))) else .no
    | _, _ => .no
  | _, _, _ => .no
theorem mm_extend : MethM X "list.extend" extendD := by
  refine ⟨_, mt_extend, fun H m S x vs d ds σ W Q st rx rs q => ?_⟩
  unfold extendD at q
  split at q
  · split at q
    · rename_i xs ys hs hk
      split at q
      · rename_i hz
        cases rx with
        | ref hj =>
          cases rs with
          | cons r1 rn =>
            cases rn
            cases r1 with
            | ref hk1 =>
              obtain ⟨us, q1, q2⟩ := st.obj _ _ _ hs hj
              obtain ⟨ws, p1, p2⟩ := st.obj _ _ _ hk hk1
              exact ⟨_, _, us, ws, rfl, rfl, q1, p1, by rw [← q2.length, ← p2.length]; exact Nat.le_trans hz lim_le, st.putL hj q1 (q2.append p2) .non q⟩
      · exact q.elim
    · exact q.elim
  · exact q.elim
/-- xs.pop(i) -/
def popAtD : D → List D → Sto → R D
  | .ref j, [.int i], S => match S[j]? with
    | some (.lst xs) => match seqIndex? i xs.length with
      | some k => match xs[k]? with
        | some d => if -(2 ^ 63) ≤ i ∧ i < 2 ^ 63 then .ok d (S.set j (.lst (xs.eraseIdx k))) else .no
        | none => .no
      | none => .no
    | _ => .no
  | _, _, _ => .no
theorem mm_popAt : MethM X "list.pop" popAtD := by
  refine ⟨_, mt_popAt, fun H m S x vs d ds σ W Q st rx rs q => ?_⟩
  unfold popAtD at q
  split at q
  · split at q
    · rename_i hs
      split at q
      · rename_i k hk
        split at q
        · rename_i d0 hd
          split at q
          · rename_i hz
            cases rx with
            | ref hj =>
              cases rs with
              | cons r1 rn =>
                cases rn
                cases r1
                obtain ⟨us, q1, q2⟩ := st.obj _ _ _ hs hj
                obtain ⟨v, e1, r2⟩ := q2.get hd
                exact ⟨_, us, _, k, v, rfl, rfl, q1, hz.1, hz.2, by rw [← q2.length]; exact hk, e1, st.putL hj q1 (q2.eraseIdx k) r2 q⟩
          · exact q.elim
        · exact q.elim
      · exact q.elim
    · exact q.elim
  · exact q.elim
/-- s.split(t), t.join(xs), s.index(t) -/
def splitD : D → List D → Sto → R D
  | .str a, [.str b], S => if (b.length == 0) = false then .ok (.ref S.length) (S ++ [.lst ((Txt.split a b).map .str)]) else .no
  | _, _, _ => .no
end
end Mi

set_option Elab.async false
set_option linter.all false
set_option maxRecDepth 100000
set_option maxHeartbeats 1000000
namespace Mi
open PySem PySem.Spec PyProof.Rows L2
variable [TabsOf]

/-! ### enumerate of a text -/
def ItES (x : Str) : It :=
  ⟨fun i _ => i < x.cps.size, fun i G v G' => ∃ T c, v = .ref T ∧ G T = none ∧ G' = upd G T (.tup [.int (i : Nat), .str ⟨#[c]⟩]) ∧ x.cps[i]? = some c, fun i _ => i = x.cps.size⟩
theorem turn_enumStr {P : Program} {w : World} {K : PySem.W.Frag} {elts : List Expr} {kk : Nat} {tpos : Pos} (x : Str) (t : Tok) (e it : Addr) (hne : e ≠ it) :
    Turn P w K (.Tuple elts kk tpos) (ItES x) [e, it] e (fun i h => (∃ old, IsEnum h e it ((0 : Int) + (i : Int)) old) ∧ h.IsStrIter it (strIterType x) x t i) where
  mem := by simp
  obj := fun i h st b hb => by
    obtain ⟨⟨old, he⟩, ⟨o, ho, hc, hd⟩⟩ := st
    rcases (by simpa using hb : b = e ∨ b = it) with z | z
    · rw [z]; exact ⟨_, he, fun v q => nomatch q⟩
    · rw [z]; exact ⟨o, ho, fun v q => by rw [hd] at q; cases q⟩
  keep := fun i h h' st k => by
    obtain ⟨⟨old, he⟩, ⟨o, ho, hc, hd⟩⟩ := st
    exact ⟨⟨old, k e (by simp) _ he⟩, ⟨o, k it (by simp) o ho, hc, hd⟩⟩
  item := by
    intro X hP hw hK hc i pins s σ H E I hf st hg
    subst hP hw hK
    have W := WalksT.enumFrom (A := X.A) 0 (Draws.text (A := X.A.in1) (prog := X.prog) (w := X.w) (I.ok.hd hc) it x t) e hne (by simp [hne]) (by simp)
    refine W.item i s _ _ hg st fun T vals h' tk hP hT hIs hMid hk => ⟨_, rfl, ?_⟩
    refine W.go elts kk tpos i T { s with heap := h', toks := tk } _ _ hMid fun h'' hst hk2 => ?_
    obtain ⟨u, y, hy, rfl⟩ := hP
    obtain ⟨c, u2, hcx, rfl⟩ := hy
    have hTn : T ∉ [e, it] := W.apart i T h' hMid
    obtain ⟨ob, hob, hcls, nn, hdat⟩ := hIs
    have hT2 : h''.get? T = some ob := hk2 T ob hTn hob
    have new : ObjOk X.prog X.w (upd H T (.tup [.int (i : Nat), .str ⟨#[c]⟩])) h'' T (.tup [.int (i : Nat), .str ⟨#[c]⟩]) := by
      refine ⟨by show 2 ≤ sizeLine; decide, [.int ((0 : Int) + (i : Int)) u, .str ⟨#[c]⟩ u2], .cons ⟨u, by rw [Int.zero_add]⟩ (.cons ⟨u2, rfl⟩ .nil), ⟨ob, hT2, hcls, nn, hdat⟩⟩
    have I1 : Inv X pins σ (upd H T (.tup [.int (i : Nat), .str ⟨#[c]⟩])) { s with heap := h'', toks := tk } :=
      I.turnedNew (ch := [e, it]) (fun b ob hb q => hk2 b ob hb (hk b ob hb q)) hf hT new
    refine ⟨.ref T, _, I1, rfl, ⟨T, c, rfl, I.hok.fresh hT, rfl, hcx⟩, hst, fun b hb => ?_⟩
    rw [upd_ne (fun z => hTn (by rw [← z]; exact hb))]
    exact (hf b hb).1
  done := by
    intro X hP hw hK hc i pins s σ H E I hf st hg
    subst hP hw hK
    have hg : i = x.cps.size := hg
    subst hg
    obtain ⟨⟨old, he⟩, hit⟩ := st
    obtain ⟨f0, f1, f2, f3, f4, f5⟩ := hf it (by simp)
    exact wpAny_pyNext_enum_endD (Draws.text (A := X.A.in1) (prog := X.prog) (w := X.w) (I.ok.hd hc) it x t) he hit fun h' eb => ⟨rfl, I.turned (t' := s.toks) (fun b o hb q => eb b o hb q) f0 f1 f3 f4 f5⟩
  self := fun A i s Q E st h => let ⟨⟨_, he⟩, _⟩ := st; wpAny_pyIter_enum he h
def iEnumS (ta : TA) : TI := fun σ H R => ta σ H fun vs H1 => ∃ x, vs = [.str x] ∧ R (ItES x) H1
theorem pi_enumS {X : Cx} {e : Expr} {ta : TA} {p pos tpos : Pos} {elts : List Expr} {kk : Nat} (hg : Gl X "enumerate") (hm : X.mg "enumerate" = none) (ha : PA X [e] ta) (hs : starEach [e] X.env = [(false, eval e X.env)] := by rfl) :
    PI X (.Tuple elts kk tpos) (.Call (.Name "enumerate" p) [e] [] pos) (iEnumS ta) := by
  refine ⟨fun pins s σ H R I h => ?_⟩
  refine Call_ (ld_blt I hg hm boot_enumerate (PyProof.Rows.callWith_type1 (thn (ha.run pos pins s σ H _ I h) fun us s1 ⟨vs, H1, I1, r1, q1⟩ => ?_) hs rfl))
  obtain ⟨x, ex, q⟩ := q1
  subst ex
  cases r1 with
  | cons r rr =>
    cases rr
    obtain ⟨t, rfl⟩ := r
    refine call_enumerate_str (x := x) (t := t) fun h' he hit hsz hk => wpAny_pyIter_enum he ?_
    have I2 : Inv X pins σ H1 { s1 with heap := h' } := I1.kept (t' := s1.toks) hk
    refine ⟨s1.heap.objs.size + 1, [s1.heap.objs.size + 1, s1.heap.objs.size], _, _, H1, rfl, I2, turn_enumStr x t (s1.heap.objs.size + 1) s1.heap.objs.size (Nat.succ_ne_self _), ⟨⟨.none, by rw [show ((0 : Int) + ((0 : Nat) : Int)) = 0 from rfl]; exact he⟩, hit⟩, fun b hb => ?_, q⟩
    have e' : b = s1.heap.objs.size + 1 ∨ b = s1.heap.objs.size := by simpa using hb
    have hle : s1.heap.objs.size ≤ b := by
      rcases e' with z | z
      · rw [z]; exact Nat.le_add_right _ _
      · rw [z]; exact Nat.le_refl _
    exact I1.fpOk hle (I1.hok.fresh hle)
def enumSD (x : Str) : MI := fun i _ => if i < x.cps.size then some (some (.tup [.int (i : Nat), .str (sign1 (x.cps.toList.getD i 0))])) else if i = x.cps.size then some none else none
section
variable {K : PySem.W.Frag} {mg : Str → Option Value} {H : Hp} {m : List Addr} {S : Sto}
theorem agr_enumS {x : Str} (hx : txtOk x = true) : Agr K mg H m (ItES x) (enumSD x) := by
  intro i H1 m1 S1 _ g st1
  unfold enumSD
  by_cases hi : i < x.cps.size
  · rw [if_pos hi]
    have e1 : x.cps[i]? = some x.cps[i] := Array.getElem?_eq_getElem hi
    have e2 : x.cps.toList.getD i 0 = x.cps[i] := by simp [List.getD, hi]
    refine ⟨hi, fun v H' ⟨T, c, h1, h2, h3, h4⟩ => ?_⟩
    rw [e1] at h4
    cases h4
    subst h1 h3
    rw [e2]
    exact pair_new st1 h2 (.int _) (.str _ (sign1_ok hx (by simp)))
  · rw [if_neg hi]
    by_cases he : i = x.cps.size
    · rw [if_pos he]
      exact he
    · rw [if_neg he]
      trivial
/-- two tuples walked together -/
def zipTs : List D → List D → List D
  | d :: ds, e :: es => .tup [d, e] :: zipTs ds es
  | _, _ => []
theorem zipTs_get : ∀ (ds es : List D) (i : Nat), (zipTs ds es)[i]? = zipL ds es i
  | [], es, i => by simp [zipTs, zipL]
  | d :: ds, [], i => by
    unfold zipL
    simp [zipTs]
  | d :: ds, e :: es, 0 => rfl
  | d :: ds, e :: es, i + 1 => by
    have h := zipTs_get ds es i
    simp only [zipTs, List.getElem?_cons_succ]
    rw [h]
    rfl
theorem agr_zipT {ds es : List D} {vs us : List V} {a b : Addr} (ha : H a = some (.tup vs)) (hb : H b = some (.tup us)) (r1 : Rps K mg H m ds vs) (r2 : Rps K mg H m es us) (st : Stt K mg H m S) : Agr K mg H m (RZ.ItzT K a b) (itOf (zipTs ds es)) := by
  intro i H1 m1 S1 _ g st1
  have p1 := Rps.mono st g _ _ r1
  have p2 := Rps.mono st g _ _ r2
  have q1 : SqT K H1 a vs := SqT.of (g.kp ha (st.notIn ha rfl))
  have q2 : SqT K H1 b us := SqT.of (g.kp hb (st.notIn hb rfl))
  unfold itOf
  rw [zipTs_get]
  cases h : zipL ds es i with
  | none =>
    unfold zipL at h
    refine ⟨vs, us, q1, q2, ?_⟩
    rw [← p1.length, ← p2.length]
    split at h
    · cases h
    · rename_i hh
      by_cases z : ds.length ≤ i
      · exact .inl z
      · by_cases z2 : es.length ≤ i
        · exact .inr z2
        · exact (hh _ _ (List.getElem?_eq_getElem (Nat.lt_of_not_le z)) (List.getElem?_eq_getElem (Nat.lt_of_not_le z2))).elim
  | some d' =>
    unfold zipL at h
    split at h
    · rename_i d1 d2 e1 e2
      cases h
      obtain ⟨v1, f1, s1⟩ := p1.get e1
      obtain ⟨v2, f2, s2⟩ := p2.get e2
      refine ⟨⟨vs, us, v1, v2, q1, q2, f1, f2⟩, fun x H' ⟨T, y1, y2, h1, h2, h3, h4, h5⟩ => ?_⟩
      subst h1 h3
      have z := h4 vs q1
      rw [f1] at z
      cases z
      have z := h5 us q2
      rw [f2] at z
      cases z
      exact pair_new st1 h2 s1 s2
    · cases h
end
def enumAD : List D → Sto → R MI
  | [.str x], S => .ok (enumSD x) S
  | ds, S => enumD ds S
def zipAD : List D → Sto → R MI
  | [.tup ds, .tup es], S => .ok (itOf (zipTs ds es)) S
  | ds, S => zipD ds S
section
variable {X : Cx} {W : WX}
theorem chooseA {f : MA} {e : Slots} {S : Sto} (P : List D → Sto → Bool) : ∃ dc : Bool, ∀ d S1, f e S = .ok d S1 → P d S1 = dc := by
  cases hf : f e S with
  | ok d S1 =>
    refine ⟨P d S1, fun d' S1' e1 => ?_⟩
    cases e1
    rfl
  | exc c f d S => exact ⟨false, fun d' S1' e1 => by cases e1⟩
  | no => exact ⟨false, fun d' S1' e1 => by cases e1⟩
theorem ci_enumA {ex : Expr} {f : MA} {p pos tpos : Pos} {elts : List Expr} {kk : Nat} (hg : Gl X "enumerate") (hm : X.mg "enumerate" = none) (ha : CA X W [ex] f) (hs : starEach [ex] X.env = [(false, eval ex X.env)] := by rfl) : CI X W (.Tuple elts kk tpos) (.Call (.Name "enumerate" p) [ex] [] pos) (mItA enumAD f) := by
  refine ⟨_, PIor (pi_enum hg hm ha.run hs) (pi_enumS hg hm ha.run hs), fun σ H Q m e S st sl q => ?_⟩
  obtain ⟨dc, hdc⟩ := chooseA (f := f) (e := e) (S := S) fun d _ => match d with
    | [.str _] => true
    | _ => false
  cases dc with
  | true =>
    right
    refine tI_bind st sl q fun d S1 v H1 m1 e1 g1 st1 sl1 r1 q1 => ?_
    have z := hdc d S1 e1
    split at z
    · cases r1 with
      | cons ra rn =>
        cases rn
        cases ra with
        | str _ hx => exact ⟨_, rfl, q1 _ _ _ (Gr.refl _ _) st1 (agr_enumS hx)⟩
    · cases z
  | false =>
    left
    refine tI_bind st sl q fun d S1 v H1 m1 e1 g1 st1 sl1 r1 q1 => ?_
    have z := hdc d S1 e1
    unfold enumAD at q1
    split at q1
    · cases z
    · unfold enumD at q1
      split at q1
      · split at q1
        · rename_i hd
          cases r1 with
          | cons ra rn =>
            cases rn
            obtain ⟨a, vs, rfl, h1, h2⟩ := itemsL_sq st1 ra hd
            exact ⟨a, vs, rfl, h1, q1 _ _ _ (Gr.refl _ _) st1 (agr_enum ra st1)⟩
        · exact q1.elim
      · exact q1.elim
theorem ci_zipA {ex e2 : Expr} {f : MA} {p pos tpos : Pos} {elts : List Expr} {kk : Nat} (hg : Gl X "zip") (hm : X.mg "zip" = none) (ha : CA X W [ex, e2] f) (hs : starEach [ex, e2] X.env = (false, eval ex X.env) :: starEach [e2] X.env := by rfl) (hpl : (backTo pos (starEach [e2] X.env)).any (·.1) = false := by rfl) :
    CI X W (.Tuple elts kk tpos) (.Call (.Name "zip" p) [ex, e2] [] pos) (mItA zipAD f) := by
  refine ⟨_, RZ.pi_zipA hg hm ha.run hs hpl, fun σ H Q m e S st sl q => ?_⟩
  refine tI_bind st sl q fun d S1 v H1 m1 e1 g1 st1 sl1 r1 q1 => ?_
  unfold zipAD at q1
  split at q1
  · cases r1 with
    | cons ra rn =>
      cases rn with
      | cons rb rn =>
        cases rn
        cases ra with
        | tup p1 p2 =>
          cases rb with
          | tup k1 k2 => exact ⟨_, _, _, _, rfl, .inr ⟨SqT.of p1, SqT.of k1, q1 _ _ _ (Gr.refl _ _) st1 (agr_zipT p1 k1 p2 k2 st1)⟩⟩
  · unfold zipD at q1
    split at q1
    · split at q1
      · rename_i hd he
        cases r1 with
        | cons ra rn =>
          cases rn with
          | cons rb rn =>
            cases rn
            obtain ⟨a, vs, rfl, h1, h2⟩ := itemsL_sq st1 ra hd
            obtain ⟨b, us, rfl, k1, k2⟩ := itemsL_sq st1 rb he
            exact ⟨a, b, vs, us, rfl, .inl ⟨h1, k1, q1 _ _ _ (Gr.refl _ _) st1 (agr_zip ra rb st1)⟩⟩
      · exact q1.elim
    · exact q1.elim
end
end Mi

set_option Elab.async false
set_option linter.all false
set_option maxRecDepth 100000
set_option maxHeartbeats 1000000
namespace Mi
open PySem PySem.Spec PyProof.Rows L2
variable [TabsOf]

/-! ### list(text) -/
theorem cr_list_str {X : Cx} (hc : X.calm = true) : CallR X (.type "list") (fun xs H Q => ∃ x : Str, xs = [.str x] ∧ x.length ≤ sizeLine ∧ ∀ p, H p = none → Q (.ref p) (upd H p (.lst (x.cps.toList.map fun c => V.str ⟨#[c]⟩)))) := by
  intro pins s σ H xs us Q I r h
  obtain ⟨x, rfl, hz, q⟩ := h
  obtain ⟨u, rfl, t, rfl⟩ := vals1 r
  refine call_list_str (I.ok.hd hc) x t (fun h' tk acc c hk hS hacc => ?_) hz
  have new : ObjOk X.prog X.w (upd H s.heap.objs.size (.lst (x.cps.toList.map fun c => V.str ⟨#[c]⟩))) h' s.heap.objs.size (.lst (x.cps.toList.map fun c => V.str ⟨#[c]⟩)) := by
    refine ⟨by rw [List.length_map, Array.length_toList]; exact hz, acc.toList, c, vals_of_at ?_ fun j y w hy hw => ?_, by simpa using hS⟩
    · have := hacc.1
      simp [this]
    · rw [List.getElem?_map] at hy
      obtain ⟨cc, hc1, rfl⟩ := Option.map_eq_some_iff.mp hy
      have hw' : acc[j]? = some w := by rw [← Array.getElem?_toList]; exact hw
      obtain ⟨c2, u2, hx2, rfl⟩ := hacc.2 j w hw'
      have e2 : x.cps.toList[j]? = some c2 := by rw [Array.getElem?_toList]; exact hx2
      rw [e2] at hc1
      cases hc1
      exact ⟨u2, rfl⟩
  exact ⟨.ref s.heap.objs.size, _, I.laid (t' := tk) hk (Nat.le_refl _) new, rfl, q _ (I.hok.fresh (Nat.le_refl _))⟩
def listAD : List D → Sto → R D
  | [.str x], S => .ok (.ref S.length) (S ++ [.lst (x.cps.toList.map fun c => .str (sign1 c))])
  | ds, S => listD ds S
section
variable {X : Cx} {W : WX}
theorem signs_rps {K : PySem.W.Frag} {mg : Str → Option Value} {H : Hp} {m : List Addr} (l : List Nat) (h : ∀ c ∈ l, txtOk (sign1 c) = true) : Rps K mg H m (l.map fun c => D.str (sign1 c)) (l.map fun c => V.str ⟨#[c]⟩) := by
  induction l with
  | nil => exact .nil
  | cons c l ih => exact .cons (.str _ (h c List.mem_cons_self)) (ih fun c hc => h c (List.mem_cons_of_mem _ hc))
theorem cm_listA (hc : X.calm = true) : CallM X (.type "list") listAD := by
  obtain ⟨r, h1, h2⟩ := cm_list (X := X) hc
  refine ⟨_, CallR.or h1 (cr_list_str hc), fun H m S vs ds σ W Q st rs q => ?_⟩
  unfold listAD at q
  split at q
  · cases rs with
    | cons r1 rn =>
      cases rn
      cases r1 with
      | str _ hx => exact .inr ⟨_, rfl, txtOk_len hx, fun p hp => st.newL hp (signs_rps _ fun c hc => sign1_ok hx hc) q⟩
  · exact .inl (h2 H m S vs ds σ W Q st rs q)

/-! ### a dict that is locked while it is walked -/
def lockO : MO → Option MO
  | .dK kvs => some (.lK kvs)
  | .dT kvs => some (.lT kvs)
  | _ => none
def openO : MO → Option MO
  | .lK kvs => some (.dK kvs)
  | .lT kvs => some (.dT kvs)
  | _ => none
theorem Stt.lock {K : PySem.W.Frag} {mg : Str → Option Value} {H : Hp} {m : List Addr} {S : Sto} {j : Nat} {a : Addr} {o o' : MO} (st : Stt K mg H m S) (hj : m[j]? = some a) (hs : S[j]? = some o) (hl : lockO o = some o') :
    ∃ u, H a = some u ∧ Mut (some u) ∧ (∃ vs, u = .dK vs ∨ ∃ vs, u = .dT vs) ∧ ∀ od, Gr H m (upd H a (.frz od u)) m ∧ Stt K mg (upd H a (.frz od u)) m (S.set j o') := by
  unfold lockO at hl
  split at hl
  · cases hl
    obtain ⟨vs, q1, q2, q3⟩ := st.obj _ _ _ hs hj
    refine ⟨_, q1, True.intro, ⟨vs, .inl rfl⟩, fun od => ?_⟩
    exact st.put (ho := .frz od (.dK vs)) hj (fun o u z => by rw [q1] at z; cases z) ⟨od, vs, upd_same, Rpf.updAt q1 (fun _ z => by cases z) (fun _ _ z => by cases z) q2, q3⟩
  · cases hl
    obtain ⟨vs, q1, q2, q3⟩ := st.obj _ _ _ hs hj
    refine ⟨_, q1, True.intro, ⟨[], .inr ⟨vs, rfl⟩⟩, fun od => ?_⟩
    exact st.put (ho := .frz od (.dT vs)) hj (fun o u z => by rw [q1] at z; cases z) ⟨od, vs, upd_same, Rpf.updAt q1 (fun _ z => by cases z) (fun _ _ z => by cases z) q2, q3⟩
  · cases hl
/-- behind: what was locked stands open again -/
theorem Stt.unlock {K : PySem.W.Frag} {mg : Str → Option Value} {H H2 : Hp} {m m2 : List Addr} {S2 : Sto} {j : Nat} {a : Addr} {u : HO} {od : Obj} {o o' : MO} (hj : m[j]? = some a) (hu : H a = some u) (hd : ∃ vs, u = .dK vs ∨ ∃ vs, u = .dT vs) (g : Gr (upd H a (.frz od u)) m H2 m2) (st : Stt K mg H2 m2 S2) (hs : S2[j]? = some o) (ho : openO o = some o') :
    H2 a = some (.frz od u) ∧ Gr H m (upd H2 a u) m2 ∧ Stt K mg (upd H2 a u) m2 (S2.set j o') ∧ ∀ d v, Rp K mg H2 m2 d v → Rp K mg (upd H2 a u) m2 d v := by
  have h2 : H2 a = some (.frz od u) := g.frz _ _ _ upd_same
  have hj2 := g.get hj
  have nl : ∀ ob xs, HO.frz od u ≠ .frz ob (.lst xs) := fun ob xs z => by
    obtain ⟨vs, rfl | ⟨vs, rfl⟩⟩ := hd <;> cases z
  have up : ∀ d v, Rp K mg H2 m2 d v → Rp K mg (upd H2 a u) m2 d v := fun d v r => Rp.updAt h2 (fun _ z => by cases z) nl d v r
  have am : a ∈ m := List.mem_of_getElem? hj
  refine ⟨h2, ⟨g.pre, fun b w hb hn ht => ?_, fun b w hb hn hw => ?_, fun b w x hb => ?_⟩, ?_, up⟩
  · have hba : b ≠ a := fun z => hn (by rw [z]; exact am)
    rw [upd_ne hba]
    exact g.keep b w (by rw [upd_ne hba]; exact hb) hn ht
  · have hba : b ≠ a := fun z => hn (by rw [z]; exact am)
    exact g.new b w hb hn (by rw [upd_ne hba]; exact hw)
  · have hba : b ≠ a := fun z => by
      rw [z, hu] at hb
      obtain ⟨vs, rfl | ⟨vs, rfl⟩⟩ := hd <;> cases hb
    rw [upd_ne hba]
    exact g.frz b w x (by rw [upd_ne hba]; exact hb)
  · refine ⟨by simp [st.len], st.nd, fun i w b h1 h3 => ?_, st.tabM (List.mem_of_getElem? hj2)⟩
    rw [List.getElem?_set] at h1
    by_cases hij : j = i
    · subst hij
      rw [if_pos rfl] at h1
      rw [hj2] at h3
      cases h3
      split at h1
      · cases h1
        unfold openO at ho
        split at ho
        · cases ho
          obtain ⟨ob, vs, q1, q2, q3⟩ := st.obj _ _ _ hs hj2
          rw [h2] at q1
          cases q1
          exact ⟨vs, upd_same, Rpf.updAt h2 (fun _ z => by cases z) nl q2, q3⟩
        · cases ho
          obtain ⟨ob, vs, q1, q2, q3⟩ := st.obj _ _ _ hs hj2
          rw [h2] at q1
          cases q1
          exact ⟨vs, upd_same, Rpf.updAt h2 (fun _ z => by cases z) nl q2, q3⟩
        · cases ho
      · cases h1
    · rw [if_neg hij] at h1
      have q := st.obj i w b h1 h3
      have hap : b ≠ a := fun z => by
        subst z
        obtain ⟨hi, e1⟩ := List.getElem?_eq_some_iff.mp h3
        obtain ⟨hj', e2⟩ := List.getElem?_eq_some_iff.mp hj2
        have pw := List.pairwise_iff_getElem.mp st.nd
        rcases Nat.lt_or_gt_of_ne hij with z | z
        · exact pw j i hj' hi z (e2.trans e1.symm)
        · exact pw i j hi hj' z (e1.trans e2.symm)
      cases w with
      | lst ds => obtain ⟨vs, q1, q2⟩ := q; exact ⟨vs, by rw [upd_ne hap]; exact q1, Rps.updAt h2 (fun _ z => by cases z) nl _ _ q2⟩
      | dK ds => obtain ⟨vs, q1, q2, q3⟩ := q; exact ⟨vs, by rw [upd_ne hap]; exact q1, Rpf.updAt h2 (fun _ z => by cases z) nl q2, q3⟩
      | dT ds => obtain ⟨vs, q1, q2, q3⟩ := q; exact ⟨vs, by rw [upd_ne hap]; exact q1, Rpf.updAt h2 (fun _ z => by cases z) nl q2, q3⟩
      | lK ds => obtain ⟨o, vs, q1, q2, q3⟩ := q; exact ⟨o, vs, by rw [upd_ne hap]; exact q1, Rpf.updAt h2 (fun _ z => by cases z) nl q2, q3⟩
      | lT ds => obtain ⟨o, vs, q1, q2, q3⟩ := q; exact ⟨o, vs, by rw [upd_ne hap]; exact q1, Rpf.updAt h2 (fun _ z => by cases z) nl q2, q3⟩
      | ins C fs => obtain ⟨ca, dx, vs, q0, q1, q2⟩ := q; exact ⟨ca, dx, vs, q0, by rw [upd_ne hap]; exact q1, Rpf.updAt h2 (fun _ z => by cases z) nl q2⟩
def unlockS (j : Nat) (S : Sto) : Option Sto := match S[j]? with
  | some o => (openO o).map fun o' => S.set j o'
  | none => none
/-- the dict of slot i is locked while f runs -/
def mLockE (i : Nat) (f : ME) : ME := fun e S => match e[i]? with
  | some (some (.ref j)) => match (S[j]?).bind lockO with
    | some o' => match f e (S.set j o') with
      | .ok d S' => match unlockS j S' with
        | some S'' => .ok d S''
        | none => .no
      | _ => .no
    | none => .no
  | _ => .no
theorem ce_lock (i : Nat) {ex : Expr} {f : ME} (h : CE X W ex f) : CE X W ex (mLockE i f) := by
  refine ⟨PEi (pe_lock h.run) fun σ H Q ⟨m, e, S, st, sl, q⟩ => ?_⟩
  unfold mLockE at q
  split at q
  · rename_i j hj
    split at q
    · rename_i o' ho'
      obtain ⟨o, ho, hl⟩ := Option.bind_eq_some_iff.mp ho'
      obtain ⟨v, hv, rv⟩ := sl.val i _ hj
      cases rv with
      | @ref _ a ha =>
        obtain ⟨u, hu, mu, hd, k⟩ := st.lock ha ho hl
        refine ⟨a, u, hu, mu, fun od => ?_⟩
        obtain ⟨g1, st1⟩ := k od
        refine ⟨m, e, S.set j o', st1, sl.mono st g1, ?_⟩
        cases hf : f e (S.set j o') with
        | ok d S2 =>
          rw [hf] at q
          have q : okR X.K X.mg H m σ W (RpR X.K X.mg) Q (match unlockS j S2 with
            | some S'' => .ok d S''
            | none => .no) := q
          intro x H2 m2 g2 st2 r2
          split at q
          · rename_i S3 hS3
            unfold unlockS at hS3
            split at hS3
            · rename_i o2 ho2
              obtain ⟨o3, ho3, rfl⟩ := Option.map_eq_some_iff.mp hS3
              obtain ⟨z1, z2, z3, z4⟩ := Stt.unlock ha hu hd g2 st2 ho2 ho3
              exact ⟨z1, q x _ m2 z2 z3 (z4 _ _ r2)⟩
            · cases hS3
          · exact q.elim
        | exc c f d S2 => rw [hf] at q; exact q.elim
        | no => rw [hf] at q; exact q.elim
    · exact q.elim
  · exact q.elim
/-- a statement -/
def RS.unlock (j : Nat) : RS → RS
  | .go f e S => match unlockS j S with
    | some S' => .go f e S'
    | none => .no
  | _ => .no
def mLockS (i : Nat) (b : MS) : MS := fun e S => match e[i]? with
  | some (some (.ref j)) => match (S[j]?).bind lockO with
    | some o' => (b e (S.set j o')).unlock j
    | none => .no
  | _ => .no
theorem cs_lock (i : Nat) {s : Stmt} {b : MS} (h : CS X W s b) : CS X W s (mLockS i b) := by
  refine ⟨PSi (ps_lock h.run) fun E σ H ⟨m, e, S, st, sl, q⟩ => ?_⟩
  unfold mLockS at q
  split at q
  · rename_i j hj
    split at q
    · rename_i o' ho'
      obtain ⟨o, ho, hl⟩ := Option.bind_eq_some_iff.mp ho'
      obtain ⟨v, hv, rv⟩ := sl.val i _ hj
      cases rv with
      | @ref _ a ha =>
        obtain ⟨u, hu, mu, hd, k⟩ := st.lock ha ho hl
        refine ⟨a, u, hu, mu, fun od => ?_⟩
        obtain ⟨g1, st1⟩ := k od
        refine ⟨m, e, S.set j o', st1, sl.mono st g1, ?_⟩
        cases hf : b e (S.set j o') with
        | go fl e2 S2 =>
          rw [hf] at q
          have q : okS X.K X.mg H m W E (match unlockS j S2 with
            | some S' => .go fl e2 S'
            | none => .no) := q
          split at q
          · rename_i S3 hS3
            unfold unlockS at hS3
            split at hS3
            · rename_i o2 ho2
              obtain ⟨o3, ho3, rfl⟩ := Option.map_eq_some_iff.mp hS3
              have sl2 : ∀ {H2 : Hp} {m2 : List Addr} {σ' : L2.St}, (∀ d v, Rp X.K X.mg H2 m2 d v → Rp X.K X.mg (upd H2 a u) m2 d v) → Sl X.K X.mg H2 m2 e2 σ' → Sl X.K X.mg (upd H2 a u) m2 e2 σ' := fun z4 s => ⟨s.len, fun i d hi => let ⟨v, h1, h2⟩ := s.val i d hi; ⟨v, h1, z4 d v h2⟩⟩
              cases fl with
              | nx =>
                intro σ' H2 m2 g2 st2 s2
                obtain ⟨z1, z2, z3, z4⟩ := Stt.unlock ha hu hd g2 st2 ho2 ho3
                exact ⟨z1, q σ' _ m2 z2 z3 (sl2 z4 s2)⟩
              | bk =>
                intro σ' H2 m2 g2 st2 s2
                obtain ⟨z1, z2, z3, z4⟩ := Stt.unlock ha hu hd g2 st2 ho2 ho3
                exact ⟨z1, q σ' _ m2 z2 z3 (sl2 z4 s2)⟩
              | ct =>
                intro σ' H2 m2 g2 st2 s2
                obtain ⟨z1, z2, z3, z4⟩ := Stt.unlock ha hu hd g2 st2 ho2 ho3
                exact ⟨z1, q σ' _ m2 z2 z3 (sl2 z4 s2)⟩
              | rt d =>
                intro v H2 m2 g2 st2 r2
                obtain ⟨z1, z2, z3, z4⟩ := Stt.unlock ha hu hd g2 st2 ho2 ho3
                exact ⟨z1, q v _ m2 z2 z3 (z4 _ _ r2)⟩
            · cases hS3
          · exact q.elim
        | exc c f d e2 S2 => rw [hf] at q; exact q.elim
        | no => rw [hf] at q; exact q.elim
    · exact q.elim
  · exact q.elim
/-! ### for key in d, for key, value in d.items(): the dict is locked -/
def keysTD (kvs : List (List Key × D)) : List D := kvs.map fun kv => .tup (kv.1.map kD)
def keysIt (d : D) (S : Sto) : R MI := match d with
  | .ref j => match S[j]? with
    | some (.lK kvs) => .ok (itOf (keysD kvs)) S
    | some (.lT kvs) => .ok (itOf (keysTD kvs)) S
    | _ => .no
  | _ => .no
def itemsIt (d : D) (S : Sto) : R MI := match d with
  | .ref j => match S[j]? with
    | some (.lK kvs) => .ok (itOf (kvs.map fun kv => .tup [kD kv.1, kv.2])) S
    | _ => .no
  | _ => .no
def mKeys (f : ME) : Slots → Sto → R MI := fun e S => (f e S).bind keysIt
def mItems (f : ME) : Slots → Sto → R MI := fun e S => (f e S).bind itemsIt
theorem key_rp {K : PySem.W.Frag} {mg : Str → Option Value} {H : Hp} {m : List Addr} {k : Key} (h : keyOk k = true) : Rp K mg H m (kD k) (kV k) := by
  cases k with
  | inl i => exact .int i
  | inr x => exact .str x h
theorem keys_rps {K : PySem.W.Frag} {mg : Str → Option Value} {H : Hp} {m : List Addr} : ∀ {ks : List Key}, ks.all keyOk = true → Rps K mg H m (ks.map kD) (ks.map kV)
  | [], _ => .nil
  | k :: ks, h => by
    rw [List.all_cons, Bool.and_eq_true] at h
    exact .cons (key_rp h.1) (keys_rps h.2)
theorem rpf_at {κ : Type} {K : PySem.W.Frag} {mg : Str → Option Value} {H : Hp} {m : List Addr} {ks : List (κ × D)} {vs : List (κ × V)} (h : Rpf K mg H m ks vs) : ∀ {i : Nat} {k : κ} {d : D}, ks[i]? = some (k, d) → ∃ v, vs[i]? = some (k, v) ∧ Rp K mg H m d v := by
  induction ks generalizing vs with
  | nil => intro i k d e; simp at e
  | cons p ps ih =>
    cases h with
    | @cons _ q _ qs h1 h2 =>
      intro i k d e
      cases i with
      | zero =>
        simp at e
        subst e
        obtain ⟨k', v⟩ := q
        obtain ⟨e1, e2⟩ := h1
        cases e1
        exact ⟨v, rfl, e2⟩
      | succ i =>
        simp at e
        simpa using ih h2 e
theorem ci_keys {tg iter : Expr} {f : ME} (h : CE X W iter f) : CI X W tg iter (mKeys f) := by
  refine ⟨_, pi_keys h.run, fun σ H Q m e S st sl q => ?_⟩
  refine tI_bind st sl q fun d S1 v H1 m1 e1 g1 st1 sl1 r1 q1 => ?_
  unfold keysIt at q1
  split at q1
  · cases r1 with
    | @ref j a hj =>
      split at q1
      · rename_i kvs hs
        obtain ⟨o, vs, p1, p2, p3⟩ := st1.obj _ _ _ hs hj
        refine ⟨a, o, rfl, .inl ⟨vs, p1, q1 _ _ _ (Gr.refl _ _) st1 ?_⟩⟩
        intro i H2 m2 S2 _ g2 st2
        have f2 := g2.frz _ _ _ p1
        have hl := Rpf.length p2
        unfold itOf keysD
        rw [List.getElem?_map]
        cases hk : kvs[i]? with
        | none => exact ⟨f2, by rw [← hl]; exact List.getElem?_eq_none_iff.mp hk⟩
        | some kd =>
          obtain ⟨k, d⟩ := kd
          have hi := (List.getElem?_eq_some_iff.mp hk).1
          refine ⟨⟨f2, by omega⟩, fun x H' ⟨hH, k2, v2, h1, h2⟩ => ?_⟩
          subst hH
          obtain ⟨v3, h3, _⟩ := rpf_at p2 hk
          rw [h3] at h1
          cases h1
          subst h2
          unfold keysOk at p3
          exact ⟨Gr.refl _ _, st2, key_rp (List.all_eq_true.mp p3 _ (List.mem_of_getElem? hk))⟩
      · rename_i kvs hs
        obtain ⟨o, vs, p1, p2, p3⟩ := st1.obj _ _ _ hs hj
        refine ⟨a, o, rfl, .inr ⟨vs, p1, q1 _ _ _ (Gr.refl _ _) st1 ?_⟩⟩
        intro i H2 m2 S2 _ g2 st2
        have f2 := g2.frz _ _ _ p1
        have hl := Rpf.length p2
        unfold itOf keysTD
        rw [List.getElem?_map]
        cases hk : kvs[i]? with
        | none => exact ⟨f2, by rw [← hl]; exact List.getElem?_eq_none_iff.mp hk⟩
        | some kd =>
          obtain ⟨k, d⟩ := kd
          have hi := (List.getElem?_eq_some_iff.mp hk).1
          refine ⟨⟨f2, by omega⟩, fun x H' ⟨hH, k2, v2, b, h1, h2, h3⟩ => ?_⟩
          subst hH
          obtain ⟨v3, h4, _⟩ := rpf_at p2 hk
          rw [h4] at h1
          cases h1
          subst h2
          unfold keysOkT at p3
          exact ⟨Gr.refl _ _, st2, .tup h3 (keys_rps (List.all_eq_true.mp p3 _ (List.mem_of_getElem? hk)))⟩
      · exact q1.elim
  · exact q1.elim
theorem ci_items {ex : Expr} {f : ME} {elts : List Expr} {kk : Nat} {tpos apos cpos : Pos} (h : CE X W ex f) (hbase : attributeBase ex "items" X.env (eval ex X.env) = eval ex X.env := by rfl) (hline : (apos.endLine == cpos.line) = true := by rfl) :
    CI X W (.Tuple elts kk tpos) (.Call (.Attribute ex "items" apos) [] [] cpos) (mItems f) := by
  refine ⟨_, pi_items h.run hbase hline, fun σ H Q m e S st sl q => ?_⟩
  refine tI_bind st sl q fun d S1 v H1 m1 e1 g1 st1 sl1 r1 q1 => ?_
  unfold itemsIt at q1
  split at q1
  · cases r1 with
    | @ref j a hj =>
      split at q1
      · rename_i kvs hs
        obtain ⟨o, vs, p1, p2, p3⟩ := st1.obj _ _ _ hs hj
        refine ⟨a, o, vs, rfl, p1, q1 _ _ _ (Gr.refl _ _) st1 ?_⟩
        intro i H2 m2 S2 _ g2 st2
        have f2 := g2.frz _ _ _ p1
        have hl := Rpf.length p2
        have p4 := Rpf.mono st1 g2 p2
        unfold itOf
        rw [List.getElem?_map]
        cases hk : kvs[i]? with
        | none => exact ⟨f2, by rw [← hl]; exact List.getElem?_eq_none_iff.mp hk⟩
        | some kd =>
          obtain ⟨k, d⟩ := kd
          have hi := (List.getElem?_eq_some_iff.mp hk).1
          refine ⟨⟨f2, by omega⟩, fun x H' ⟨T, k2, v2, h1, h2, h3, h4⟩ => ?_⟩
          obtain ⟨v3, h5, r3⟩ := rpf_at p4 hk
          rw [h5] at h1
          cases h1
          subst h2 h4
          unfold keysOk at p3
          exact pair_new st2 h3 (key_rp (List.all_eq_true.mp p3 _ (List.mem_of_getElem? hk))) r3
      · exact q1.elim
  · exact q1.elim
end
end Mi

set_option Elab.async false
set_option linter.all false
set_option maxRecDepth 100000
set_option maxHeartbeats 1000000
namespace Mi
open PySem PySem.Spec PyProof.Rows L2
variable [TabsOf]
section
variable {X : Cx} {W : WX}
theorem PSor {X : Cx} {s : Stmt} {t u : TS} (h : PS X s t) (k : PS X s u) : PS X s (fun E σ H => t E σ H ∨ u E σ H) :=
  ⟨fun pins s σ H D I q => q.elim (h.run pins s σ H D I) (k.run pins s σ H D I)⟩

/-! ### {} -/
def mDK : ME := fun _ S => .ok (.ref S.length) (S ++ [.dK []])
def mDT : ME := fun _ S => .ok (.ref S.length) (S ++ [.dT []])
theorem ce_dk {pos : Pos} : CE X W (.Dict [] [] pos) mDK := by
  refine ⟨PEi pe_dnewK fun σ H Q ⟨m, e, S, st, sl, q⟩ => fun p hp => ?_⟩
  obtain ⟨g2, st2⟩ := st.push (ho := .dK []) (o := .dK []) hp rfl ⟨[], upd_same, .nil, rfl⟩
  exact q _ _ _ g2 st2 (.ref (by rw [← st.len]; simp))
theorem ce_dt {pos : Pos} : CE X W (.Dict [] [] pos) mDT := by
  refine ⟨PEi pe_dnewT fun σ H Q ⟨m, e, S, st, sl, q⟩ => fun p hp => ?_⟩
  obtain ⟨g2, st2⟩ := st.push (ho := .dT []) (o := .dT []) hp rfl ⟨[], upd_same, .nil, rfl⟩
  exact q _ _ _ g2 st2 (.ref (by rw [← st.len]; simp))

/-! ### o[i] = v -/
/-- the store behind o[i] = v -/
def storeD (o i v : D) (S : Sto) : Option Sto := match o with
  | .ref j => match S[j]? with
    | some (.lst xs) => match i with
      | .int k => (ixN xs.length k).map fun n => S.set j (.lst (xs.set n v))
      | _ => none
    | some (.dK kvs) => if kvs.length < lim then (keyK i).map fun k => S.set j (.dK (putD kvs k v)) else none
    | some (.dT kvs) => if kvs.length < lim then (keyT i).map fun k => S.set j (.dT (putD kvs k v)) else none
    | _ => none
  | _ => none
def mSto (fv fo fi : ME) : MS := fun e S => (fv e S).thn e fun v S => (fo e S).thn e fun o S => (fi e S).thn e fun i S => match storeD o i v S with
  | some S' => .go .nx e S'
  | none => .no
theorem choose3 {f g h : ME} {e : Slots} {S : Sto} (P : D → Sto → Bool) : ∃ dc : Bool, ∀ d S1 k S2 i S3, f e S = .ok d S1 → g e S1 = .ok k S2 → h e S2 = .ok i S3 → P k S3 = dc := by
  by_cases hex : ∃ d S1 k S2 i S3, f e S = .ok d S1 ∧ g e S1 = .ok k S2 ∧ h e S2 = .ok i S3
  · obtain ⟨d, S1, k, S2, i, S3, h1, h2, h3⟩ := hex
    refine ⟨P k S3, fun d' S1' k' S2' i' S3' e1 e2 e3 => ?_⟩
    rw [h1] at e1; cases e1
    rw [h2] at e2; cases e2
    rw [h3] at e3; cases e3
    rfl
  · exact ⟨false, fun d' S1' k' S2' i' S3' e1 e2 e3 => (hex ⟨_, _, _, _, _, _, e1, e2, e3⟩).elim⟩
theorem keysOk_put {kvs : List (Key × D)} {k : Key} {d : D} (h : keysOk kvs = true) (hk : keyOk k = true) : keysOk (putD kvs k d) = true := by
  unfold keysOk at *
  unfold putD
  split
  · rw [List.all_eq_true] at *
    intro x hx
    obtain ⟨y, hy, rfl⟩ := List.mem_map.mp hx
    have z := h y hy
    by_cases e : y.1 = k
    · simp only [e, if_pos]; exact hk
    · simp only [if_neg e]; exact z
  · rw [List.all_append, h]
    simp [hk]
theorem keysOkT_put {kvs : List (List Key × D)} {k : List Key} {d : D} (h : keysOkT kvs = true) (hk : k.all keyOk = true) : keysOkT (putD kvs k d) = true := by
  unfold keysOkT at *
  unfold putD
  split
  · rw [List.all_eq_true] at h ⊢
    intro x hx
    obtain ⟨y, hy, rfl⟩ := List.mem_map.mp hx
    have z := h y hy
    by_cases e : y.1 = k
    · simp only [e, if_pos]; exact hk
    · simp only [if_neg e]; exact z
  · rw [List.all_append, h]
    simp only [List.all_cons, List.all_nil, Bool.and_true, Bool.true_and]
    exact hk
theorem keyK_ok {K : PySem.W.Frag} {mg : Str → Option Value} {H : Hp} {m : List Addr} {d : D} {v : V} {k : Key} (r : Rp K mg H m d v) (e : keyK d = some k) : keyOk k = true := by
  unfold keyK at e
  split at e
  · cases e; rfl
  · cases e
    cases r with
    | str _ h => exact h
  · cases e
theorem keysK_ok {K : PySem.W.Frag} {mg : Str → Option Value} {H : Hp} {m : List Addr} : ∀ {ds : List D} {vs : List V} {ks : List Key}, Rps K mg H m ds vs → keysK ds = some ks → ks.all keyOk = true
  | [], _, _, h, e => by cases h; cases e; rfl
  | d :: ds, _, ks, h, e => by
    cases h with
    | cons h1 h2 =>
      unfold keysK at e
      split at e
      · rename_i k ks' e1 e2
        cases e
        rw [List.all_cons, keyK_ok h1 e1, keysK_ok h2 e2] <;> rfl
      · cases e
theorem keyT_ok {K : PySem.W.Frag} {mg : Str → Option Value} {H : Hp} {m : List Addr} {d : D} {v : V} {k : List Key} (r : Rp K mg H m d v) (e : keyT d = some k) : k.all keyOk = true := by
  unfold keyT at e
  split at e
  · cases r with
    | tup h1 h2 => exact keysK_ok h2 e
  · cases e
/-- a dict of the store gets other pairs -/
theorem Stt.putK {K : PySem.W.Frag} {mg : Str → Option Value} {H : Hp} {m : List Addr} {S : Sto} {j : Nat} {p : Addr} {us vs : List (Key × V)} {ks : List (Key × D)} (st : Stt K mg H m S) (hj : m[j]? = some p) (h : H p = some (.dK us)) (r : Rpf K mg H m ks vs) (hk : keysOk ks = true) :
    Gr H m (upd H p (.dK vs)) m ∧ Stt K mg (upd H p (.dK vs)) m (S.set j (.dK ks)) :=
  st.put (ho := .dK vs) (o := .dK ks) hj (fun o u z => by rw [h] at z; cases z) ⟨vs, upd_same, Rpf.updAt h (fun _ z => by cases z) (fun _ _ z => by cases z) r, hk⟩
theorem Stt.putT {K : PySem.W.Frag} {mg : Str → Option Value} {H : Hp} {m : List Addr} {S : Sto} {j : Nat} {p : Addr} {us vs : List (List Key × V)} {ks : List (List Key × D)} (st : Stt K mg H m S) (hj : m[j]? = some p) (h : H p = some (.dT us)) (r : Rpf K mg H m ks vs) (hk : keysOkT ks = true) :
    Gr H m (upd H p (.dT vs)) m ∧ Stt K mg (upd H p (.dT vs)) m (S.set j (.dT ks)) :=
  st.put (ho := .dT vs) (o := .dT ks) hj (fun o u z => by rw [h] at z; cases z) ⟨vs, upd_same, Rpf.updAt h (fun _ z => by cases z) (fun _ _ z => by cases z) r, hk⟩
theorem cs_sto {o i v : Expr} {fv fo fi : ME} {pos pos' : Pos} (hu : X.A.units + 64 < cLine) (hv : CE X W v fv) (ho : CE X W o fo) (hi : CE X W i fi) (hs : swapsWith v (some (.Subscript o i pos')) pos.line X.env = pure false := by rfl)
    (hg : ∀ {to ti : TE}, PE X o to → PE X i ti → PG X (.Subscript o i pos') (gSub to ti rSetL) := by exact fun a b => pg_sub a b set_list) (h1 : swapsWithSole [.Subscript o i pos'] v pos.line X.env = pure false := by rfl) (h2 : swappedStores [.Subscript o i pos'] v X.env = pure none := by rfl)
    (h3 : (assignEach [.Subscript o i pos'] X.env).map (·.2) = [assign (.Subscript o i pos') X.env] := by rfl) : CS X W (.Assign [.Subscript o i pos'] v pos) (mSto fv fo fi) := by
  refine ⟨PSi (PSor (ps_asg hv.run (hg ho.run hi.run) h1 h2 h3) (ps_dput (by omega) ho.run hi.run hv.run hs)) fun E σ H ⟨m, e, S, st, sl, q⟩ => ?_⟩
  obtain ⟨dc, hdc⟩ := choose3 (f := fv) (g := fo) (h := fi) (e := e) (S := S) fun d S => isDictD S d
  cases dc with
  | false =>
    left
    refine tS_bind st sl q fun d S1 w H1 m1 e1 g1 st1 sl1 r1 q1 => ?_
    refine tS_bind st1 sl1 q1 fun od S2 ov H2 m2 e2 g2 st2 sl2 r2 q2 => ?_
    refine tS_bind st2 sl2 q2 fun id S3 iv H3 m3 e3 g3 st3 sl3 r3 q3 => ?_
    have hnd := hdc _ _ _ _ _ _ e1 e2 e3
    have ro := Rp.mono st2 g3 _ _ r2
    have rw1 := Rp.mono st2 g3 _ _ (Rp.mono st1 g2 _ _ r1)
    unfold storeD at q3
    unfold isDictD at hnd
    split at q3
    · rename_i S' hS
      split at hS
      · rename_i j
        cases ro with
        | ref hj =>
          split at hS
          · rename_i xs hs
            split at hS
            · rename_i k
              obtain ⟨n, hn, rfl⟩ := Option.map_eq_some_iff.mp hS
              cases r3
              obtain ⟨vs, p1, p2⟩ := st3.obj _ _ _ hs hj
              refine ⟨_, vs, _, n, rfl, rfl, p1, by rw [← p2.length]; exact hn, ?_⟩
              obtain ⟨g4, st4⟩ := st3.put (ho := .lst (vs.set n w)) (o := .lst (xs.set n d)) hj (fun o u z => by rw [p1] at z; cases z) ⟨_, upd_same, Rps.updAt p1 (fun _ z => by cases z) (fun _ _ z => by cases z) _ _ (p2.set rw1 n)⟩
              exact q3 σ _ _ g4 st4 (sl3.mono st3 g4)
            · cases hS
          · rename_i kvs hs
            simp only [hs] at hnd
            cases hnd
          · rename_i kvs hs
            simp only [hs] at hnd
            cases hnd
          · cases hS
      · cases hS
    · exact q3.elim
  | true =>
    right
    refine tS_bind st sl q fun d S1 w H1 m1 e1 g1 st1 sl1 r1 q1 => ?_
    refine tS_bind st1 sl1 q1 fun od S2 ov H2 m2 e2 g2 st2 sl2 r2 q2 => ?_
    refine tS_bind st2 sl2 q2 fun id S3 iv H3 m3 e3 g3 st3 sl3 r3 q3 => ?_
    have hnd := hdc _ _ _ _ _ _ e1 e2 e3
    have ro := Rp.mono st2 g3 _ _ r2
    have rw1 := Rp.mono st2 g3 _ _ (Rp.mono st1 g2 _ _ r1)
    unfold storeD at q3
    unfold isDictD at hnd
    split at q3
    · rename_i S' hS
      split at hS
      · rename_i j
        cases ro with
        | ref hj =>
          split at hS
          · rename_i xs hs
            simp only [hs] at hnd
            cases hnd
          · rename_i kvs hs
            split at hS
            · rename_i hz
              obtain ⟨k, hk, rfl⟩ := Option.map_eq_some_iff.mp hS
              obtain ⟨vs, p1, p2, p3⟩ := st3.obj _ _ _ hs hj
              obtain ⟨g4, st4⟩ := st3.putK hj p1 (p2.put k rw1) (keysOk_put p3 (keyK_ok r3 hk))
              exact ⟨_, _, rfl, .inl ⟨vs, k, p1, (keyK_v r3 hk).1, by rw [← Rpf.length p2]; exact Nat.lt_of_lt_of_le hz lim_le, rfl⟩, q3 σ _ _ g4 st4 (sl3.mono st3 g4)⟩
            · cases hS
          · rename_i kvs hs
            split at hS
            · rename_i hz
              obtain ⟨k, hk, rfl⟩ := Option.map_eq_some_iff.mp hS
              obtain ⟨vs, p1, p2, p3⟩ := st3.obj _ _ _ hs hj
              obtain ⟨b, rfl, hb⟩ := keyT_v r3 hk
              obtain ⟨g4, st4⟩ := st3.putT hj p1 (p2.put k rw1) (keysOkT_put p3 (keyT_ok r3 hk))
              exact ⟨_, _, rfl, .inr ⟨vs, k, b, p1, rfl, hb, by rw [← Rpf.length p2]; exact Nat.lt_of_lt_of_le hz lim_le, rfl⟩, q3 σ _ _ g4 st4 (sl3.mono st3 g4)⟩
            · cases hS
          · cases hS
      · cases hS
    · exact q3.elim

/-! ### d.get(k, x), d.setdefault(k, x) -/
def mTri (T : D → Sto → Bool) (g : D → D → D → Sto → R D) (fo fk fx : ME) : ME := fun e S => (fo e S).bind fun o S => if T o S = true then (fk e S).bind fun k S => (fx e S).bind fun x S => g o k x S else .no
def getD (o k x : D) (S : Sto) : R D := match dictGet S o k with
  | some r => .ok (r.getD x) S
  | none => .no
theorem isDictD_at {H : Hp} {m : List Addr} {S : Sto} {d : D} {v : V} (st : Stt X.K X.mg H m S) (r : Rp X.K X.mg H m d v) (h : isDictD S d = true) : ∃ a, v = .ref a ∧ IsD H a := by
  unfold isDictD at h
  split at h
  · cases r with
    | @ref j a hj =>
      refine ⟨a, rfl, ?_⟩
      split at h
      · rename_i hs
        obtain ⟨vs, p1, _⟩ := st.obj _ _ _ hs hj
        exact .inl ⟨_, .inl p1⟩
      · rename_i hs
        obtain ⟨o, vs, p1, _⟩ := st.obj _ _ _ hs hj
        exact .inl ⟨_, .inr ⟨_, p1⟩⟩
      · rename_i hs
        obtain ⟨vs, p1, _⟩ := st.obj _ _ _ hs hj
        exact .inr ⟨_, .inl p1⟩
      · rename_i hs
        obtain ⟨o, vs, p1, _⟩ := st.obj _ _ _ hs hj
        exact .inr ⟨_, .inr ⟨_, p1⟩⟩
      · cases h
  · cases h
theorem ce_get2 {o k x : Expr} {fo fk fx : ME} {apos cpos : Pos} (hu : X.A.units + 64 < cLine) (ho : CE X W o fo) (hk : CE X W k fk) (hx : CE X W x fx) (mm : M2 X o "get" apos k x cpos := by exact ⟨rfl, rfl, rfl, rfl⟩) : CE X W (.Call (.Attribute o "get" apos) [k, x] [] cpos) (mTri (fun d S => isDictD S d) getD fo fk fx) := by
  refine ⟨PEi (pe_dget2 (by omega) ho.run hk.run hx.run mm) fun σ H Q ⟨m, e, S, st, sl, q⟩ => ?_⟩
  refine tM_bind st sl q fun d S1 v H1 m1 _ g1 st1 sl1 r1 q1 => ?_
  by_cases hd : isDictD S1 d = true
  · rw [if_pos hd] at q1
    obtain ⟨a, rfl, ha⟩ := isDictD_at st1 r1 hd
    refine ⟨a, rfl, ha, ?_⟩
    refine tM_bind st1 sl1 q1 fun kd S2 kv H2 m2 _ g2 st2 sl2 r2 q2 => ?_
    refine tM_bind st2 sl2 q2 fun xd S3 xv H3 m3 _ g3 st3 sl3 r3 q3 => ?_
    have ro := Rp.mono st2 g3 _ _ (Rp.mono st1 g2 _ _ r1)
    have rk := Rp.mono st2 g3 _ _ r2
    unfold getD at q3
    split at q3
    · rename_i r hr
      obtain ⟨a', w, ha', hg, hp⟩ := dictGet_v st3 ro rk hr
      cases ha'
      refine ⟨w, hg, ?_⟩
      cases r with
      | none =>
        cases w with
        | none => exact okR.here q3 st3 r3
        | some w => exact hp.elim
      | some r =>
        cases w with
        | none => exact hp.elim
        | some w => exact okR.here q3 st3 hp
    · exact q3.elim
  · rw [if_neg hd] at q1
    exact q1.elim
def setdD (o k x : D) (S : Sto) : R D := match o with
  | .ref j => match S[j]? with
    | some (.dK kvs) => match keyK k with
      | some kk => if kvs.length < lim then (match valD kvs kk with
        | some d => .ok d S
        | none => .ok x (S.set j (.dK (putD kvs kk x)))) else .no
      | none => .no
    | _ => .no
  | _ => .no
theorem ce_setd {o k x : Expr} {fo fk fx : ME} {apos cpos : Pos} (ho : CE X W o fo) (hk : CE X W k fk) (hx : CE X W x fx) (mm : M2 X o "setdefault" apos k x cpos := by exact ⟨rfl, rfl, rfl, rfl⟩) : CE X W (.Call (.Attribute o "setdefault" apos) [k, x] [] cpos) (mTri (fun d S => isDictD S d) setdD fo fk fx) := by
  refine ⟨PEi (pe_dsetd ho.run hk.run hx.run mm) fun σ H Q ⟨m, e, S, st, sl, q⟩ => ?_⟩
  refine tM_bind st sl q fun d S1 v H1 m1 _ g1 st1 sl1 r1 q1 => ?_
  by_cases hd : isDictD S1 d = true
  · rw [if_pos hd] at q1
    obtain ⟨a, rfl, ha⟩ := isDictD_at st1 r1 hd
    refine ⟨a, rfl, ha, ?_⟩
    refine tM_bind st1 sl1 q1 fun kd S2 kv H2 m2 _ g2 st2 sl2 r2 q2 => ?_
    refine tM_bind st2 sl2 q2 fun xd S3 xv H3 m3 _ g3 st3 sl3 r3 q3 => ?_
    have ro := Rp.mono st2 g3 _ _ (Rp.mono st1 g2 _ _ r1)
    have rk := Rp.mono st2 g3 _ _ r2
    unfold setdD at q3
    split at q3
    · rename_i j
      cases ro with
      | ref hj =>
        split at q3
        · rename_i kvs hs
          split at q3
          · rename_i kk hkk
            split at q3
            · rename_i hz
              obtain ⟨vs, p1, p2, p3⟩ := st3.obj _ _ _ hs hj
              refine ⟨vs, kk, p1, (keyK_v rk hkk).1, by rw [← Rpf.length p2]; exact Nat.lt_of_lt_of_le hz lim_le, fun w hw => ?_, fun hw => ?_⟩
              · rcases p2.val kk with ⟨h1, h2⟩ | ⟨d', v', h1, h2, h3⟩
                · rw [h2] at hw; cases hw
                · rw [h2] at hw
                  cases hw
                  rw [h1] at q3
                  exact okR.here q3 st3 h3
              · rcases p2.val kk with ⟨h1, h2⟩ | ⟨d', v', h1, h2, h3⟩
                · rw [h1] at q3
                  obtain ⟨g4, st4⟩ := st3.putK hj p1 (p2.put kk r3) (keysOk_put p3 (keyK_ok rk hkk))
                  exact q3 _ _ _ g4 st4 (Rp.updAt p1 (fun _ z => by cases z) (fun _ _ z => by cases z) _ _ r3)
                · rw [h2] at hw; cases hw
            · exact q3.elim
          · exact q3.elim
        · exact q3.elim
    · exact q3.elim
  · rw [if_neg hd] at q1
    exact q1.elim

/-! ### texts -/
def splD : D → List D → Sto → R D
  | .str a, [.str b], S => if (b.length == 0) = false ∧ (Txt.split a b).all txtOk = true then .ok (.ref S.length) (S ++ [.lst ((Txt.split a b).map .str)]) else .no
  | _, _, _ => .no
theorem strs_rps {K : PySem.W.Frag} {mg : Str → Option Value} {H : Hp} {m : List Addr} : ∀ {l : List Str}, l.all txtOk = true → Rps K mg H m (l.map D.str) (l.map V.str)
  | [], _ => .nil
  | x :: l, h => by
    rw [List.all_cons, Bool.and_eq_true] at h
    exact .cons (.str _ h.1) (strs_rps h.2)
theorem mm_split : MethM X "str.split" splD := by
  refine ⟨_, mt_split, fun H m S x vs d ds σ W Q st rx rs q => ?_⟩
  unfold splD at q
  split at q
  · split at q
    · rename_i a b hz
      cases rx with
      | str _ hx =>
        cases rs with
        | cons r1 rn =>
          cases rn
          cases r1
          refine ⟨a, b, rfl, rfl, hz.1, ?_, fun p hp => st.newL hp (strs_rps hz.2) q⟩
          have h1 := hx
          unfold txtOk at h1
          rw [Bool.and_eq_true, decide_eq_true_eq] at h1
          exact Nat.le_trans (Nat.add_le_add_right h1.1 2) (by decide)
    · exact q.elim
  · exact q.elim
def joinD : D → List D → Sto → R D
  | .str a, [d], S => match (itemsS S d).bind strsD with
    | some ys => if (ys.map (·.length)).sum + ys.length * a.length ≤ lim ∧ txtOk (Txt.join a ys) = true then .ok (.str (Txt.join a ys)) S else .no
    | none => .no
  | _, _, _ => .no
theorem mm_join : MethM X "str.join" joinD := by
  refine ⟨_, mt_join, fun H m S x vs d ds σ W Q st rx rs q => ?_⟩
  unfold joinD at q
  split at q
  · split at q
    · rename_i ys hy
      split at q
      · rename_i hz
        obtain ⟨es, h1, h2⟩ := Option.bind_eq_some_iff.mp hy
        cases rx with
        | str _ hx =>
          cases rs with
          | cons r1 rn =>
            cases rn
            obtain ⟨b, us, rfl, s1, s2⟩ := itemsS_sq st r1 h1
            obtain ⟨e1, _⟩ := strsD_v s2 h2
            rw [e1] at s1
            exact ⟨_, b, ys, rfl, rfl, s1, Nat.le_trans hz.1 (by decide), okR.here q st (.str _ hz.2)⟩
      · exact q.elim
    · exact q.elim
  · exact q.elim
/-- s.index(t): it is there -/
def indexD (o : D) (ds : List D) (S : Sto) : R D := match o, ds with
  | .str a, [.str b] => match Txt.index0 a b with
    | some k => .ok (.int (k : Nat)) S
    | none => .no
  | _, _ => .no
theorem ce_sindex {o ex : Expr} {f g : ME} {apos cpos : Pos} (hc : X.calm = true) (tk : Takes X W) (ho : CE X W o f) (he : CE X W ex g) (he' : starEach (ex :: []) X.env = (false, eval ex X.env) :: starEach [] X.env := by rfl)
    (hp : ∀ {r : L2.St → V → List V → Hp → VK → Prop} {to : TE} {t : TA}, MtS X "str.index" r → PE X o to → PA X [ex] t → PE X (.Call (.Attribute o "index" apos) [ex] [] cpos) (tBMS X.K "str" r to t) := by exact fun a b c => pe_bmS PySem.F.plainAttrs_str PySem.F.slot_str_index PySem.F.type_str_index a b c) :
    CE X W (.Call (.Attribute o "index" apos) [ex] [] cpos) (mMeth "str" indexD f (mCons g mNil)) := by
  refine ⟨PEi (hp (mt_indexX (W := W) hc tk) ho.run (pa_cons he.run pa_nil he')) fun σ H Q ⟨m, e, S, st, sl, q⟩ => ?_⟩
  refine tM_bind st sl q fun d S1 v H1 m1 _ g1 st1 sl1 r1 q1 => ?_
  by_cases ht : isTy "str" S1 d = true
  · rw [if_pos ht] at q1
    refine ⟨isTy_v st1 r1 ht, ?_⟩
    have q1' : okR X.K X.mg H1 m1 σ W (RpR X.K X.mg) Q ((g e S1).bind fun y S => indexD d [y] S) := by
      unfold mCons mNil at q1
      cases hg : g e S1 with
      | ok y S2 => rw [hg] at q1; exact q1
      | exc c f d S2 => rw [hg] at q1; exact q1
      | no => rw [hg] at q1; exact q1
    clear q1
    refine tM_bind st1 sl1 q1' fun y S2 w H2 m2 _ g2 st2 sl2 r2 q2 => ?_
    have ro := Rp.mono st1 g2 _ _ r1
    unfold indexD at q2
    split at q2
    · rename_i a b hab
      split at q2
      · rename_i k hk
        injection b with b _
        subst b
        cases ro
        cases r2
        refine ⟨_, _, rfl, rfl, fun k' hk' => ?_, fun hn => ?_⟩
        · rw [hk] at hk'
          cases hk'
          exact okR.here q2 st2 (.int _)
        · rw [hk] at hn; cases hn
      · exact q2.elim
    · exact q2.elim
  · rw [if_neg ht] at q1
    exact q1.elim
end
end Mi

set_option Elab.async false
set_option linter.all false
set_option maxRecDepth 100000
set_option maxHeartbeats 1000000
namespace Mi
open PySem PySem.Spec PyProof.Rows L2
variable [TabsOf]

/-! ### all stays, there may be more -/
theorem Stt.grow {K : PySem.W.Frag} {mg : Str → Option Value} {H H' : Hp} {m : List Addr} {S : Sto} (st : Stt K mg H m S) (k : LamX.ExtN H H') (t : LamX.Tabs TabsOf.tabs H') : Gr H m H' m ∧ Stt K mg H' m S := by
  have g : Gr H m H' m := ⟨⟨[], by simp⟩, fun a o h _ n => k a o h n, fun a _ h n _ => absurd h n, fun a o u h => k a _ h fun _ z => by cases z⟩
  refine ⟨g, ⟨st.len, st.nd, fun j u a h1 h2 => ?_, t⟩⟩
  have q := st.obj j u a h1 h2
  cases u with
  | lst ds => obtain ⟨vs, q1, q2⟩ := q; exact ⟨vs, k _ _ q1 (fun _ z => by cases z), Rps.mono st g _ _ q2⟩
  | dK ds => obtain ⟨vs, q1, q2, q3⟩ := q; exact ⟨vs, k _ _ q1 (fun _ z => by cases z), Rpf.mono st g q2, q3⟩
  | dT ds => obtain ⟨vs, q1, q2, q3⟩ := q; exact ⟨vs, k _ _ q1 (fun _ z => by cases z), Rpf.mono st g q2, q3⟩
  | lK ds => obtain ⟨o, vs, q1, q2, q3⟩ := q; exact ⟨o, vs, k _ _ q1 (fun _ z => by cases z), Rpf.mono st g q2, q3⟩
  | lT ds => obtain ⟨o, vs, q1, q2, q3⟩ := q; exact ⟨o, vs, k _ _ q1 (fun _ z => by cases z), Rpf.mono st g q2, q3⟩
  | ins C fs => obtain ⟨ca, dx, vs, q0, q1, q2⟩ := q; exact ⟨ca, dx, vs, q0, k _ _ q1 (fun _ z => by cases z), Rpf.mono st g q2⟩

/-! ### calls with keywords -/
def pick {α : Type} (p : List Nat) (xs : List α) : List α := p.filterMap fun i => xs[i]?
theorem pick_vals (p : List Nat) {vs : List V} {us : List Value} (h : Vals vs us) : Vals (pick p vs) (pick p us) := by
  have at_ : ∀ {vs : List V} {us : List Value}, Vals vs us → ∀ i : Nat, (vs[i]? = none ∧ us[i]? = none) ∨ ∃ v u, vs[i]? = some v ∧ us[i]? = some u ∧ RelV v u := by
    intro vs us h
    induction h with
    | nil => intro i; simp
    | cons r t ih =>
      intro i
      cases i with
      | zero => exact .inr ⟨_, _, rfl, rfl, r⟩
      | succ i => simpa using ih i
  induction p with
  | nil => exact .nil
  | cons i p ih =>
    unfold pick at ih ⊢
    rcases at_ h i with ⟨e1, e2⟩ | ⟨v, u, e1, e2, r⟩
    · rw [List.filterMap_cons, List.filterMap_cons, e1, e2]
      exact ih
    · rw [List.filterMap_cons, List.filterMap_cons, e1, e2]
      exact .cons r ih
theorem pick_rps {K : PySem.W.Frag} {mg : Str → Option Value} {H : Hp} {m : List Addr} (p : List Nat) {ds : List D} {vs : List V} (h : Rps K mg H m ds vs) : Rps K mg H m (pick p ds) (pick p vs) := by
  induction p with
  | nil => exact .nil
  | cons i p ih =>
    unfold pick at ih ⊢
    rw [List.filterMap_cons, List.filterMap_cons]
    cases e : ds[i]? with
    | none =>
      have e2 : vs[i]? = none := by
        rw [List.getElem?_eq_none_iff] at e ⊢
        rw [← h.length]
        exact e
      rw [e2]
      exact ih
    | some d =>
      obtain ⟨v, e2, r⟩ := h.get e
      rw [e2]
      exact .cons r ih
theorem pick_len {α : Type} : ∀ (p : List Nat) (xs : List α), (p.all fun i => decide (i < xs.length)) = true → (pick p xs).length = p.length
  | [], _, _ => rfl
  | i :: p, xs, h => by
    rw [List.all_cons, Bool.and_eq_true, decide_eq_true_eq] at h
    unfold pick
    rw [List.filterMap_cons, List.getElem?_eq_getElem h.1]
    have := pick_len p xs h.2
    unfold pick at this
    simp [this]
/-- how such a call binds: pick p of the values, then the keywords' values -/
structure KwB (K : PySem.W.Frag) (fd : FuncData) (ps : List Str) (n : Nat) (ks : List Str) (p : List Nat) : Prop where
  to : ∀ (s : Shared) (us ws : List Value), K.In s.heap → us.length = n → ws.length = ks.length → BindsTo s fd ⟨us, ks.zip ws⟩ (ps.zip (pick p (us ++ ws)))
  ok : (p.all fun i => decide (i < n + ks.length)) = true
  len : p.length = ps.length
theorem kwB_mk {K : PySem.W.Frag} {x qual : Str} {st : Stmt} {f : Addr} {fd : FuncData} {ps : List Str} (F : Fun K x qual st f fd) (n : Nat) (ks : List Str) (p : List Nat)
    (h : ∀ (kV doc pm : Value) (an : Option Addr) (cdv ct : Value) (us ws : List Value), us.length = n → ws.length = ks.length → bindArgs (PySem.W.fnOf x qual (defArgs st) (defBody st) (defScope st) .none kV doc pm an cdv ct) ⟨us, ks.zip ws⟩ = pure (ps.zip (pick p (us ++ ws))))
    (ok : (p.all fun i => decide (i < n + ks.length)) = true := by decide) (len : p.length = ps.length := by rfl) : KwB K fd ps n ks p := by
  obtain ⟨oc, od, kV, doc, pm, an, cdv, ct, osl, rfl, lk, hcd⟩ := F.ex
  exact ⟨fun s us ws _ l1 l2 => .of_eq (h kV doc pm an cdv ct us ws l1 l2), ok, len⟩
section
variable {X : Cx} {W : WX}
theorem run_kwS {k n : Nat} {f : Addr} {fd : FuncData} {ps ks : List Str} {sp : Sp} {CX : CXT} {E : XK} {p : List Nat} {pins : List (Addr × Obj)} {σ : L2.St} {H : Hp} {s : Shared} {Q : VK} {us ws : List Value} {vs zs : List V} (F : FnOk X.prog X.w X.K X.mg X.base CX k f fd ps sp) (hr : Room k X.A) (hb : KwB X.K fd ps n ks p) (hx : PassesAt CX X σ E)
    (I : Inv X pins σ H s) (r : Vals vs us) (rz : Vals zs ws) (l1 : vs.length = n) (l2 : zs.length = ks.length) (h : sp (pick p (vs ++ zs)) H Q E) : wpAny (model X.prog X.w) X.A (call (.ref f) us (ks.zip ws)) (EP X pins σ Q) X.xe s := by
  have r2 := pick_vals p (r.append rz)
  refine wpAny_call (codeAny_mono (F.run X.A X.stack s H ⟨us, ks.zip ws⟩ (pick p (us ++ ws)) (pick p (vs ++ zs)) Q E hr I.env0 (hb.to s us ws I.kIn (r.length.symm.trans l1) (rz.length.symm.trans l2)) r2 h) fun r s' hq => ?_)
  cases r with
  | error e => exact hx pins H s e s' I hq
  | ok fl =>
    cases fl with
    | ret u => exact I.after hq
    | next => exact False.elim hq
    | brk => exact False.elim hq
    | cont => exact False.elim hq
/-- the keywords' values -/
structure CK (X : Cx) (W : WX) (kws : List Keyword) (f : MA) : Prop where
  run : PK X kws (tA X.K X.mg W f)
  len : ∀ e S ds S', f e S = .ok ds S' → ds.length = kws.length
theorem PKi {kws : List Keyword} {t u : TA} (h : PK X kws t) (k : ∀ σ H Q, u σ H Q → t σ H Q) : PK X kws u := ⟨fun pos pins s σ H Q I q => h.run pos pins s σ H Q I (k σ H Q q)⟩
theorem ck_nil : CK X W [] mNil := ⟨PKi pk_nil fun σ H Q ⟨m, e, S, st, sl, q⟩ => okR.here q st .nil, fun e S ds S' h => by unfold mNil at h; cases h; rfl⟩
theorem ck_cons {nm : Option Str} {ex : Expr} {kpos : Pos} {kws : List Keyword} {f : ME} {r : MA} (h : CE X W ex f) (hr : CK X W kws r) : CK X W (⟨nm, ex, kpos⟩ :: kws) (mCons f r) := by
  refine ⟨PKi (pk_cons h.run hr.run) fun σ H Q ⟨m, e, S, st, sl, q⟩ => ?_, fun e S ds S' h => ?_⟩
  · refine tM_bind st sl q fun d S1 v H1 m1 _ g1 st1 sl1 r1 q1 => ?_
    refine tM_bind st1 sl1 q1 fun ds S2 vs H2 m2 _ g2 st2 sl2 r2 q2 => ?_
    exact okR.here q2 st2 (.cons (Rp.mono st1 g2 _ _ r1) r2)
  · unfold mCons at h
    cases hf : f e S with
    | ok d S1 =>
      rw [hf, R.bind_ok] at h
      cases h2 : r e S1 with
      | ok ds2 S2 =>
        rw [h2, R.bind_ok] at h
        cases h
        simp [hr.len _ _ _ _ h2]
      | exc c f d S2 => rw [h2] at h; cases h
      | no => rw [h2] at h; cases h
    | exc c f d S1 => rw [hf] at h; cases h
    | no => rw [hf] at h; cases h
def mCallK (g : FM) (p : List Nat) (a ak : MA) : ME := fun e S => (a e S).bind fun ds S => (ak e S).bind fun es S => g (pick p (ds ++ es)) S
theorem callK_end {k n : Nat} {f : Addr} {fd : FuncData} {ps ks : List Str} {g : FM} {p : List Nat} {σ : L2.St} {H : Hp} {m : List Addr} {S : Sto} {Q : VK} {ds es : List D} {vs zs : List V} (hb : KwB X.K fd ps n ks p) (st : Stt X.K X.mg H m S) (r : Rps X.K X.mg H m ds vs) (rz : Rps X.K X.mg H m es zs) (l1 : ds.length = n) (l2 : es.length = ks.length)
    (q : okR X.K X.mg H m σ W (RpR X.K X.mg) Q (g (pick p (ds ++ es)) S)) : spM X.K X.mg ps.length g (pick p (vs ++ zs)) H Q (WE W σ) := by
  refine ⟨m, _, S, st, pick_rps p (r.append rz), ?_, ?_⟩
  · rw [pick_len p _ (by rw [List.length_append, l1, l2]; exact hb.ok), hb.len]
  · cases hg : g (pick p (ds ++ es)) S with
    | ok d S2 => rw [hg] at q; exact q
    | exc c f d S2 => rw [hg] at q; exact q
    | no => rw [hg] at q; exact q.elim
/-- f(.., k = v) -/
theorem ce_callK {k n : Nat} {f : Addr} {fd : FuncData} {ps ks : List Str} {g : FM} {x : Str} {p pos : Pos} {ex : Expr} {es : List Expr} {kws : List Keyword} {a ak : MA} {pi : List Nat} (F : FnD X.prog X.w X.K X.mg X.base k f fd ps g) (hr : Room k X.A) (hg : Gl X x) (hm : X.mg x = some (.ref f)) (hk : PySem.W.keepIn X.K (.ref f) = true)
    (hb : KwB X.K fd ps n ks pi) (tk : Takes X W) (ha : CA X W (ex :: es) a) (hkw : CK X W kws ak) (hl : (ex :: es).length = n := by rfl) (hl2 : kws.length = ks.length := by rfl) (hall : (backToKw pos (keywordEach kws X.env)).all (·.1.isSome) = true := by rfl) (hks : (backToKw pos (keywordEach kws X.env)).filterMap (·.1) = ks := by rfl)
    (hdb : (x == ("__debug__" : Str)) = false := by decide) (he : starEach (ex :: es) X.env = (false, eval ex X.env) :: starEach es X.env := by rfl)
    (hpl : ((backTo pos (starEach (ex :: es) X.env)).any (·.1) || (backToKw pos (keywordEach kws X.env)).any (·.1.isNone)) = false := by rfl) : CE X W (.Call (.Name x p) (ex :: es) kws pos) (mCallK g pi a ak) := by
  refine ⟨⟨fun pins s σ H Q I ⟨m, e, S, st, sl, q⟩ => ?_⟩⟩
  refine wpAny_Call_Name_kw (ld_glob I hg hm ?_ hdb)
  refine PySem.W.callWith_KW (h₀ := X.base) I.ok.mod.kin hk hall (thn (ha.run.run pos pins s σ H (fun vs H1 => tA X.K X.mg W ak σ H1 fun zs H2 => vs.length = n ∧ zs.length = ks.length ∧ spM X.K X.mg ps.length g (pick pi (vs ++ zs)) H2 Q (WE W σ)) I ?_) fun us s1 ⟨vs, H1, I1, r, q1⟩ => ?_) hpl he
  · refine tM_bind st sl q fun ds S1 vs H1 m1 hf g1 st1 sl1 r1 q1 => ?_
    refine tM_bind st1 sl1 q1 fun es S2 zs H2 m2 hf2 g2 st2 sl2 r2 q2 => ?_
    have l1 := (ha.len _ _ _ _ hf).trans hl
    have l2 := (hkw.len _ _ _ _ hf2).trans hl2
    exact ⟨r1.length.symm.trans l1, r2.length.symm.trans l2, callK_end (k := k) (f := f) hb st2 (Rps.mono st1 g2 _ _ r1) r2 l1 l2 q2⟩
  · refine thn (hkw.run.run pos pins s1 σ H1 _ I1 q1) fun ws s2 ⟨zs, H2, I2, rz, l1, l2, q2⟩ => ⟨I2.kIn, ?_⟩
    rw [hks]
    exact run_kwS F hr hb (passAt tk σ) I2 r rz l1 l2 q2
theorem ce_callK0 {k : Nat} {f : Addr} {fd : FuncData} {ps ks : List Str} {g : FM} {x : Str} {p pos : Pos} {kws : List Keyword} {ak : MA} {pi : List Nat} (F : FnD X.prog X.w X.K X.mg X.base k f fd ps g) (hr : Room k X.A) (hg : Gl X x) (hm : X.mg x = some (.ref f)) (hk : PySem.W.keepIn X.K (.ref f) = true)
    (hb : KwB X.K fd ps 0 ks pi) (tk : Takes X W) (hkw : CK X W kws ak) (hl2 : kws.length = ks.length := by rfl) (hall : (backToKw pos (keywordEach kws X.env)).all (·.1.isSome) = true := by rfl) (hks : (backToKw pos (keywordEach kws X.env)).filterMap (·.1) = ks := by rfl)
    (hdb : (x == ("__debug__" : Str)) = false := by decide)
    (hpl : ((backTo pos (starEach [] X.env)).any (·.1) || (backToKw pos (keywordEach kws X.env)).any (·.1.isNone)) = false := by rfl) : CE X W (.Call (.Name x p) [] kws pos) (mCallK g pi mNil ak) := by
  refine ⟨⟨fun pins s σ H Q I ⟨m, e, S, st, sl, q⟩ => ?_⟩⟩
  refine wpAny_Call_Name_kw (ld_glob I hg hm ?_ hdb)
  refine PySem.W.callWith_KW0 (h₀ := X.base) I.ok.mod.kin hk hall ?_ hpl
  refine thn (hkw.run.run pos pins s σ H (fun zs H2 => zs.length = ks.length ∧ spM X.K X.mg ps.length g (pick pi ([] ++ zs)) H2 Q (WE W σ)) I ?_) fun ws s2 ⟨zs, H2, I2, rz, l2, q2⟩ => ⟨I2.kIn, ?_⟩
  · have q : okR X.K X.mg H m σ W (RpR X.K X.mg) Q ((ak e S).bind fun es S => g (pick pi ([] ++ es)) S) := q
    refine tM_bind st sl q fun es S2 zs H2 m2 hf2 g2 st2 sl2 r2 q2 => ?_
    have l2 := (hkw.len _ _ _ _ hf2).trans hl2
    exact ⟨r2.length.symm.trans l2, callK_end (k := k) (f := f) (ds := []) (vs := []) hb st2 .nil r2 rfl l2 q2⟩
  · rw [hks]
    exact run_kwS (us := []) (vs := []) F hr hb (passAt tk σ) I2 .nil rz rfl l2 q2

/-! ### dict(list of pairs), list(d.items()) -/
def mergeD {κ : Type} [DecidableEq κ] (kvs more : List (κ × D)) : List (κ × D) := more.foldl (fun acc kv => putD acc kv.1 kv.2) kvs
def pairsK : List D → Option (List (Key × D))
  | [] => some []
  | .tup [k, v] :: r => match keyK k, pairsK r with
    | some k, some r => some ((k, v) :: r)
    | _, _ => none
  | _ :: _ => none
def dictD : List D → Sto → R D
  | [.ref j], S => match S[j]? with
    | some (.lst xs) => match pairsK xs with
      | some kvs => .ok (.ref S.length) (S ++ [.dK (mergeD [] kvs)])
      | none => .no
    | _ => .no
  | _, _ => .no
theorem mergeD_rpf {K : PySem.W.Frag} {mg : Str → Option Value} {H : Hp} {m : List Addr} : ∀ {more : List (Key × D)} {kvs : List (Key × D)} {qs : List (Key × V)} {rs : List (Key × V)}, Rpf K mg H m more rs → Rpf K mg H m kvs qs → Rpf K mg H m (mergeD kvs more) (mergeK qs rs) := by
  intro more
  induction more with
  | nil => intro kvs qs rs h1 h2; cases h1; exact h2
  | cons a more ih =>
    intro kvs qs rs h1 h2
    cases h1 with
    | @cons _ y _ ys h t =>
      obtain ⟨e, r⟩ := h
      have := h2.put a.1 r
      rw [show mergeK qs (y :: ys) = mergeK (putK qs y.1 y.2) ys from rfl, ← e]
      exact ih t this
theorem mergeD_ok : ∀ {more kvs : List (Key × D)}, keysOk more = true → keysOk kvs = true → keysOk (mergeD kvs more) = true := by
  intro more
  induction more with
  | nil => intro kvs _ h; exact h
  | cons a more ih =>
    intro kvs h1 h2
    unfold keysOk at h1
    rw [List.all_cons, Bool.and_eq_true] at h1
    exact ih h1.2 (keysOk_put h2 h1.1)
theorem pairsK_v {K : PySem.W.Frag} {mg : Str → Option Value} {H : Hp} {m : List Addr} : ∀ {ds : List D} {vs : List V} {kvs : List (Key × D)}, Rps K mg H m ds vs → pairsK ds = some kvs →
    ∃ (ps : List Addr) (qs : List (Key × V)), vs = ps.map V.ref ∧ Paired (fun p kv => SqT K H p [kV kv.1, kv.2]) ps qs ∧ Rpf K mg H m kvs qs ∧ keysOk kvs = true
  | [], _, _, h, e => by cases h; cases e; exact ⟨[], [], rfl, .nil, .nil, rfl⟩
  | d :: ds, _, kvs, h, e => by
    cases h with
    | cons h1 h2 =>
      unfold pairsK at e
      split at e
      · rename_i heq; cases heq
      · rename_i k v r heq
        cases heq
        split at e
        · rename_i k' r' e1 e2
          cases e
          obtain ⟨ps, qs, a1, a2, a3, a4⟩ := pairsK_v h2 e2
          cases h1 with
          | @tup a xs _ h3 h4 =>
            cases h4 with
            | cons r1 h5 =>
              cases h5 with
              | @cons _ w _ _ r2 h6 =>
                cases h6
                have kk := keyK_v r1 e1
                refine ⟨a :: ps, (k', w) :: qs, by rw [a1]; rfl, .cons ?_ a2, .cons ⟨rfl, r2⟩ a3, ?_⟩
                · rw [← kk.1]
                  exact SqT.of h3
                · unfold keysOk at a4 ⊢
                  rw [List.all_cons, a4, keyK_ok r1 e1] <;> rfl
        · cases e
      · cases e
theorem cm_dict (hc : X.calm = true) : CallM X (.type "dict") dictD := by
  refine ⟨_, call_dictP hc, fun H m S vs ds σ W Q st rs q => ?_⟩
  unfold dictD at q
  split at q
  · split at q
    · rename_i xs hs
      split at q
      · rename_i kvs hk
        cases rs with
        | cons r1 rn =>
          cases rn
          cases r1 with
          | @ref _ a hj =>
            obtain ⟨us, p1, p2⟩ := st.obj _ _ _ hs hj
            obtain ⟨ps, qs, a1, a2, a3, a4⟩ := pairsK_v p2 hk
            refine ⟨a, ps, qs, rfl, by rw [← a1]; exact SqL.of p1, a2, fun p hp => ?_⟩
            have g0 : Gr H m (upd H p (.dK (mergeK [] qs))) (m ++ [p]) := st.push_gr hp
            obtain ⟨g2, st2⟩ := st.push (ho := .dK (mergeK [] qs)) (o := .dK (mergeD [] kvs)) hp rfl ⟨_, upd_same, Rpf.mono st g0 (mergeD_rpf a3 .nil), mergeD_ok a4 rfl⟩
            exact q _ _ _ g2 st2 (.ref (by rw [← st.len]; simp))
      · exact q.elim
    · exact q.elim
  · exact q.elim
def listItemsD (d : D) (S : Sto) : R D := match d with
  | .ref j => match S[j]? with
    | some (.dK kvs) => .ok (.ref S.length) (S ++ [.lst (kvs.map fun kv => .tup [kD kv.1, kv.2])])
    | _ => .no
  | _ => .no
theorem ce_listItems {ex : Expr} {f : ME} {p apos cpos pos : Pos} (hc : X.calm = true) (hg : Gl X "list") (hm : X.mg "list" = none) (hv : bootBuiltins "list" = some (.type "list")) (he : CE X W ex f)
    (hp : ∀ {te : TE}, PE X ex te → PE X (.Call (.Name "list" p) [.Call (.Attribute ex "items" apos) [] [] cpos] [] pos) (LiI.tListItems te)) : CE X W (.Call (.Name "list" p) [.Call (.Attribute ex "items" apos) [] [] cpos] [] pos) (mUn listItemsD f) := by
  refine ⟨PEi (hp he.run) fun σ H Q ⟨m, e, S, st, sl, q⟩ => ?_⟩
  refine tM_bind st sl q fun d S1 v H1 m1 _ g1 st1 sl1 r1 q1 => ?_
  unfold listItemsD at q1
  split at q1
  · rename_i j
    cases r1 with
    | ref hj =>
      split at q1
      · rename_i kvs hs
        obtain ⟨vs, p1, p2, p3⟩ := st1.obj _ _ _ hs hj
        refine ⟨_, vs, rfl, p1, fun H' p ts k hp _ hnt hl hts => ?_⟩
        obtain ⟨gA, stA⟩ := st1.grow (LamX.ExtN.of k) (st1.tab.ext k)
        have hpm : p ∉ m1 := fun z => by
          obtain ⟨o, ho, _⟩ := st1.kind z
          rw [hp] at ho
          cases ho
        have hr : ∀ {ts : List Addr} {kvs : List (Key × D)} {vs : List (Key × V)}, Rpf X.K X.mg H1 m1 kvs vs → keysOk kvs = true → Paired (fun (t : Addr) (q : Key × V) => H' t = some (.tup [kV q.1, q.2])) ts vs →
            Rps X.K X.mg H' m1 (kvs.map fun kv => D.tup [kD kv.1, kv.2]) (ts.map V.ref) := by
          intro ts kvs vs a b c
          induction c generalizing kvs with
          | nil => cases a; exact .nil
          | cons h t ih =>
            cases a with
            | @cons x y xs ys h1 h2 =>
              unfold keysOk at b
              rw [List.all_cons, Bool.and_eq_true] at b
              obtain ⟨h1a, h1b⟩ := h1
              rw [List.map_cons, List.map_cons]
              refine .cons (.tup h (.two ?_ (Rp.mono st1 gA _ _ h1b))) (ih h2 b.2)
              rw [← h1a]
              exact key_rp b.1
        obtain ⟨gB, stB⟩ := stA.adopt gA (p := p) (o := .lst (kvs.map fun kv => .tup [kD kv.1, kv.2])) hp hpm ⟨_, hl, hr p2 p3 hts⟩
        exact q1 _ _ _ gB stB (.ref (by rw [← stA.len]; simp))
      · exact q1.elim
  · exact q1.elim
end
end Mi

set_option Elab.async false
set_option linter.all false
set_option maxRecDepth 100000
set_option maxHeartbeats 1000000
namespace Mi
open PySem PySem.Spec PyProof.Rows L2
variable [TabsOf]
theorem lenOk {X : Cx} {W : WX} (tk : Takes X W) : Takes X (fun c d σ H => σ.length = X.N.length → W c d σ H) := fun u s' ⟨a, B, sI, pins, σ, H, cls, d, e, I, nb, up, sky, na, os, ag, w⟩ =>
  tk u s' ⟨a, B, sI, pins, σ, H, cls, d, e, I, nb, up, sky, na, os, ag, w I.len⟩

/-! ### a def that calls the lambda it got: try: return (S, ask()) except .. -/
/-- the def's answer, g being what the lambda does -/
def metM (n : Nat) (excs : List Str) (hf : List (Str × Nat × HF)) (mk : D → Sto → R D) (g : Sto → R D) : Sto → R D := fun S => match g S with
  | .ok v S => mk v S
  | .exc c f d S => if c ∈ excs then (match hdl f d (List.replicate n none) S c hf with
    | .go (.rt v) _ S => .ok v S
    | _ => .no) else .no
  | .no => .no
/-- what pe_lamcall is to be told -/
def TTm (K : PySem.W.Frag) (mg : Str → Option Value) (M : (Sto → R D) → Sto → R D) : (XK → Hp → VK → Prop) → Hp → VK → Prop := fun tl H Q =>
  ∃ (m : List Addr) (S : Sto) (g : Sto → R D), Stt K mg H m S ∧ (∀ E Q', okR K mg H m [] (WD E) (RpR K mg) Q' (g S) → tl E H Q') ∧ okR K mg H m [] W0 (RpR K mg) Q (M g S)
theorem okR.sig {K : PySem.W.Frag} {mg : Str → Option Value} {H : Hp} {m : List Addr} {σ σ' : L2.St} {E : XK} {Q : VK} {r : R D} (h : okR K mg H m σ (WD E) (RpR K mg) Q r) : okR K mg H m σ' (WD E) (RpR K mg) Q r := by
  cases r with
  | ok a S => exact h
  | exc c f d S => exact h
  | no => exact h
theorem none_sl {K : PySem.W.Frag} {mg : Str → Option Value} {H : Hp} {m : List Addr} {σ : L2.St} {n : Nat} (h : σ.length = n) : Sl K mg H m (List.replicate n none) σ := by
  refine ⟨by simp [h], fun i d q => ?_⟩
  rw [List.getElem?_replicate] at q
  split at q <;> cases q
section
variable {X : Cx} {W : WX}
def mLam (M : (Sto → R D) → Sto → R D) (f : ME) : ME := fun e S => match M (fun S => f e S) S with
  | .ok d S => .ok d S
  | _ => .no
/-- x(lambda: body) -/
theorem ce_lam {x a : Str} {g c P : Addr} {k : Nat} {pg : Arguments} {bg : List Stmt} {sg : Scope} {dV kV doc pm cdv ct oc : Value} {an od : Option Addr} {osl : Array (Option Value)} {Ng : List Str} {M : (Sto → R D) → Sto → R D}
    {params : Arguments} {body : Expr} {scope : Scope} {f : ME} {p lpos pos : Pos} (hg : Gl X x) (hm : X.mg x = some (.ref g)) (hk : PySem.W.keepIn X.K (.ref g) = true)
    (lk : X.K.lookup g = some ⟨oc, od, .func (PySem.W.fnOf x x pg bg sg dV kV doc pm an cdv ct), osl⟩) (hcg : PySem.W.codeIn X.K cdv x = true) (hb : L2.Binds X.K (PySem.W.fnOf x x pg bg sg dV kV doc pm an cdv ct) [a] []) (Sg : FnScope Ng [a] sg) (hNg : Ng[0]? = some a) (hva : Vis sg a)
    (hG : LamX.GivesTo X Ng x sg g cdv bg a (X.env.qual ++ "<lambda>") (TTm X.K X.mg M))
    (TB : LamX.TabB X.base X.mg c P) (hcode : X.env.code = .ref c) (hmT : (P, X.env.qual ++ "<lambda>") ∈ TabsOf.tabs) (hu : ∀ p ∈ TabsOf.tabs, p.1 = P → p.2 = X.env.qual ++ "<lambda>") (hr : Room (k + 2) X.A) (L : LamX.LamS X.env.scope scope) (hdef : defaultsOf params X.env = ([], []))
    (hbind : ∀ (q : Str) (cl : List (Str × Addr)) (pm cv ctv : Value), bindArgs (PySem.W.kla_fn "<lambda>" q params body scope cl pm cv ctv) ⟨[], []⟩ = pure [])
    (hbody : ∀ (A : Around) (outer : List Env) (s : Shared) (H : Hp) (E : XK) (f' c' : Addr), Room k (A.deeper (LamX.lamEnv X scope s.heap.objs.size f' c')) → CE (LamX.lamCx X A outer s H E scope f' c') (WD E) body f)
    (hdb : (x == ("__debug__" : Str)) = false := by decide) (hd : (a == ("__debug__" : Str)) = false := by decide) (hcd : (a == ("__classdict__" : Str)) = false := by decide) :
    CE X W (.Call (.Name x p) [.Lambda params body scope lpos] [] pos) (mLam M f) := by
  refine ⟨PEi (LamX.pe_lamcall (t := fun E => tE X.K X.mg (WD E) f) hg hm hk lk hcg hb Sg hNg hva hG TB hcode hmT hu hr L hdef hbind (fun A outer s H E f' c' h => (hbody A outer s H E f' c' h).run) hdb hd hcd) fun σ H Q ⟨m, e, S, st, sl, q⟩ => ?_⟩
  refine ⟨st.tab, fun H1 k1 t1 => ?_⟩
  obtain ⟨g1, st1⟩ := st.grow k1 t1
  refine ⟨m, S, fun S => f e S, st1, fun E Q' h => ⟨m, e, S, st1, sl.mono st g1, okR.sig h⟩, ?_⟩
  unfold mLam at q
  cases hM : M (fun S => f e S) S with
  | ok d S2 => rw [hM] at q; exact okR.mono (show okR X.K X.mg H m [] W0 (RpR X.K X.mg) Q (.ok d S2) from q) g1
  | exc c f d S2 => rw [hM] at q; exact q.elim
  | no => rw [hM] at q; exact q.elim
end
end Mi

set_option Elab.async false
set_option linter.all false
set_option maxRecDepth 100000
set_option maxHeartbeats 1000000
namespace Mi
open PySem PySem.Spec PyProof.Rows L2
variable [TabsOf]
/-- a, b, c = x, y, z (plain local names) -/
def mPar3 (i j l : Nat) (a : MA) : MS := fun e S => (a e S).thn e fun ds S => match ds with
  | [x, y, z] => .go .nx (((e.set i (some x)).set j (some y)).set l (some z)) S
  | _ => .no
section
variable {X : Cx} {W : WX}
theorem cs_par3 {i j l : Nat} {x y z : Str} {a b c : Expr} {f : MA} {px py pz pt : Pos} {kt k2 pt2} {pos : Pos} (hf : CA X W [a, b, c] f) (hp : ∀ {ta : TA}, PA X [a, b, c] ta → PS X (.Assign [.Tuple [.Name x px, .Name y py, .Name z pz] kt pt] (.Tuple [a, b, c] k2 pt2) pos) (L2.tPar3 i j l ta)) :
    CS X W (.Assign [.Tuple [.Name x px, .Name y py, .Name z pz] kt pt] (.Tuple [a, b, c] k2 pt2) pos) (mPar3 i j l f) := by
  refine ⟨PSi (hp hf.run) fun E σ H ⟨m, e, S, st, sl, q⟩ => ?_⟩
  refine tS_bind st sl q fun ds S1 vs H1 m1 hfe g1 st1 sl1 r1 q1 => ?_
  have hl := hf.len _ _ _ _ hfe
  match ds, hl, r1, q1 with
  | [x, y, z], _, r1, q1 =>
    cases r1 with
    | cons ra rn =>
      cases rn with
      | cons rb rn =>
        cases rn with
        | cons rc rn =>
          cases rn
          exact ⟨_, _, _, rfl, q1 _ H1 m1 (Gr.refl _ _) st1 (((sl1.set i ra).set j rb).set l rc)⟩
end
/-! ### defs by name -/
structure Df (K : PySem.W.Frag) (mg : Str → Option Value) (x : Str) (st : Stmt) (ps : List Str) : Prop where
  ex : ∃ f fd, Fun K x x st f fd ∧ mg x = some (.ref f) ∧ Binds K fd ps []
structure Cal (P : Program) (w : World) (K : PySem.W.Frag) (mg : Str → Option Value) (base : Heap) (k : Nat) (x : Str) (st : Stmt) (ps : List Str) (g : FM) : Prop where
  ex : ∃ f fd, Fun K x x st f fd ∧ FnD P w K mg base k f fd ps g ∧ mg x = some (.ref f) ∧ Binds K fd ps []
section
variable {P : Program} {w : World} {K : PySem.W.Frag} {mg : Str → Option Value} {base : Heap}
theorem cal_of {x : Str} {st : Stmt} {N ps : List Str} {k : Nat} {b : MS} (F : Df K mg x st ps) (S : FnScope N ps (defScope st))
    (body : ∀ (f : Addr) (cdv : Value) (A : Around) (outer : List Env) (s : Shared) (H : Hp) (E : XK), Room k (A.deeper (envOfC x (defScope st) s.heap.objs.size f cdv)) →
      CSs (cxOf (L2.CX P w) P w K mg base N x (defScope st) f cdv A outer s H E) (WD E) (defBody st) b) : Cal P w K mg base (k + 1) x st ps (mDef N.length b) := by
  obtain ⟨f, fd, h1, h2, h3⟩ := F.ex
  exact ⟨f, fd, h1, fnD_of h1 S (body f), h2, h3⟩
theorem cal_no {x : Str} {st : Stmt} {N ps : List Str} (F : Df K mg x st ps) (S : FnScope N ps (defScope st)) : Cal P w K mg base 1 x st ps (fun _ _ => .no) := by
  obtain ⟨f, fd, h1, h2, h3⟩ := F.ex
  refine ⟨f, fd, h1, Fun.okX h1 S (fun vs H Q E ⟨m, ds, S, st, r, hl, q⟩ => q.elim) fun cdv A outer s H vs Q E hr ⟨m, ds, S, st, r, hl, q⟩ => q.elim, h2, h3⟩
end
section
variable {X : Cx} {W : WX}
theorem ce_cal {k : Nat} {st : Stmt} {ps : List Str} {g : FM} {x : Str} {p pos : Pos} {ex : Expr} {es : List Expr} {a : MA} (C : Cal X.prog X.w X.K X.mg X.base k x st ps g) (hr : Room k X.A) (tk : Takes X W) (ha : CA X W (ex :: es) a) (hg : Gl X x := by rfl)
    (hl : (ex :: es).length = ps.length := by rfl) (hdb : (x == ("__debug__" : Str)) = false := by decide) (he : starEach (ex :: es) X.env = (false, eval ex X.env) :: starEach es X.env := by rfl)
    (hpl : (backTo pos (starEach es X.env)).any (·.1) = false := by rfl) : CE X W (.Call (.Name x p) (ex :: es) [] pos) (mCall g a) := by
  obtain ⟨f, fd, h1, h2, h3, h4⟩ := C.ex
  exact ce_call h2 hr hg h3 h1.kp h4 tk ha hl hdb he hpl
theorem ce_cal0 {k : Nat} {st : Stmt} {g : FM} {x : Str} {p pos : Pos} (C : Cal X.prog X.w X.K X.mg X.base k x st [] g) (hr : Room k X.A) (tk : Takes X W) (hg : Gl X x := by rfl) (hdb : (x == ("__debug__" : Str)) = false := by decide) : CE X W (.Call (.Name x p) [] [] pos) (mCall g mNil) := by
  obtain ⟨f, fd, h1, h2, h3, h4⟩ := C.ex
  exact ce_call0 h2 hr hg h3 h1.kp h4 tk hdb
theorem ce_calK {k n : Nat} {st : Stmt} {ps ks : List Str} {g : FM} {x : Str} {p pos : Pos} {ex : Expr} {es : List Expr} {kws : List Keyword} {a ak : MA} {pi : List Nat} (C : Cal X.prog X.w X.K X.mg X.base k x st ps g) (hr : Room k X.A) (tk : Takes X W)
    (hb : ∀ f fd, Fun X.K x x st f fd → KwB X.K fd ps n ks pi) (ha : CA X W (ex :: es) a) (hkw : CK X W kws ak) (hg : Gl X x := by rfl) (hl : (ex :: es).length = n := by rfl) (hl2 : kws.length = ks.length := by rfl) (hall : (backToKw pos (keywordEach kws X.env)).all (·.1.isSome) = true := by rfl) (hks : (backToKw pos (keywordEach kws X.env)).filterMap (·.1) = ks := by rfl)
    (hdb : (x == ("__debug__" : Str)) = false := by decide) (he : starEach (ex :: es) X.env = (false, eval ex X.env) :: starEach es X.env := by rfl)
    (hpl : ((backTo pos (starEach (ex :: es) X.env)).any (·.1) || (backToKw pos (keywordEach kws X.env)).any (·.1.isNone)) = false := by rfl) : CE X W (.Call (.Name x p) (ex :: es) kws pos) (mCallK g pi a ak) := by
  obtain ⟨f, fd, h1, h2, h3, h4⟩ := C.ex
  exact ce_callK h2 hr hg h3 h1.kp (hb f fd h1) tk ha hkw hl hl2 hall hks hdb he hpl
theorem ce_calK0 {k : Nat} {st : Stmt} {ps ks : List Str} {g : FM} {x : Str} {p pos : Pos} {kws : List Keyword} {ak : MA} {pi : List Nat} (C : Cal X.prog X.w X.K X.mg X.base k x st ps g) (hr : Room k X.A) (tk : Takes X W)
    (hb : ∀ f fd, Fun X.K x x st f fd → KwB X.K fd ps 0 ks pi) (hkw : CK X W kws ak) (hg : Gl X x := by rfl) (hl2 : kws.length = ks.length := by rfl) (hall : (backToKw pos (keywordEach kws X.env)).all (·.1.isSome) = true := by rfl) (hks : (backToKw pos (keywordEach kws X.env)).filterMap (·.1) = ks := by rfl)
    (hdb : (x == ("__debug__" : Str)) = false := by decide)
    (hpl : ((backTo pos (starEach [] X.env)).any (·.1) || (backToKw pos (keywordEach kws X.env)).any (·.1.isNone)) = false := by rfl) : CE X W (.Call (.Name x p) [] kws pos) (mCallK g pi mNil ak) := by
  obtain ⟨f, fd, h1, h2, h3, h4⟩ := C.ex
  exact ce_callK0 h2 hr hg h3 h1.kp (hb f fd h1) tk hkw hl2 hall hks hdb hpl
theorem u65 {A : Around} {k : Nat} (hr : Room k A) : A.units + 65 < cLine := by
  have := hr.un
  omega
theorem u64 {A : Around} {k : Nat} (hr : Room k A) : A.units + 64 < cLine := by
  have := hr.un
  omega
theorem tkD {P : Program} {w : World} {K : PySem.W.Frag} {mg : Str → Option Value} {base : Heap} {N : List Str} {qual : Str} {scope : Scope} {f : Addr} {cd : Value} {A : Around} {outer : List Env} {s : Shared} {H : Hp} {E : XK} : Takes (cxOf (L2.CX P w) P w K mg base N qual scope f cd A outer s H E) (WD E) :=
  takes_of rfl rfl rfl rfl
theorem tkL {A : Around} {outer : List Env} {s : Shared} {H : Hp} {E : XK} {scope : Scope} {f c : Addr} : Takes (LamX.lamCx X A outer s H E scope f c) (WD E) :=
  takes_of rfl rfl rfl rfl
theorem tk0 : Takes X W0 := takes0
end
/-! ### the law's def, whose code object is known -/
structure DfC (K : PySem.W.Frag) (mg : Str → Option Value) (x : Str) (st : Stmt) (ps : List Str) (c : Addr) : Prop where
  ex : ∃ f fd, Fun K x x st f fd ∧ mg x = some (.ref f) ∧ Binds K fd ps [] ∧ fd.code = .ref c
theorem cal_ofC {P : Program} {w : World} {K : PySem.W.Frag} {mg : Str → Option Value} {base : Heap} {x : Str} {st : Stmt} {N ps : List Str} {k : Nat} {b : MS} {c : Addr} (F : DfC K mg x st ps c) (S : FnScope N ps (defScope st))
    (body : ∀ (f : Addr) (A : Around) (outer : List Env) (s : Shared) (H : Hp) (E : XK), Room k (A.deeper (envOfC x (defScope st) s.heap.objs.size f (.ref c))) →
      CSs (cxOf (L2.CX P w) P w K mg base N x (defScope st) f (.ref c) A outer s H E) (WD E) (defBody st) b) : Cal P w K mg base (k + 1) x st ps (mDef N.length b) := by
  obtain ⟨f, fd, h1, h2, h3, h4⟩ := F.ex
  refine ⟨f, fd, h1, ?_, h2, h3⟩
  obtain ⟨oc, od, kV, doc, pm, an, cdv, ct, osl, rfl, lk, hcd⟩ := h1.ex
  have e : cdv = .ref c := h4
  subst e
  refine fn_of lk hcd S (fun vs H Q E h => ?_) fun A outer s H vs Q E hr h => ?_
  · obtain ⟨m, ds, S, st, r, hl, q⟩ := h
    rw [← r.length]
    exact hl
  · obtain ⟨m, ds, S, st, r, hl, q⟩ := h
    refine ⟨_, (body f A outer s H E hr).run, m, mStart N.length ds, S, st, start_sl r, ?_⟩
    show okS K mg H m (WD E) _ (b (mStart N.length ds) S)
    unfold mDef at q
    cases hb : b (mStart N.length ds) S with
    | go fl e S' =>
      rw [hb] at q
      cases fl with
      | nx => exact fun σ' H' m' g st' sl' => q .non H' m' g st' .non
      | rt d => exact fun v H' m' g st' r' => q v H' m' g st' r'
      | bk => exact q.elim
      | ct => exact q.elim
    | exc c f d e S' =>
      rw [hb] at q
      exact fun ca dx v σ' H' m' g st' sl' hc hd r' => q ca dx v H' m' g st' hc hd r'
    | no => rw [hb] at q; exact q.elim
end Mi

set_option Elab.async false
set_option linter.all false
set_option maxRecDepth 100000
set_option maxHeartbeats 1000000
namespace Mi
open PySem PySem.Spec PyProof.Rows L2
variable [TabsOf]
theorem ce_gstrE {X : Cx} {W : WX} {x z : Str} {pos : Pos} (hg : Gl X x) (hm : ∃ t, X.mg x = some (.str z t)) (h : txtOk z = true := by decide +kernel) (hd : (x == ("__debug__" : Str)) = false := by decide) : CE X W (.Name x pos) (mC (.str z)) :=
  let ⟨_, hm⟩ := hm
  ce_gstr hg hm h hd
theorem Cal.mono {P : Program} {w : World} {K : PySem.W.Frag} {mg : Str → Option Value} {base : Heap} {k k' : Nat} {x : Str} {st : Stmt} {ps : List Str} {g : FM} (C : Cal P w K mg base k x st ps g) (h : k ≤ k') : Cal P w K mg base k' x st ps g := by
  obtain ⟨f, fd, h1, h2, h3, h4⟩ := C.ex
  exact ⟨f, fd, h1, ⟨h2.len, fun A outer s H args us vs Q E hr => h2.run A outer s H args us vs Q E (hr.mono h)⟩, h3, h4⟩
/-- LamX.GivesTo by its parts -/
def GiveE (P : Program) (w : World) (K : PySem.W.Frag) (mg : Str → Option Value) (base : Heap) (A : Around) (outer : List Env) (Ng : List Str) (x : Str) (sg : Scope) (g : Addr) (cdg : Value) (bg : List Stmt) (a : Str) (q : Str) (TT : (XK → Hp → VK → Prop) → Hp → VK → Prop) : Prop :=
  ∀ (f c' : Addr) (s : Shared) (H : Hp) (Q : VK) (tl : XK → Hp → VK → Prop),
    (∀ (W : WX) (pn : List (Addr × Obj)) (xe : Value → Shared → Prop) (E : XK) (p1 p2 : Pos), Takes ((cxOf C8.CX0 P w K mg base Ng x sg g cdg A outer s H C8.E0).tr pn xe) W → (∀ cls d σ' H', E cls d H' → W cls d σ' H') →
      PE ((cxOf C8.CX0 P w K mg base Ng x sg g cdg A outer s H C8.E0).tr pn xe) (.Call (.Name a p1) [] [] p2) (fun σZ HZ Q => σZ[0]? = some (some (.ref f)) ∧ HZ c' = some (LamX.CodeO c' q) ∧ tl E HZ Q)) →
    H c' = some (LamX.CodeO c' q) → TT tl H Q →
    ∃ t, PSs (cxOf C8.CX0 P w K mg base Ng x sg g cdg A outer s H C8.E0).nox bg t ∧ t { nx := fun _ H' => Q .non H', rt := Q } (L2.start Ng [.ref f]) H
theorem met_givesE {P : Program} {w : World} {K : PySem.W.Frag} {mg : Str → Option Value} {base : Heap} {A : Around} {outer : List Env} {Ng : List Str} {x a q s : Str} {sg : Scope} {g : Addr} {cdg : Value} {j j2 : Nat} {p1 p2 p3 p8 q1 q2 : Pos} {excs : List Str} {h0 : ExceptHandler} {hs : List ExceptHandler} {hf : List (Str × Nat × HF)} (ts : txtOk s = true) (hN : Ng.Nodup) (hn : ∀ f : Addr, (L2.start Ng [V.ref f])[0]? = some (some (V.ref f)))
    (hh : ∀ (s : Shared) (H : Hp), ∃ cs, HdMs (cxOf C8.CX0 P w K mg base Ng x sg g cdg A outer s H C8.E0).nox excs (h0 :: hs) cs hf) :
    GiveE P w K mg base A outer Ng x sg g cdg [.Try [.Return (some (.Tuple [.Constant (.str s) j q1, .Call (.Name a p1) [] [] p2] j2 q2)) p3] (h0 :: hs) [] [] p8] a q (TTm K mg (metM Ng.length excs hf fun v S => .ok (.tup [.str s, v]) S)) := by
  intro f c' s0 H Q tl act hc ⟨m, S, g0, st, htl, hq⟩
  obtain ⟨cs, hh⟩ := hh s0 H
  refine ⟨_, pss_one (ps_try_clauses (X := (cxOf C8.CX0 P w K mg base Ng x sg g cdg A outer s0 H C8.E0).nox)
      (tb := fun W D σ H => ∃ Ech : XK, (∀ cls d σ' H', σ'.length = Ng.length → Ech cls d H' → W cls d σ' H') ∧ σ[0]? = some (some (.ref f)) ∧ H c' = some (LamX.CodeO c' q) ∧ tl Ech H (fun v H' => 2 ≤ sizeLine ∧ ∀ p, H' p = none → D.rt (.ref p) (upd H' p (.tup [.str s, v]))))
      rfl rfl hN LamX.takes0 (fun W pn xe tk _ => ⟨fun pins s' σ H' D I h' => ?_⟩) hh.clauses), ?_⟩
  · obtain ⟨Ech, hW, h1, h2, h3⟩ := h'
    have hp := act _ pn xe Ech p1 p2 (lenOk tk) (fun cls d σ' H' he hl => hW cls d σ' H' hl he)
    have hr := pss_one (ps_ret (pos := p3) (pe_tup (x1 := j2) (pos := q2) (pa_cons (pe_str (x := s) (j := j) (pos := q1)) (pa_cons hp pa_nil))))
    exact hr.run pins s' σ H' D I ⟨h1, h2, h3⟩
  · refine ⟨fun cls d H' => ∃ (c fl : Str) (dd : D) (ca dx : Addr) (v : V) (m' : List Addr) (S' : Sto), cls = .ref ca ∧ d = some dx ∧ Stt K mg H' m' S' ∧ mg c = some (.ref ca) ∧ H' dx = some (.xd [(fl, v)]) ∧ Rp K mg H' m' dd v ∧ c ∈ excs ∧
        okS K mg H' m' (fun _ _ _ _ => False) { nx := fun _ H' => Q .non H', rt := Q } (hdl fl dd (List.replicate Ng.length none) S' c hf), ?_, hn f, hc, htl _ _ ?_⟩
    · rintro cls d σ' H' hl ⟨c, fl, dd, ca, dx, v, m', S', rfl, rfl, st', hca, hdx, r, hc', ho⟩
      exact hdl_wish hh hc' st' (none_sl hl) hca hdx r ho
    · unfold metM at hq
      cases hg : g0 S with
      | ok v S1 =>
        rw [hg] at hq
        refine fun w H' m' gr st' r => ⟨by decide, fun p hp => ?_⟩
        exact st'.newT (σ := []) (W := W0) hp (.two (.str _ ts) r) (okR.mono hq gr)
      | exc c fl d S1 =>
        rw [hg] at hq
        have hq : okR K mg H m [] W0 (RpR K mg) Q (if c ∈ excs then (match hdl fl d (List.replicate Ng.length none) S1 c hf with
          | .go (.rt v) _ S => .ok v S
          | _ => .no) else .no) := hq
        by_cases hce : c ∈ excs
        · rw [if_pos hce] at hq
          refine fun ca dx v H' m' gr st' hca hdx r => ⟨c, fl, d, ca, dx, v, m', S1, rfl, rfl, st', hca, hdx, r, hce, ?_⟩
          cases hh2 : hdl fl d (List.replicate Ng.length none) S1 c hf with
          | go fl e S2 =>
            rw [hh2] at hq
            cases fl with
            | rt d2 => exact fun u H2 m2 g2 s2 r2 => hq u H2 m2 (gr.trans g2) s2 r2
            | nx => exact hq.elim
            | bk => exact hq.elim
            | ct => exact hq.elim
          | exc c f d e S2 => rw [hh2] at hq; exact hq.elim
          | no => rw [hh2] at hq; exact hq.elim
        · rw [if_neg hce] at hq
          exact hq.elim
      | no => rw [hg] at hq; exact hq.elim

theorem hdE {X : Cx} {excs : List Str} {x n fld s : Str} {i k1 k2 : Nat} {p1 p2 q1 q2 q3 q4 q5 : Pos} {hs : List ExceptHandler} {hf : List (Str × Nat × HF)} (F : ExcF X.prog X.w X.K X.mg X.base x fld) (hm : ∃ C, X.mg x = some (.ref C))
    (xm : ∀ c ∈ excs, ∀ ca C, X.mg c = some (.ref ca) → X.mg x = some (.ref C) → PySem.W.exmOne X.K (.ref ca) (.ref C) = some (decide (c = x))) (tail : ∃ cs, HdMs X excs hs cs hf)
    (hg : Gl X x := by rfl) (slot : X.N[i]? = some n := by rfl) (kind : X.env.kindOf n = some .local := by rfl) (ts : txtOk s = true := by decide +kernel)
    (hdx : (x == ("__debug__" : Str)) = false := by decide) (hdn : (n == ("__debug__" : Str)) = false := by decide) (hcn : (n == ("__classdict__" : Str)) = false := by decide) :
    ∃ cs', HdMs X excs (.ExceptHandler (some (.Name x p1)) (some n) [.Return (some (.Tuple [.Constant (.str s) k1 q1, .Attribute (.Name n q2) fld q3] k2 q4)) q5] p2 :: hs) cs' ((x, i, hfPair s fld) :: hf) := by
  obtain ⟨C, hm⟩ := hm
  obtain ⟨cs, tail⟩ := tail
  exact hd_pair F hg hdx hm slot kind hdn hcn ts (fun c hc ca hca => xm c hc ca C hca hm) tail
/-- a def that is handed a lambda -/
structure CalM (P : Program) (w : World) (K : PySem.W.Frag) (mg : Str → Option Value) (base : Heap) (x : Str) (st : Stmt) (Ng : List Str) (a : Str) (M : (Sto → R D) → Sto → R D) : Prop where
  ex : ∃ (g : Addr) (oc kV doc pm cdv ct : Value) (an od : Option Addr) (osl : Array (Option Value)), K.lookup g = some ⟨oc, od, .func (PySem.W.fnOf x x (defArgs st) (defBody st) (defScope st) .none kV doc pm an cdv ct), osl⟩ ∧ PySem.W.codeIn K cdv x = true ∧
    L2.Binds K (PySem.W.fnOf x x (defArgs st) (defBody st) (defScope st) .none kV doc pm an cdv ct) [a] [] ∧ mg x = some (.ref g) ∧ PySem.W.keepIn K (.ref g) = true ∧ FnScope Ng [a] (defScope st) ∧ Ng[0]? = some a ∧ Vis (defScope st) a ∧
    ∀ (A : Around) (outer : List Env) (q : Str), GiveE P w K mg base A outer Ng x (defScope st) g cdv (defBody st) a q (TTm K mg M)
theorem calM_of {P : Program} {w : World} {K : PySem.W.Frag} {mg : Str → Option Value} {base : Heap} {x a : Str} {st : Stmt} {Ng : List Str} {M : (Sto → R D) → Sto → R D} (F : Df K mg x st [a]) (S : FnScope Ng [a] (defScope st)) (h0 : Ng[0]? = some a) (hv : Vis (defScope st) a)
    (h : ∀ (g : Addr) (cdv : Value) (A : Around) (outer : List Env) (q : Str), GiveE P w K mg base A outer Ng x (defScope st) g cdv (defBody st) a q (TTm K mg M)) : CalM P w K mg base x st Ng a M := by
  obtain ⟨f, fd, h1, h2, h3⟩ := F.ex
  obtain ⟨oc, od, kV, doc, pm, an, cdv, ct, osl, rfl, lk, hcd⟩ := h1.ex
  exact ⟨f, oc, kV, doc, pm, cdv, ct, an, od, osl, lk, hcd, h3, h2, h1.kp, S, h0, hv, fun A outer q => h f cdv A outer q⟩
/-- what the law's code object needs -/
structure LawC (base : Heap) (mg : Str → Option Value) (c P : Addr) (x : Str) : Prop where
  TB : LamX.TabB base mg c P
  mem : (P, x ++ ".<locals>." ++ "<lambda>") ∈ TabsOf.tabs
  uniq : ∀ p ∈ TabsOf.tabs, p.1 = P → p.2 = x ++ ".<locals>." ++ "<lambda>"
theorem ce_lamM {X : Cx} {W : WX} {x a y : Str} {st : Stmt} {Ng : List Str} {M : (Sto → R D) → Sto → R D} {c P : Addr} (k : Nat) {params : Arguments} {body : Expr} {scope : Scope} {f : ME} {p lpos pos : Pos} (C : CalM X.prog X.w X.K X.mg X.base x st Ng a M) (lw : LawC X.base X.mg c P y) (hr : Room (k + 2) X.A) (hg : Gl X x)
    (L : LamX.LamS X.env.scope scope) (hdef : defaultsOf params X.env = ([], []))
    (hbind : ∀ (q : Str) (cl : List (Str × Addr)) (pm cv ctv : Value), bindArgs (PySem.W.kla_fn "<lambda>" q params body scope cl pm cv ctv) ⟨[], []⟩ = pure [])
    (hbody : ∀ (A : Around) (outer : List Env) (s : Shared) (H : Hp) (E : XK) (f' c' : Addr), Room k (A.deeper (LamX.lamEnv X scope s.heap.objs.size f' c')) → CE (LamX.lamCx X A outer s H E scope f' c') (WD E) body f)
    (hcode : X.env.code = .ref c := by rfl) (hq : X.env.qual = y ++ ".<locals>." := by rfl)
    (hdb : (x == ("__debug__" : Str)) = false := by decide) (hd : (a == ("__debug__" : Str)) = false := by decide) (hcd : (a == ("__classdict__" : Str)) = false := by decide) :
    CE X W (.Call (.Name x p) [.Lambda params body scope lpos] [] pos) (mLam M f) := by
  obtain ⟨g, oc, kV, doc, pm, cdv, ct, an, od, osl, lk, hcg, hb, hm, hk, Sg, hNg, hva, hG⟩ := C.ex
  have e : X.env.qual ++ "<lambda>" = y ++ ".<locals>." ++ "<lambda>" := by rw [hq]
  exact ce_lam hg hm hk lk hcg hb Sg hNg hva (hG X.A X.stack _) lw.TB hcode (by rw [e]; exact lw.mem) (fun p hp h => by rw [e]; exact lw.uniq p hp h) hr L hdef hbind hbody hdb hd hcd
end Mi

set_option Elab.async false
set_option linter.all false
set_option maxRecDepth 100000
set_option maxHeartbeats 1000000
namespace Mi
open PySem PySem.Spec PyProof.Rows L2
variable [TabsOf]
/-! ### from the head's facts -/
section
variable {K : PySem.W.Frag} {h : Heap} {mg : Str → Option Value}
theorem df_mk {x : Str} {st : Stmt} {ps : List Str} {f : Addr} {oc kV doc pm cdv ct : Value} {od an : Option Addr} {osl : Array (Option Value)} (X : K.In h) (G : h.Ns mainGlobals mg) (a : PySem.W.nsIn K mainGlobals x = some (some (.ref f)))
    (l : K.lookup f = some ⟨oc, od, .func (PySem.W.fnOf x x (defArgs st) (defBody st) (defScope st) .none kV doc pm an cdv ct), osl⟩) (c : PySem.W.codeIn K cdv x = true) (k : PySem.W.keepIn K (.ref f) = true)
    (b : ∀ (kV doc pm : Value) (an : Option Addr) (cdv ct : Value) (us : List Value), us.length = ps.length → bindArgs (PySem.W.fnOf x x (defArgs st) (defBody st) (defScope st) .none kV doc pm an cdv ct) ⟨us, []⟩ = pure (ps.zip us)) : Df K mg x st ps :=
  ⟨f, _, fun_mk l c k, PySem.W.mg_of X G a, .all (b kV doc pm an cdv ct)⟩
theorem dfc_mk {x : Str} {st : Stmt} {ps : List Str} {f cd : Addr} {oc kV doc pm ct : Value} {od an : Option Addr} {osl : Array (Option Value)} (X : K.In h) (G : h.Ns mainGlobals mg) (a : PySem.W.nsIn K mainGlobals x = some (some (.ref f)))
    (l : K.lookup f = some ⟨oc, od, .func (PySem.W.fnOf x x (defArgs st) (defBody st) (defScope st) .none kV doc pm an (.ref cd) ct), osl⟩) (c : PySem.W.codeIn K (.ref cd) x = true) (k : PySem.W.keepIn K (.ref f) = true)
    (b : ∀ (kV doc pm : Value) (an : Option Addr) (cdv ct : Value) (us : List Value), us.length = ps.length → bindArgs (PySem.W.fnOf x x (defArgs st) (defBody st) (defScope st) .none kV doc pm an cdv ct) ⟨us, []⟩ = pure (ps.zip us)) : DfC K mg x st ps cd :=
  ⟨f, _, fun_mk l c k, PySem.W.mg_of X G a, .all (b kV doc pm an (.ref cd) ct), rfl⟩
/-- what stands of an error's class, but for its def -/
structure ExD (K : PySem.W.Frag) (x fld : Str) (st : Stmt) (a b : Str) (C : Addr) : Prop where
  ex : ∃ (fI : Addr) (fd : FuncData) (q : Str), OexC K C ∧ PySem.W.findIn K (.ref C) "__init__" = some (some (.ref fI)) ∧ PySem.W.typeIn K (.ref fI) = some (.type "function") ∧ Fun K "__init__" q st fI fd ∧ Binds K fd [a, b] [] ∧ XfC K C ∧ PySem.W.findIn K (.ref C) fld = some none
theorem exd_mk {x fld q a b : Str} {st : Stmt} {C fI N : Addr} {nm qc : Str} {bs bm sub : List Value} {sn : List Str} {ab : Bool} {col : Option Bool} {dd : Option Addr} {m0 m1 m2 m3 m5 : Option Value} {oc kV doc pm cdv ct : Value} {od an : Option Addr} {osl : Array (Option Value)}
    (xL : K.lookup C = some (excClassObj nm qc C N bs bm true sn sub ab col dd m0 m1 m2 m3 m5 "ValueError.__new__")) (hb : PySem.HandSPX.refsVE bm = true) (sa : PySem.W.findIn K (.ref C) "__setattr__" = some (some (.builtin "object.__setattr__")))
    (ga : PySem.W.findIn K (.ref C) "__getattribute__" = some (some (.builtin "BaseException.__getattribute__"))) (gg : PySem.W.findIn K (.ref C) "__getattr__" = some none) (nb : PySem.W.findIn K (.ref C) fld = some none)
    (a1 : PySem.W.findIn K (.ref C) "__init__" = some (some (.ref fI))) (t1 : PySem.W.typeIn K (.ref fI) = some (.type "function"))
    (l1 : K.lookup fI = some ⟨oc, od, .func (PySem.W.fnOf "__init__" q (defArgs st) (defBody st) (defScope st) .none kV doc pm an cdv ct), osl⟩) (c1 : PySem.W.codeIn K cdv q = true) (k1 : PySem.W.keepIn K (.ref fI) = true)
    (kC : PySem.W.keepIn K (.ref C) = true) (eC : PySem.W.subIn K (.ref C) (.type "BaseException") = some true) (tC : PySem.W.typeIn K (.ref C) = some (.type "type")) (hC : PySem.W.hasDictIn K C = true)
    (bi : ∀ (kV doc pm : Value) (an : Option Addr) (cdv ct : Value) (us : List Value), us.length = ([a, b] : List Str).length → bindArgs (PySem.W.fnOf "__init__" q (defArgs st) (defBody st) (defScope st) .none kV doc pm an cdv ct) ⟨us, []⟩ = pure (([a, b] : List Str).zip us)) : ExD K x fld st a b C :=
  ⟨fI, _, q, ⟨⟨nm, qc, N, bs, bm, sn, sub, ab, col, dd, m0, m1, m2, m3, m5, xL, hb⟩, sa, eC, tC, kC⟩, a1, t1, fun_mk l1 c1 k1, .all (bi kV doc pm an cdv ct), ⟨ga, gg, eC, hC⟩, nb⟩
theorem excF_of {P : Program} {w : World} {base : Heap} {x fld a b : Str} {st : Stmt} {C : Addr} {p1 p2 p3 p4 : Pos} (D : ExD K x fld st a b C) (hm : mg x = some (.ref C)) (S : FnScope [a, b] [a, b] (defScope st)) (hb : defBody st = [.Assign [.Attribute (.Name a p1) fld p2] (.Name b p3) p4])
    (hd1 : (a == ("__debug__" : Str)) = false := by decide) (hc1 : (a == ("__classdict__" : Str)) = false := by decide) (hd2 : (b == ("__debug__" : Str)) = false := by decide) (hc2 : (b == ("__classdict__" : Str)) = false := by decide) : ExcF P w K mg base x fld := by
  obtain ⟨fI, fd, q, h1, h2, h3, h4, h5, h6, h7⟩ := D.ex
  exact ⟨C, fI, fd, a, b, hm, h1, h2, h3, exc_init h4 S hb h1 h7 hd1 hc1 hd2 hc2, h5, h6, h7⟩
/-- which error a clause names -/
def xmB (K : PySem.W.Frag) (L : List (Str × Addr)) : Bool := L.all fun p => L.all fun q => PySem.W.exmOne K (.ref p.2) (.ref q.2) == some (decide (p.1 = q.1))
theorem xm_of {L : List (Str × Addr)} (hm : ∀ p ∈ L, mg p.1 = some (.ref p.2)) (hb : xmB K L = true) (c x : Str) (ca C : Addr) (hc : c ∈ L.map (·.1)) (hx : x ∈ L.map (·.1)) (h1 : mg c = some (.ref ca)) (h2 : mg x = some (.ref C)) : PySem.W.exmOne K (.ref ca) (.ref C) = some (decide (c = x)) := by
  obtain ⟨p, hp, rfl⟩ := List.mem_map.mp hc
  obtain ⟨q, hq, rfl⟩ := List.mem_map.mp hx
  rw [hm p hp] at h1
  cases h1
  rw [hm q hq] at h2
  cases h2
  unfold xmB at hb
  exact beq_iff_eq.mp (List.all_eq_true.mp (List.all_eq_true.mp hb p hp) q hq)
end
/-! ### the end -/
theorem ints_rps {K : PySem.W.Frag} {mg : Str → Option Value} {H : Hp} {m : List Addr} : ∀ ns : List Int, Rps K mg H m (ns.map D.int) (ns.map V.int)
  | [] => .nil
  | n :: ns => .cons (.int n) (ints_rps ns)
/-- the law's answer, of any list of ints -/
def LawOk (g : FM) : Prop := ∀ (d : D) (S : Sto) (ns : List Int), ns.length ≤ 63 → (∀ z ∈ ns, Builtin.Int.intBits z ≤ 1048576) → itemsS S d = some (ns.map D.int) → ∃ S', g [d] S = .ok (.bl true) S'
theorem law_sp {K : PySem.W.Frag} {mg : Str → Option Value} {H : Hp} {a : Addr} {ns : List Int} {g : FM} (hl : LawOk g) (h1 : ns.length ≤ 63) (h2 : ∀ z ∈ ns, Builtin.Int.intBits z ≤ 1048576) (ht : LamX.Tabs TabsOf.tabs H) (hS : SqL K H a (ns.map V.int)) :
    spM K mg 1 g [.ref a] H (fun v _ => v = .bl true) fun _ _ _ => False := by
  have fin : ∀ {m : List Addr} {S : Sto} {d : D}, Stt K mg H m S → Rp K mg H m d (.ref a) → itemsS S d = some (ns.map D.int) → spM K mg 1 g [.ref a] H (fun v _ => v = .bl true) fun _ _ _ => False := fun {m S d} st r hi => by
    obtain ⟨S', e⟩ := hl d S ns h1 h2 hi
    refine ⟨m, [d], S, st, .one r, rfl, ?_⟩
    rw [e]
    intro v H' m' _ _ r
    cases r
    rfl
  have st0 : Stt K mg H [] [] := ⟨rfl, .nil, fun j o a h => by simp at h, ht⟩
  by_cases hs : ∃ o, H a = some (.frz o (.lst (ns.map V.int)))
  · obtain ⟨o, hs⟩ := hs
    exact fin (d := .seq (ns.map D.int)) st0 (.seq hs (ints_rps ns)) rfl
  · by_cases hp : H a = some (.lst (ns.map V.int))
    · have st1 : Stt K mg H [a] [.lst (ns.map D.int)] := ⟨rfl, by simp, fun j o b q1 q2 => by
        cases j with
        | zero =>
          simp at q1 q2
          subst q1
          subst q2
          exact ⟨_, hp, ints_rps ns⟩
        | succ j => simp at q1, ht⟩
      exact fin (d := .ref 0) st1 (.ref rfl) rfl
    · refine fin (d := .seq (ns.map D.int)) st0 (.seqK (fun G => ?_) (ints_rps ns)) rfl
      rcases hS with (hS | ⟨o, hS⟩) | hS
      · exact (hp hS).elim
      · exact (hs ⟨o, hS⟩).elim
      · exact .inr hS
theorem cal_fd {P : Program} {w : World} {K : PySem.W.Frag} {mg : Str → Option Value} {base : Heap} {k : Nat} {x : Str} {st : Stmt} {ps : List Str} {g : FM} {f : Addr} {oc : Value} {od : Option Addr} {fd : FuncData} {osl : Array (Option Value)} (C : Cal P w K mg base k x st ps g) (hm : mg x = some (.ref f)) (l : K.lookup f = some ⟨oc, od, .func fd, osl⟩) :
    FnD P w K mg base k f fd ps g := by
  obtain ⟨f', fd', h1, h2, h3, h4⟩ := C.ex
  rw [hm] at h3
  cases h3
  obtain ⟨oc', od', kV, doc, pm, an, cdv, ct, osl', rfl, lk, hcd⟩ := h1.ex
  rw [l] at lk
  cases lk
  exact h2
omit [TabsOf] in
theorem cx_no {P : Program} {w : World} {H : Hp} {s : Shared} {e : Value} {s' : Shared} (z : L2.CX P w [] H s (fun _ _ _ => False) e s') : False := by
  obtain ⟨_, _, _, _, _, _, _, _, _, _, _, _, z⟩ := z
  exact z
end Mi

set_option Elab.async false
set_option linter.all false
set_option maxRecDepth 100000
set_option maxHeartbeats 1000000
/-! the model's programs, in plain Lean -/
namespace Mi
open PySem PySem.Spec PyProof.Rows L2

/-! ### what each piece does -/
section
variable (f h k : ME) (c t u : MT) (a r : MA) (p q : MS) (g : MG) (e : Slots) (S : Sto)
@[simp] theorem mVar_ap (i : Nat) : mVar i e S = match e[i]? with
  | some (some d) => .ok d S
  | _ => .no := rfl
@[simp] theorem mC_ap (d : D) : mC d e S = .ok d S := rfl
@[simp] theorem mNil_ap : mNil e S = .ok [] S := rfl
@[simp] theorem mCons_ap : mCons f r e S = (f e S).bind fun d S => (r e S).bind fun ds S => .ok (d :: ds) S := rfl
@[simp] theorem mTup_ap : mTup a e S = (a e S).bind fun ds S => .ok (.tup ds) S := rfl
@[simp] theorem mLst_ap : mLst a e S = (a e S).bind fun ds S => .ok (.ref S.length) (S ++ [.lst ds]) := rfl
@[simp] theorem mBin_ap (o : D → D → Sto → R D) : mBin o f h e S = (f e S).bind fun x S => (h e S).bind fun y S => o x y S := rfl
@[simp] theorem mUn_ap (o : D → Sto → R D) : mUn o f e S = (f e S).bind fun x S => o x S := rfl
@[simp] theorem mTst_ap : mTst f e S = (f e S).bind fun d S => match d with
  | .bl b => .ok b S
  | _ => .no := rfl
@[simp] theorem mAndT_ap : mAndT c t e S = (c e S).bind fun b S => if b = true then t e S else .ok false S := rfl
@[simp] theorem mOrT_ap : mOrT c t e S = (c e S).bind fun b S => if b = true then .ok true S else t e S := rfl
@[simp] theorem mNotT_ap : mNotT c e S = (c e S).bind fun b S => .ok (!b) S := rfl
@[simp] theorem mAndV_ap : mAndV f h e S = (f e S).bind fun d S => match d with
  | .bl true => h e S
  | .bl false => .ok (.bl false) S
  | _ => .no := rfl
@[simp] theorem mOrV_ap : mOrV f h e S = (f e S).bind fun d S => match d with
  | .bl false => h e S
  | .bl true => .ok (.bl true) S
  | _ => .no := rfl
@[simp] theorem mNotV_ap : mNotV f e S = (f e S).bind fun d S => match d with
  | .bl b => .ok (.bl (!b)) S
  | _ => .no := rfl
@[simp] theorem mIf_ap : mIf c f h e S = (c e S).bind fun b S => if b = true then f e S else h e S := rfl
@[simp] theorem mCall_ap (o : List D → Sto → R D) : mCall o a e S = (a e S).bind fun ds S => o ds S := rfl
@[simp] theorem mCallK_ap (o : FM) (l : List Nat) : mCallK o l a r e S = (a e S).bind fun ds S => (r e S).bind fun es S => o (pick l (ds ++ es)) S := rfl
@[simp] theorem mMeth_ap (T : String) (o : D → List D → Sto → R D) : mMeth T o f a e S = (f e S).bind fun x S => if isTy T S x = true then (a e S).bind fun ds S => o x ds S else .no := rfl
@[simp] theorem mNone_ap : mNone e S = .ok none S := rfl
@[simp] theorem mSome_ap : mSome f e S = (f e S).bind fun d S => match d with
  | .int i => .ok (some i) S
  | _ => .no := rfl
@[simp] theorem mSl_ap (l m : Slots → Sto → R (Option Int)) : mSl f l m e S = (f e S).bind fun d S => (l e S).bind fun lo S => (m e S).bind fun hi S => slD d lo hi S := rfl
@[simp] theorem mSkip_ap : mSkip e S = .go .nx e S := rfl
@[simp] theorem mSeq_ap : mSeq p q e S = (p e S).thn q := (rfl)
@[simp] theorem mRet_ap : mRet f e S = (f e S).thn e fun d S => .go (.rt d) e S := rfl
@[simp] theorem mRetN_ap : mRetN e S = .go (.rt .non) e S := rfl
@[simp] theorem mBrk_ap : mBrk e S = .go .bk e S := rfl
@[simp] theorem mCont_ap : mCont e S = .go .ct e S := rfl
@[simp] theorem mExpr_ap : mExpr f e S = (f e S).thn e fun _ S => .go .nx e S := rfl
@[simp] theorem mIfS_ap : mIfS c p q e S = (c e S).thn e fun b S => if b = true then p e S else q e S := rfl
@[simp] theorem mAsg_ap : mAsg g f e S = (f e S).thn e fun d S => setG g d e S := rfl
@[simp] theorem setG_gN (i : Nat) (d : D) : setG (gN i) d e S = .go .nx (e.set i (some d)) S := rfl
@[simp] theorem mPar_ap (i j : Nat) : mPar i j a e S = (a e S).thn e fun ds S => match ds with
  | [x, y] => .go .nx ((e.set i (some x)).set j (some y)) S
  | _ => .no := rfl
@[simp] theorem mPar3_ap (i j l : Nat) : mPar3 i j l a e S = (a e S).thn e fun ds S => match ds with
  | [x, y, z] => .go .nx (((e.set i (some x)).set j (some y)).set l (some z)) S
  | _ => .no := rfl
@[simp] theorem mRaise_ap (n fl : Str) : mRaise n fl f e S = (f e S).thn e fun d S => .exc n fl d e S := rfl
@[simp] theorem mStop_ap : mStop e S = .no := rfl
@[simp] theorem mNo_ap {α : Type} : (mNo e S : R α) = .no := rfl
@[simp] theorem mFor_ap (w : Slots → Sto → R MI) : mFor w g p e S = (w e S).thn e fun it S => forF it g p big 0 e S := (rfl)
@[simp] theorem mWhile_ap : mWhile c p e S = whileF c p big e S := (rfl)
@[simp] theorem mIt_ap : mIt f e S = (f e S).bind fun d S => itD d S := rfl
@[simp] theorem mItA_ap (o : List D → Sto → R MI) : mItA o a e S = (a e S).bind o := rfl
@[simp] theorem mKeys_ap : mKeys f e S = (f e S).bind keysIt := rfl
@[simp] theorem mItems_ap : mItems f e S = (f e S).bind itemsIt := rfl
@[simp] theorem mLC_ap (w : Slots → Sto → R MI) (l : List Nat) : mLC w g t f l e S = (w e S).bind fun it S => lcEnd (lcF it g t f (wipeM e l) big 0 S []) := (rfl)
@[simp] theorem lcEnd_ok (acc : List D) : lcEnd (.ok acc S) = .ok (.ref S.length) (S ++ [.lst acc]) := rfl
@[simp] theorem mTrue_ap : mTrue e S = .ok true S := rfl
@[simp] theorem mSto_ap : mSto f h k e S = (f e S).thn e fun v S => (h e S).thn e fun o S => (k e S).thn e fun i S => match storeD o i v S with
  | some S' => .go .nx e S'
  | none => .no := rfl
@[simp] theorem mTri_ap (T : D → Sto → Bool) (o : D → D → D → Sto → R D) : mTri T o f h k e S = (f e S).bind fun x S => if T x S = true then (h e S).bind fun y S => (k e S).bind fun z S => o x y z S else .no := rfl
@[simp] theorem mDK_ap : mDK e S = .ok (.ref S.length) (S ++ [.dK []]) := rfl
@[simp] theorem mDT_ap : mDT e S = .ok (.ref S.length) (S ++ [.dT []]) := rfl
@[simp] theorem mLam_ap (M : (Sto → R D) → Sto → R D) : mLam M f e S = match M (fun S => f e S) S with
  | .ok d S => .ok d S
  | _ => .no := rfl
theorem mDef_ap (n : Nat) (ds : List D) : mDef n p ds S = (p (ds.map some ++ List.replicate (n - ds.length) none) S).out := rfl
@[simp] theorem out_nx : (RS.go .nx e S).out = .ok .non S := rfl
@[simp] theorem out_rt (d : D) : (RS.go (.rt d) e S).out = .ok d S := rfl
@[simp] theorem out_exc (n fl : Str) (d : D) : (RS.exc n fl d e S).out = .exc n fl d S := rfl
@[simp] theorem gN_ap (i : Nat) (d : D) : gN i d e S = some (e.set i (some d)) := rfl
@[simp] theorem gTs_nil : gTs [] [] e S = some e := rfl
@[simp] theorem gTs_cons (gs : List MG) (d : D) (ds : List D) : gTs (g :: gs) (d :: ds) e S = (g d e S).bind fun e => gTs gs ds e S := rfl
@[simp] theorem gT_tup (gs : List MG) (ds : List D) : gT gs (.tup ds) e S = gTs gs ds e S := rfl
@[simp] theorem wipeM_nil : wipeM e [] = e := rfl
@[simp] theorem wipeM_cons (v : Nat) (vs : List Nat) : wipeM e (v :: vs) = (wipeM e vs).set v none := rfl
@[simp] theorem addD_int (i j : Int) : addD (.int i) (.int j) S = .ok (.int (i + j)) S := rfl
@[simp] theorem subD_int (i j : Int) : subD (.int i) (.int j) S = .ok (.int (i - j)) S := rfl
@[simp] theorem negD_int (i : Int) : negD (.int i) S = .ok (.int (-i)) S := rfl
@[simp] theorem ltD_int (i j : Int) : ltD (.int i) (.int j) S = .ok (.bl (decide (i < j))) S := rfl
@[simp] theorem gtD_int (i j : Int) : gtD (.int i) (.int j) S = .ok (.bl (decide (j < i))) S := rfl
@[simp] theorem leD_int (i j : Int) : leD (.int i) (.int j) S = .ok (.bl (decide (i ≤ j))) S := rfl
@[simp] theorem geD_int (i j : Int) : geD (.int i) (.int j) S = .ok (.bl (decide (j ≤ i))) S := rfl
@[simp] theorem isD_non (d : D) : isD d .non S = .ok (.bl (isNon d)) S := by cases d <;> rfl
@[simp] theorem notIsD_non (d : D) : notIsD d .non S = .ok (.bl (!isNon d)) S := by cases d <;> rfl
@[simp] theorem isNon_non : isNon .non = true := rfl
@[simp] theorem isNon_int (i : Int) : isNon (.int i) = false := rfl
@[simp] theorem isNon_bl (i : Bool) : isNon (.bl i) = false := rfl
@[simp] theorem isNon_str (i : Str) : isNon (.str i) = false := rfl
@[simp] theorem isNon_tup (i : List D) : isNon (.tup i) = false := rfl
@[simp] theorem isNon_ref (i : Nat) : isNon (.ref i) = false := rfl
@[simp] theorem eqD_int (i j : Int) : eqD (.int i) (.int j) S = .ok (.bl (i == j)) S := rfl
@[simp] theorem neD_int (i j : Int) : neD (.int i) (.int j) S = .ok (.bl (!(i == j))) S := rfl
@[simp] theorem eqD_str (i j : Str) : eqD (.str i) (.str j) S = .ok (.bl (i == j)) S := rfl
@[simp] theorem neD_str (i j : Str) : neD (.str i) (.str j) S = .ok (.bl (!(i == j))) S := rfl
@[simp] theorem eqD_bl (i j : Bool) : eqD (.bl i) (.bl j) S = .ok (.bl (i == j)) S := rfl
@[simp] theorem neD_bl (i j : Bool) : neD (.bl i) (.bl j) S = .ok (.bl (!(i == j))) S := rfl
@[simp] theorem lenD_str (z : Str) : lenD [.str z] S = .ok (.int (z.length : Int)) S := rfl
@[simp] theorem lenD_tup (z : List D) : lenD [.tup z] S = .ok (.int (z.length : Int)) S := rfl
@[simp] theorem isiD_one (x : D) (n : String) : isiD [x, .bty n] S = match (tyN S x).bind fun a => subN a n with
  | some b => .ok (.bl b) S
  | none => .no := rfl
@[simp] theorem isiD_two (x : D) (n m : String) : isiD [x, .tup [.bty n, .bty m]] S = match (tyN S x).bind fun a => anyN a [n, m] with
  | some b => .ok (.bl b) S
  | none => .no := rfl
@[simp] theorem isiD_three (x : D) (n m l : String) : isiD [x, .tup [.bty n, .bty m, .bty l]] S = match (tyN S x).bind fun a => anyN a [n, m, l] with
  | some b => .ok (.bl b) S
  | none => .no := rfl
end

/-! ### loops -/
/-- behind a turn -/
def aft (I : Slots → Sto → Prop) (Q : RS → Prop) : RS → Prop
  | .go .nx e S => I e S
  | .go .ct e S => I e S
  | .go .bk e S => Q (.go .nx e S)
  | r => Q r
section
variable (I : Slots → Sto → Prop) (Q : RS → Prop) (e : Slots) (S : Sto)
@[simp] theorem aft_nx : aft I Q (.go .nx e S) = I e S := rfl
@[simp] theorem aft_ct : aft I Q (.go .ct e S) = I e S := rfl
@[simp] theorem aft_bk : aft I Q (.go .bk e S) = Q (.go .nx e S) := rfl
@[simp] theorem aft_rt (d : D) : aft I Q (.go (.rt d) e S) = Q (.go (.rt d) e S) := rfl
@[simp] theorem aft_exc (c f : Str) (d : D) : aft I Q (.exc c f d e S) = Q (.exc c f d e S) := rfl
end
theorem while_rule {c : MT} {b : MS} (I : Nat → Slots → Sto → Prop) (Q : RS → Prop)
    (step : ∀ k e S, I k e S → (∃ S1, c e S = .ok false S1 ∧ Q (.go .nx e S1)) ∨ ∃ S1, c e S = .ok true S1 ∧ aft (fun e S => ∃ k', k' < k ∧ I k' e S) Q (b e S1)) : ∀ (n k : Nat) (e : Slots) (S : Sto), k < n → I k e S → Q (whileF c b n e S)
  | 0, k, e, S, h, _ => absurd h (Nat.not_lt_zero _)
  | n + 1, k, e, S, h, i => by
    rcases step k e S i with ⟨S1, h1, h2⟩ | ⟨S1, h1, h2⟩
    · show Q ((c e S).thn e _)
      rw [h1]
      exact h2
    · show Q ((c e S).thn e _)
      rw [h1]
      show Q (match b e S1 with
        | .go .nx e S => whileF c b n e S
        | .go .ct e S => whileF c b n e S
        | .go .bk e S => .go .nx e S
        | r => r)
      cases hb : b e S1 with
      | go fl e2 S2 =>
        rw [hb] at h2
        cases fl with
        | nx => obtain ⟨k', hk, i'⟩ := h2; exact while_rule I Q step n k' e2 S2 (by omega) i'
        | ct => obtain ⟨k', hk, i'⟩ := h2; exact while_rule I Q step n k' e2 S2 (by omega) i'
        | bk => exact h2
        | rt d => exact h2
      | exc c f d e S => rw [hb] at h2; exact h2
      | no => rw [hb] at h2; exact h2
theorem for_aux {it : MI} {g : MG} {b : MS} {ds : List D} (I : Nat → Slots → Sto → Prop) (Q : RS → Prop) (hy : ∀ i e S, I i e S → it i S = some ds[i]?)
    (step : ∀ i d, ds[i]? = some d → ∀ e S, I i e S → ∃ e1, g d e S = some e1 ∧ aft (I (i + 1)) Q (b e1 S)) (fin : ∀ e S, I ds.length e S → Q (.go .nx e S)) : ∀ (n i : Nat) (e : Slots) (S : Sto), ds.length < i + n → i ≤ ds.length → I i e S → Q (forF it g b n i e S)
  | 0, i, e, S, h, h2, _ => by omega
  | n + 1, i, e, S, h, h2, hi => by
    unfold forF
    rw [hy i e S hi]
    cases hd : ds[i]? with
    | none =>
      have : i = ds.length := by have := List.getElem?_eq_none_iff.mp hd; omega
      subst this
      exact fin e S hi
    | some d =>
      have hlt := (List.getElem?_eq_some_iff.mp hd).1
      obtain ⟨e1, h3, h4⟩ := step i d hd e S hi
      simp only [h3]
      cases hb : b e1 S with
      | go fl e2 S2 =>
        rw [hb] at h4
        cases fl with
        | nx => exact for_aux I Q hy step fin n (i + 1) e2 S2 (by omega) hlt h4
        | ct => exact for_aux I Q hy step fin n (i + 1) e2 S2 (by omega) hlt h4
        | bk => exact h4
        | rt d => exact h4
      | exc c f d e S => rw [hb] at h4; exact h4
      | no => rw [hb] at h4; exact h4
theorem for_rule {it : MI} {g : MG} {b : MS} {ds : List D} (I : Nat → Slots → Sto → Prop) (Q : RS → Prop) (hy : ∀ i e S, I i e S → it i S = some ds[i]?)
    (step : ∀ i d, ds[i]? = some d → ∀ e S, I i e S → ∃ e1, g d e S = some e1 ∧ aft (I (i + 1)) Q (b e1 S)) (fin : ∀ e S, I ds.length e S → Q (.go .nx e S)) (hl : ds.length < big) {e : Slots} {S : Sto} (h0 : I 0 e S) : Q (forF it g b big 0 e S) :=
  for_aux I Q hy step fin big 0 e S (by omega) (Nat.zero_le _) h0
theorem lc_aux {it : MI} {g : MG} {t : MT} {f : ME} {e0 : Slots} {ds : List D} (I : Nat → List D → Sto → Prop) (hy : ∀ i acc S, I i acc S → it i S = some ds[i]?)
    (step : ∀ i d, ds[i]? = some d → ∀ acc S, I i acc S → ∃ e1, g d e0 S = some e1 ∧ ∃ b S1, t e1 S = .ok b S1 ∧ if b = true then ∃ y S2, f e1 S1 = .ok y S2 ∧ I (i + 1) (acc ++ [y]) S2 else I (i + 1) acc S1) :
    ∀ (n i : Nat) (acc : List D) (S : Sto), ds.length < i + n → i ≤ ds.length → I i acc S → ∃ acc' S', lcF it g t f e0 n i S acc = .ok acc' S' ∧ I ds.length acc' S'
  | 0, i, acc, S, h, h2, _ => by omega
  | n + 1, i, acc, S, h, h2, hi => by
    unfold lcF
    rw [hy i acc S hi]
    cases hd : ds[i]? with
    | none =>
      have : i = ds.length := by have := List.getElem?_eq_none_iff.mp hd; omega
      subst this
      exact ⟨acc, S, rfl, hi⟩
    | some d =>
      have hlt := (List.getElem?_eq_some_iff.mp hd).1
      obtain ⟨e1, h3, b, S1, h4, h5⟩ := step i d hd acc S hi
      simp only [h3, h4, R.bind_ok]
      cases b with
      | true =>
        obtain ⟨y, S2, h6, h7⟩ := h5
        simp only [if_pos, h6, R.bind_ok]
        exact lc_aux I hy step n (i + 1) _ S2 (by omega) hlt h7
      | false =>
        rw [if_neg (by decide)]
        exact lc_aux I hy step n (i + 1) _ S1 (by omega) hlt h5
theorem lc_rule {it : MI} {g : MG} {t : MT} {f : ME} {e0 : Slots} {ds : List D} (I : Nat → List D → Sto → Prop) (hy : ∀ i acc S, I i acc S → it i S = some ds[i]?)
    (step : ∀ i d, ds[i]? = some d → ∀ acc S, I i acc S → ∃ e1, g d e0 S = some e1 ∧ ∃ b S1, t e1 S = .ok b S1 ∧ if b = true then ∃ y S2, f e1 S1 = .ok y S2 ∧ I (i + 1) (acc ++ [y]) S2 else I (i + 1) acc S1)
    (hl : ds.length < big) {S : Sto} (h0 : I 0 [] S) : ∃ acc' S', lcF it g t f e0 big 0 S [] = .ok acc' S' ∧ I ds.length acc' S' :=
  lc_aux I hy step big 0 [] S (by omega) (Nat.zero_le _) h0

/-! ### stores -/
/-- S' holds what S held but for Q -/
structure Fr (Q : Nat → Prop) (S S' : Sto) : Prop where
  len : S.length ≤ S'.length
  at_ : ∀ i, i < S.length → ¬ Q i → S'[i]? = S[i]?
abbrev none_ : Nat → Prop := fun _ => False
theorem Fr.refl (Q : Nat → Prop) (S : Sto) : Fr Q S S := ⟨Nat.le_refl _, fun _ _ _ => rfl⟩
theorem Fr.trans {Q : Nat → Prop} {S S1 S2 : Sto} (a : Fr Q S S1) (b : Fr Q S1 S2) : Fr Q S S2 :=
  ⟨Nat.le_trans a.len b.len, fun i h n => (b.at_ i (Nat.lt_of_lt_of_le h a.len) n).trans (a.at_ i h n)⟩
theorem Fr.weak {P Q : Nat → Prop} {S S1 : Sto} (a : Fr P S S1) (h : ∀ i, i < S.length → P i → Q i) : Fr Q S S1 := ⟨a.len, fun i hi n => a.at_ i hi fun z => n (h i hi z)⟩
theorem Fr.get {Q : Nat → Prop} {S S1 : Sto} (a : Fr Q S S1) {i : Nat} {o : MO} (h : S[i]? = some o) (n : ¬ Q i) : S1[i]? = some o := by
  rw [a.at_ i (List.getElem?_eq_some_iff.mp h).1 n]; exact h
theorem Fr.push (Q : Nat → Prop) (S : Sto) (o : MO) : Fr Q S (S ++ [o]) := ⟨by simp, fun i h _ => List.getElem?_append_left h⟩
theorem push_at (S : Sto) (o : MO) : (S ++ [o])[S.length]? = some o := by simp
theorem Fr.set {Q : Nat → Prop} (S : Sto) {j : Nat} (o : MO) (h : Q j) : Fr Q S (S.set j o) := ⟨by simp, fun i _ n => by rw [List.getElem?_set, if_neg (fun z : j = i => n (by rw [← z]; exact h))]⟩
theorem set_at {S : Sto} {j : Nat} {o o' : MO} (h : S[j]? = some o) : (S.set j o')[j]? = some o' := by
  have hj := (List.getElem?_eq_some_iff.mp h).1
  rw [List.getElem?_set, if_pos rfl, if_pos hj]
theorem set_ne {S : Sto} {i j : Nat} {o' : MO} (h : j ≠ i) : (S.set j o')[i]? = S[i]? := by
  rw [List.getElem?_set, if_neg h]
theorem lt_of_get {S : Sto} {j : Nat} {o : MO} (h : S[j]? = some o) : j < S.length := (List.getElem?_eq_some_iff.mp h).1

/-! ### values that mean data -/
def kPy : Key → PyData
  | .inl i => .int i
  | .inr x => .str x
mutual
/-- d means p in S; the objects that it reaches are P's -/
inductive Dn (P : Nat → Prop) (S : Sto) : D → PyData → Prop
  | non : Dn P S .non .none
  | bl (b : Bool) : Dn P S (.bl b) (.bool b)
  | int (i : Int) : Dn P S (.int i) (.int i)
  | str (x : Str) : Dn P S (.str x) (.str x)
  | tup {ds : List D} {ps : List PyData} : Dns P S ds ps → Dn P S (.tup ds) (.tuple ps)
  | lst {j : Nat} {ds : List D} {ps : List PyData} : P j → S[j]? = some (.lst ds) → Dns P S ds ps → Dn P S (.ref j) (.list ps)
  | dic {j : Nat} {ds : List (Key × D)} {ps : List (PyData × PyData)} : P j → S[j]? = some (.dK ds) → Dnk P S ds ps → Dn P S (.ref j) (.dict ps)
inductive Dns (P : Nat → Prop) (S : Sto) : List D → List PyData → Prop
  | nil : Dns P S [] []
  | cons {d : D} {p : PyData} {ds : List D} {ps : List PyData} : Dn P S d p → Dns P S ds ps → Dns P S (d :: ds) (p :: ps)
inductive Dnk (P : Nat → Prop) (S : Sto) : List (Key × D) → List (PyData × PyData) → Prop
  | nil : Dnk P S [] []
  | cons {k : Key} {d : D} {p : PyData} {ds : List (Key × D)} {ps : List (PyData × PyData)} : Dn P S d p → Dnk P S ds ps → Dnk P S ((k, d) :: ds) ((kPy k, p) :: ps)
end
section
variable {P P' : Nat → Prop} {S S' : Sto}
mutual
theorem Dn.map (h : ∀ j o, P j → S[j]? = some o → P' j ∧ S'[j]? = some o) : ∀ (d : D) (p : PyData), Dn P S d p → Dn P' S' d p
  | _, _, .non => .non
  | _, _, .bl b => .bl b
  | _, _, .int b => .int b
  | _, _, .str b => .str b
  | _, _, .tup r => .tup (Dns.map h _ _ r)
  | _, _, .lst h1 h2 r => .lst (h _ _ h1 h2).1 (h _ _ h1 h2).2 (Dns.map h _ _ r)
  | _, _, .dic h1 h2 r => .dic (h _ _ h1 h2).1 (h _ _ h1 h2).2 (Dnk.map h _ _ r)
theorem Dns.map (h : ∀ j o, P j → S[j]? = some o → P' j ∧ S'[j]? = some o) : ∀ (d : List D) (p : List PyData), Dns P S d p → Dns P' S' d p
  | _, _, .nil => .nil
  | _, _, .cons h1 h2 => .cons (Dn.map h _ _ h1) (Dns.map h _ _ h2)
theorem Dnk.map (h : ∀ j o, P j → S[j]? = some o → P' j ∧ S'[j]? = some o) : ∀ (d : List (Key × D)) (p : List (PyData × PyData)), Dnk P S d p → Dnk P' S' d p
  | _, _, .nil => .nil
  | _, _, .cons h1 h2 => .cons (Dn.map h _ _ h1) (Dnk.map h _ _ h2)
end
theorem Dn.fr {Q : Nat → Prop} {d : D} {p : PyData} (r : Dn P S d p) (f : Fr Q S S') (h : ∀ j, j < S.length → P j → P' j ∧ ¬ Q j) : Dn P' S' d p :=
  Dn.map (fun j o h1 h2 => ⟨(h j (lt_of_get h2) h1).1, f.get h2 (h j (lt_of_get h2) h1).2⟩) _ _ r
theorem Dns.fr {Q : Nat → Prop} {d : List D} {p : List PyData} (r : Dns P S d p) (f : Fr Q S S') (h : ∀ j, j < S.length → P j → P' j ∧ ¬ Q j) : Dns P' S' d p :=
  Dns.map (fun j o h1 h2 => ⟨(h j (lt_of_get h2) h1).1, f.get h2 (h j (lt_of_get h2) h1).2⟩) _ _ r
theorem Dns.length {ds : List D} {ps : List PyData} (r : Dns P S ds ps) : ds.length = ps.length := by
  induction ds generalizing ps with
  | nil => cases r; rfl
  | cons d ds ih =>
    cases r with
    | cons h1 h2 => simp [ih h2]
theorem Dns.app {ds es : List D} {ps qs : List PyData} (r : Dns P S ds ps) (k : Dns P S es qs) : Dns P S (ds ++ es) (ps ++ qs) := by
  induction ds generalizing ps with
  | nil => cases r; exact k
  | cons d ds ih =>
    cases r with
    | cons h1 h2 => exact .cons h1 (ih h2)
theorem Dns.one {d : D} {p : PyData} (r : Dn P S d p) : Dns P S [d] [p] := .cons r .nil
theorem Dns.get {ds : List D} {ps : List PyData} (r : Dns P S ds ps) : ∀ {i : Nat} {d : D}, ds[i]? = some d → ∃ p, ps[i]? = some p ∧ Dn P S d p := by
  induction ds generalizing ps with
  | nil => intro i d h; simp at h
  | cons d0 ds ih =>
    cases r with
    | cons h1 h2 =>
      intro i d h
      cases i with
      | zero => simp at h; subst h; exact ⟨_, rfl, h1⟩
      | succ i => simp at h; simpa using ih h2 h
end
/-! ### reading a value -/
mutual
def szP : PyData → Nat
  | .list xs => 1 + szPs xs
  | .tuple xs => 1 + szPs xs
  | .dict _ => 1000
  | _ => 1
def szPs : List PyData → Nat
  | [] => 0
  | x :: xs => max (szP x) (szPs xs)
end
mutual
theorem Dn.rd {P : Nat → Prop} {S : Sto} : ∀ (n : Nat) (d : D) (p : PyData), Dn P S d p → szP p ≤ n → n < 1000 → rdD n S d = some p
  | 0, _, p, _, h, _ => by cases p <;> simp [szP] at h
  | n + 1, _, _, .non, _, _ => rfl
  | n + 1, _, _, .bl _, _, _ => rfl
  | n + 1, _, _, .int _, _, _ => rfl
  | n + 1, _, _, .str _, _, _ => rfl
  | n + 1, _, _, .dic _ _ _, h, h2 => by
    have h : 1000 ≤ n + 1 := by simpa [szP] using h
    omega
  | n + 1, _, _, .tup (ds := ds) (ps := ps) r, h, hn => by
    have h : 1 + szPs ps ≤ n + 1 := by simpa [szP] using h
    show (optAll (rdD n S) _).map PyData.tuple = _
    rw [Dns.rd n _ _ r (by omega) (by omega)]
    rfl
  | n + 1, _, _, .lst (j := j) (ds := ds) (ps := ps) h1 h2 r, h, hn => by
    have h : 1 + szPs ps ≤ n + 1 := by simpa [szP] using h
    unfold rdD
    simp only [h2]
    rw [Dns.rd n _ _ r (by omega) (by omega)]
    rfl
theorem Dns.rd {P : Nat → Prop} {S : Sto} : ∀ (n : Nat) (ds : List D) (ps : List PyData), Dns P S ds ps → szPs ps ≤ n → n < 1000 → optAll (rdD n S) ds = some ps
  | _, _, _, .nil, _, _ => rfl
  | n, _, _, .cons (p := p) (ps := ps) h1 h2, h, hn => by
    have h : max (szP p) (szPs ps) ≤ n := by simpa [szPs] using h
    unfold optAll
    rw [Dn.rd n _ _ h1 (by omega) hn, Dns.rd n _ _ h2 (by omega) hn]
end
theorem eqD_of {P Q : Nat → Prop} {S : Sto} {x y : D} {p q : PyData} (hx : Dn P S x p) (hy : Dn Q S y q) (h1 : szP p ≤ 60) (h2 : szP q ≤ 60) : eqD x y S = .ok (.bl (PyData.eqv p q)) S := by
  unfold eqD eqB
  rw [Dn.rd 60 _ _ hx h1 (by decide), Dn.rd 60 _ _ hy h2 (by decide)]
theorem neD_of {P Q : Nat → Prop} {S : Sto} {x y : D} {p q : PyData} (hx : Dn P S x p) (hy : Dn Q S y q) (h1 : szP p ≤ 60) (h2 : szP q ≤ 60) : neD x y S = .ok (.bl (!PyData.eqv p q)) S := by
  unfold neD eqB
  rw [Dn.rd 60 _ _ hx h1 (by decide), Dn.rd 60 _ _ hy h2 (by decide)]
end Mi

set_option Elab.async false
set_option linter.all false
set_option maxRecDepth 100000
set_option maxHeartbeats 1000000
namespace Mi
open PySem PySem.Spec PyProof.Rows L2
@[simp] theorem subN_NoneType_bool : subN "NoneType" "bool" = some false := by decide
@[simp] theorem subN_NoneType_int : subN "NoneType" "int" = some false := by decide
@[simp] theorem subN_NoneType_str : subN "NoneType" "str" = some false := by decide
@[simp] theorem subN_NoneType_tuple : subN "NoneType" "tuple" = some false := by decide
@[simp] theorem subN_NoneType_list : subN "NoneType" "list" = some false := by decide
@[simp] theorem subN_NoneType_dict : subN "NoneType" "dict" = some false := by decide
@[simp] theorem subN_bool_bool : subN "bool" "bool" = some true := by decide
@[simp] theorem subN_bool_int : subN "bool" "int" = some true := by decide
@[simp] theorem subN_bool_str : subN "bool" "str" = some false := by decide
@[simp] theorem subN_bool_tuple : subN "bool" "tuple" = some false := by decide
@[simp] theorem subN_bool_list : subN "bool" "list" = some false := by decide
@[simp] theorem subN_bool_dict : subN "bool" "dict" = some false := by decide
@[simp] theorem subN_int_bool : subN "int" "bool" = some false := by decide
@[simp] theorem subN_int_int : subN "int" "int" = some true := by decide
@[simp] theorem subN_int_str : subN "int" "str" = some false := by decide
@[simp] theorem subN_int_tuple : subN "int" "tuple" = some false := by decide
@[simp] theorem subN_int_list : subN "int" "list" = some false := by decide
@[simp] theorem subN_int_dict : subN "int" "dict" = some false := by decide
@[simp] theorem subN_str_bool : subN "str" "bool" = some false := by decide
@[simp] theorem subN_str_int : subN "str" "int" = some false := by decide
@[simp] theorem subN_str_str : subN "str" "str" = some true := by decide
@[simp] theorem subN_str_tuple : subN "str" "tuple" = some false := by decide
@[simp] theorem subN_str_list : subN "str" "list" = some false := by decide
@[simp] theorem subN_str_dict : subN "str" "dict" = some false := by decide
@[simp] theorem subN_tuple_bool : subN "tuple" "bool" = some false := by decide
@[simp] theorem subN_tuple_int : subN "tuple" "int" = some false := by decide
@[simp] theorem subN_tuple_str : subN "tuple" "str" = some false := by decide
@[simp] theorem subN_tuple_tuple : subN "tuple" "tuple" = some true := by decide
@[simp] theorem subN_tuple_list : subN "tuple" "list" = some false := by decide
@[simp] theorem subN_tuple_dict : subN "tuple" "dict" = some false := by decide
@[simp] theorem subN_list_bool : subN "list" "bool" = some false := by decide
@[simp] theorem subN_list_int : subN "list" "int" = some false := by decide
@[simp] theorem subN_list_str : subN "list" "str" = some false := by decide
@[simp] theorem subN_list_tuple : subN "list" "tuple" = some false := by decide
@[simp] theorem subN_list_list : subN "list" "list" = some true := by decide
@[simp] theorem subN_list_dict : subN "list" "dict" = some false := by decide
@[simp] theorem subN_dict_bool : subN "dict" "bool" = some false := by decide
@[simp] theorem subN_dict_int : subN "dict" "int" = some false := by decide
@[simp] theorem subN_dict_str : subN "dict" "str" = some false := by decide
@[simp] theorem subN_dict_tuple : subN "dict" "tuple" = some false := by decide
@[simp] theorem subN_dict_list : subN "dict" "list" = some false := by decide
@[simp] theorem subN_dict_dict : subN "dict" "dict" = some true := by decide
@[simp] theorem anyN_nil (a : String) : anyN a [] = some false := rfl
@[simp] theorem anyN_cons (a b : String) (r : List String) : anyN a (b :: r) = match subN a b with
    | some true => some true
    | some false => anyN a r
    | none => none := rfl
@[simp] theorem tyN_non (S : Sto) : tyN S .non = some "NoneType" := rfl
@[simp] theorem tyN_bl (S : Sto) (b : Bool) : tyN S (.bl b) = some "bool" := rfl
@[simp] theorem tyN_int (S : Sto) (b : Int) : tyN S (.int b) = some "int" := rfl
@[simp] theorem tyN_str (S : Sto) (b : Str) : tyN S (.str b) = some "str" := rfl
@[simp] theorem tyN_tup (S : Sto) (b : List D) : tyN S (.tup b) = some "tuple" := rfl
theorem tyN_lst {S : Sto} {j : Nat} {ds : List D} (h : S[j]? = some (.lst ds)) : tyN S (.ref j) = some "list" := by
  unfold tyN
  simp only [h]
theorem tyN_dK {S : Sto} {j : Nat} {ds : List (Key × D)} (h : S[j]? = some (.dK ds)) : tyN S (.ref j) = some "dict" := by
  unfold tyN
  simp only [h]
theorem lenD_lst {S : Sto} {j : Nat} {ds : List D} (h : S[j]? = some (.lst ds)) : lenD [.ref j] S = .ok (.int (ds.length : Int)) S := by
  unfold lenD
  simp only [h]
theorem atI_n {α : Type} (xs : List α) (k : Nat) : L2.atI xs (k : Int) = xs[k]? := by
  unfold L2.atI ixN
  rw [if_pos (by omega)]
  by_cases h : (k : Int) < (xs.length : Int)
  · rw [if_pos h]; simp
  · rw [if_neg h]
    have : xs.length ≤ k := by omega
    simp [List.getElem?_eq_none this]
theorem ixD_lst {S : Sto} {j : Nat} {ds : List D} {i : Int} {d : D} (h : S[j]? = some (.lst ds)) (e : L2.atI ds i = some d) : ixD (.ref j) (.int i) S = .ok d S := by
  unfold ixD
  have : isDictD S (.ref j) = false := by unfold isDictD; simp only [h]
  rw [this, if_neg (by decide)]
  unfold seqIx
  simp only [h, e]
theorem ixD_tup {S : Sto} {ds : List D} {i : Int} {d : D} (e : L2.atI ds i = some d) : ixD (.tup ds) (.int i) S = .ok d S := by
  show (match L2.atI ds i with
    | some d => R.ok d S
    | none => .no) = _
  rw [e]
theorem storeD_lst {S : Sto} {j : Nat} {ds : List D} {i : Int} {n : Nat} {v : D} (h : S[j]? = some (.lst ds)) (e : ixN ds.length i = some n) : storeD (.ref j) (.int i) v S = some (S.set j (.lst (ds.set n v))) := by
  unfold storeD
  simp only [h, e, Option.map_some]
theorem mulD_l {i j : Int} {S : Sto} (h : -(2 ^ 64) < i ∧ i < 2 ^ 64) : mulD (.int i) (.int j) S = .ok (.int (i * j)) S := if_pos (.inl h)
theorem mulD_r {i j : Int} {S : Sto} (h : -(2 ^ 64) < j ∧ j < 2 ^ 64) : mulD (.int i) (.int j) S = .ok (.int (i * j)) S := if_pos (.inr h)
theorem modD_p {i j : Int} {S : Sto} (h : 0 < j) : modD (.int i) (.int j) S = .ok (.int (i % j)) S := if_pos h
theorem fdivD_p {i j : Int} {S : Sto} (h : 0 < j ∧ j < 1073741824) : fdivD (.int i) (.int j) S = .ok (.int (i / j)) S := if_pos h
theorem powD_p {i j : Int} {S : Sto} (h : 0 ≤ j ∧ j ≤ 1000 ∧ (-(2 ^ 64) < i ∧ i < 2 ^ 64)) : powD (.int i) (.int j) S = .ok (.int (i ^ j.toNat)) S := if_pos h
theorem isTy_lst {S : Sto} {j : Nat} {ds : List D} (h : S[j]? = some (.lst ds)) : isTy "list" S (.ref j) = true := by
  unfold isTy
  simp only [h]
  rfl
@[simp] theorem isTy_str (S : Sto) (z : Str) : isTy "str" S (.str z) = true := rfl
theorem appendD_ok {S : Sto} {j : Nat} {ds : List D} {d : D} (h : S[j]? = some (.lst ds)) (hl : ds.length < lim) : appendD (.ref j) [d] S = .ok .non (S.set j (.lst (ds ++ [d]))) := by
  unfold appendD
  simp only [h, if_pos hl]
theorem extendD_ok {S : Sto} {j k : Nat} {ds es : List D} (h : S[j]? = some (.lst ds)) (h2 : S[k]? = some (.lst es)) (hl : ds.length + es.length ≤ lim) : extendD (.ref j) [.ref k] S = .ok .non (S.set j (.lst (ds ++ es))) := by
  unfold extendD
  simp only [h, h2, if_pos hl]
theorem popAt_0 {S : Sto} {j : Nat} {d : D} {ds : List D} (h : S[j]? = some (.lst (d :: ds))) : popAtD (.ref j) [.int 0] S = .ok d (S.set j (.lst ds)) := by
  unfold popAtD
  simp only [h]
  have : seqIndex? 0 (d :: ds).length = some 0 := by
    unfold seqIndex?
    simp
  simp only [this, List.getElem?_cons_zero, List.eraseIdx_cons_zero]
  rfl
theorem addD_lst {S : Sto} {i j : Nat} {xs ys : List D} (h : S[i]? = some (.lst xs)) (h2 : S[j]? = some (.lst ys)) (hl : xs.length + ys.length ≤ lim) : addD (.ref i) (.ref j) S = .ok (.ref S.length) (S ++ [.lst (xs ++ ys)]) := by
  unfold addD
  simp only [h, h2, if_pos hl]
theorem addD_str {S : Sto} {a b : Str} (h : a.length + b.length ≤ lim) : addD (.str a) (.str b) S = .ok (.str (a ++ b)) S := if_pos h
theorem itemsL_ref {S : Sto} {j : Nat} {ds : List D} (h : S[j]? = some (.lst ds)) : itemsL S (.ref j) = some ds := by
  unfold itemsL
  simp only [h]
theorem itemsS_ref {S : Sto} {j : Nat} {ds : List D} (h : S[j]? = some (.lst ds)) : itemsS S (.ref j) = some ds := itemsL_ref h
theorem itD_ref {S : Sto} {j : Nat} {ds : List D} (h : S[j]? = some (.lst ds)) : itD (.ref j) S = .ok (itRef j) S := by
  unfold itD
  simp only [h]
theorem itRef_at {S : Sto} {j : Nat} {ds : List D} (h : S[j]? = some (.lst ds)) (i : Nat) : itRef j i S = some ds[i]? := by
  unfold itRef
  simp only [h]
@[simp] theorem itD_tup (S : Sto) (ds : List D) : itD (.tup ds) S = .ok (itOf ds) S := rfl
@[simp] theorem itOf_ap (ds : List D) (i : Nat) (S : Sto) : itOf ds i S = some ds[i]? := rfl
theorem rng1D_of {j : Int} {S : Sto} (h : -(2 ^ 62) ≤ j ∧ j < 2 ^ 62) : rng1D [.int j] S = .ok (itRng 0 j.toNat) S := if_pos h
theorem p62 : (2 : Int) ^ 62 = 4611686018427387904 := by decide
theorem rng1D_n {n : Nat} {S : Sto} (h : n < 1000000) : rng1D [.int (n : Int)] S = .ok (itRng 0 n) S := rng1D_of (by rw [p62]; omega)
theorem itRng_at (lo : Int) (n i : Nat) (S : Sto) : itRng lo n i S = some (((List.range n).map fun k => D.int (lo + (k : Nat)))[i]?) := by
  unfold itRng
  by_cases h : i < n
  · rw [if_pos h, List.getElem?_map, List.getElem?_range h]; rfl
  · rw [if_neg h, List.getElem?_map, List.getElem?_eq_none (by simpa using h)]; rfl
theorem enumAD_ref {S : Sto} {j : Nat} {ds : List D} (h : S[j]? = some (.lst ds)) : enumAD [.ref j] S = .ok (itEnum (.ref j)) S := by
  show enumD [.ref j] S = _
  unfold enumD
  simp only [itemsL_ref h]
def enumTs (ds : List D) : List D := (List.range ds.length).map fun i => .tup [.int (i : Nat), ds.getD i .non]
theorem enumTs_len (ds : List D) : (enumTs ds).length = ds.length := by simp [enumTs]
theorem enumTs_at (ds : List D) (i : Nat) : (enumTs ds)[i]? = ds[i]?.map fun d => .tup [.int (i : Nat), d] := by
  unfold enumTs
  by_cases h : i < ds.length
  · rw [List.getElem?_map, List.getElem?_range h, List.getElem?_eq_getElem h]
    simp [List.getD, List.getElem?_eq_getElem h]
  · rw [List.getElem?_map, List.getElem?_eq_none (by simpa using h), List.getElem?_eq_none (by simpa using h)]
    rfl
theorem itEnum_at {S : Sto} {j : Nat} {ds : List D} (h : S[j]? = some (.lst ds)) (i : Nat) : itEnum (.ref j) i S = some (enumTs ds)[i]? := by
  unfold itEnum
  simp only [itemsL_ref h, enumTs_at]
  rfl
theorem zipAD_ref {S : Sto} {j k : Nat} {ds es : List D} (h : S[j]? = some (.lst ds)) (h2 : S[k]? = some (.lst es)) : zipAD [.ref j, .ref k] S = .ok (itZip (.ref j) (.ref k)) S := by
  show zipD [.ref j, .ref k] S = _
  unfold zipD
  simp only [itemsL_ref h, itemsL_ref h2]
@[simp] theorem zipAD_tup (S : Sto) (ds es : List D) : zipAD [.tup ds, .tup es] S = .ok (itOf (zipTs ds es)) S := rfl
theorem itZip_at {S : Sto} {j k : Nat} {ds es : List D} (h : S[j]? = some (.lst ds)) (h2 : S[k]? = some (.lst es)) (i : Nat) : itZip (.ref j) (.ref k) i S = some (zipTs ds es)[i]? := by
  unfold itZip
  simp only [itemsL_ref h, itemsL_ref h2, @zipTs_get ⟨[]⟩]
theorem zipTs_len : ∀ (ds es : List D), ds.length = es.length → (zipTs ds es).length = ds.length
  | [], [], _ => rfl
  | d :: ds, e :: es, h => by
    have := zipTs_len ds es (by simpa using h)
    simp [zipTs, this]
theorem blsD_true : ∀ n : Nat, blsD (List.replicate n (D.bl true)) = some (List.replicate n true)
  | 0 => rfl
  | n + 1 => by
    rw [List.replicate_succ, List.replicate_succ]
    show (blsD _).map _ = _
    rw [blsD_true n]
    rfl
theorem allD_true {S : Sto} {j n : Nat} (h : S[j]? = some (.lst (List.replicate n (D.bl true)))) : allD [.ref j] S = .ok (.bl true) S := by
  unfold allD
  simp only [itemsL_ref h, Option.bind_some, blsD_true]
  simp
end Mi

set_option Elab.async false
set_option linter.all false
set_option maxRecDepth 100000
set_option maxHeartbeats 1000000
/-! texts as lists of signs -/
namespace Mi
open PySem PySem.Spec PyProof.Rows L2
open SX (S)
theorem str_S (x : Str) : x = S x.cps.toList := (SX.S_tl x).symm
@[simp] theorem S_toList (l : List Nat) : (S l).cps.toList = l := rfl
@[simp] theorem len_S (l : List Nat) : (S l).length = l.length := SX.S_len l
theorem sign1_S (c : Nat) : sign1 c = S [c] := rfl
theorem app_S (a b : List Nat) : S a ++ S b = S (a ++ b) := SX.S_cat a b
theorem beq_S (a b : List Nat) : (S a == S b) = decide (a = b) := SX.S_beq_eq
theorem ixD_S {l : List Nat} {q : Nat} {c : Nat} (h : l[q]? = some c) (T : Sto) : ixD (.str (S l)) (.int (q : Nat)) T = .ok (.str (S [c])) T := by
  show (match (L2.atI (S l).cps.toList (q : Int)).map fun c => D.str (sign1 c) with
    | some d => R.ok d T
    | none => .no) = _
  rw [S_toList, atI_n, h]
  rfl
theorem inD_S (c : Nat) (sg : List Nat) (T : Sto) : inD (.str (S [c])) (.str (S sg)) T = .ok (.bl (decide (c ∈ sg))) T := rfl
theorem notInD_S (c : Nat) (sg : List Nat) (T : Sto) : notInD (.str (S [c])) (.str (S sg)) T = .ok (.bl (!decide (c ∈ sg))) T := rfl
theorem sIx_nat (n d k : Nat) : HT.sIx n d (some (k : Int)) = min k n := HT.sIx_nat n d k
theorem cutS_S (l : List Nat) (lo hi : Option Int) : cutS (S l) lo hi = S ((l.drop (HT.sIx l.length 0 lo)).take (HT.sIx l.length l.length hi - HT.sIx l.length 0 lo)) := by
  unfold cutS
  rw [S_toList, len_S]
theorem cut2 (l : List Nat) {i j : Nat} (h : i ≤ j) (h2 : j ≤ l.length) : cutS (S l) (some (i : Int)) (some (j : Int)) = S ((l.drop i).take (j - i)) := by
  rw [cutS_S, sIx_nat, sIx_nat, Nat.min_eq_left h2, Nat.min_eq_left (Nat.le_trans h h2)]
theorem cutFrom (l : List Nat) {i : Nat} (h : i ≤ l.length) : cutS (S l) (some (i : Int)) none = S (l.drop i) := by
  rw [cutS_S, sIx_nat, Nat.min_eq_left h]
  show S ((l.drop i).take (l.length - i)) = _
  rw [List.take_of_length_le (by simp)]
theorem cutTo (l : List Nat) {i : Nat} (h : i ≤ l.length) : cutS (S l) none (some (i : Int)) = S (l.take i) := by
  rw [cutS_S, sIx_nat, Nat.min_eq_left h]
  show S ((l.drop 0).take (i - 0)) = _
  simp
@[simp] theorem slD_str (z : Str) (lo hi : Option Int) (T : Sto) : slD (.str z) lo hi T = .ok (.str (cutS z lo hi)) T := rfl
@[simp] theorem itD_S (l : List Nat) (T : Sto) : itD (.str (S l)) T = .ok (itOf (l.map fun c => .str (S [c]))) T := rfl
theorem ofS (s : String) : Str.ofString s = S (s.toList.map Char.toNat) := TL.ext_tl (TL.tl_ofString s)
theorem txtOk_S {l : List Nat} (h : l.all (fun c => decide (c < 1114112)) = true) (hl : l.length ≤ lim) : txtOk (S l) = true := by
  unfold txtOk
  rw [Bool.and_eq_true, decide_eq_true_eq, len_S]
  refine ⟨hl, ?_⟩
  unfold PyData.strOk
  rw [← Array.all_toList]
  exact h
/-- the places of a list, one behind another -/
theorem enumS_at (l : List Nat) (i : Nat) (T : Sto) (hi : i ≤ l.length) : enumSD (S l) i T = some (((List.range l.length).map fun k => D.tup [.int (k : Nat), .str (S [l.getD k 0])])[i]?) := by
  unfold enumSD
  have hs : (S l).cps.size = l.length := by simp
  rw [hs]
  by_cases h : i < l.length
  · rw [if_pos h, List.getElem?_map, List.getElem?_range h]
    rfl
  · rw [if_neg h]
    by_cases h2 : i = l.length
    · subst h2
      rw [if_pos rfl, List.getElem?_eq_none (by simp)]
    · omega
theorem enumAD_S (l : List Nat) (T : Sto) : enumAD [.str (S l)] T = .ok (enumSD (S l)) T := rfl
open PySem.Builtin.Str PySem.StrLaws in
theorem occ_stay (x y : Str) (hi : Nat) (a : Nat) : ∀ (l : List Nat) (f : Nat), (forIn l ((#[a] : Array Nat), f) (occBody x y hi 1)).run.fst = #[a]
  | [], f => rfl
  | b :: l, f => by
    rw [List.forIn_cons]
    unfold occBody
    rw [if_neg (by simp)]
    exact occ_stay x y hi a l f
open PySem.Builtin.Str PySem.StrLaws in
theorem occ_find (x y : Str) (hi : Nat) : ∀ (l : List Nat) (f : Nat), (∀ i ∈ l, f ≤ i) → (forIn l ((#[] : Array Nat), f) (occBody x y hi 1)).run.fst.toList = (l.find? fun i => decide (i + y.length ≤ hi ∧ subAt x y i = true)).toList
  | [], f, _ => rfl
  | b :: l, f, hf => by
    have hb : f ≤ b := hf b List.mem_cons_self
    rw [List.forIn_cons, List.find?_cons]
    unfold occBody
    by_cases hc : b + y.length ≤ hi ∧ subAt x y b = true
    · have c1 : (((#[] : Array Nat), f).fst.size < 1 ∧ ((#[] : Array Nat), f).snd ≤ b) ∧ b + y.length ≤ hi := ⟨⟨by simp, hb⟩, hc.1⟩
      rw [if_pos ⟨c1, hc.2⟩, decide_eq_true hc]
      have := occ_stay x y hi b l (b + y.length)
      show (forIn l ((#[b] : Array Nat), b + y.length) (occBody x y hi 1)).run.fst.toList = _
      rw [this]
      rfl
    · have c2 : ¬ (((((#[] : Array Nat), f).fst.size < 1 ∧ ((#[] : Array Nat), f).snd ≤ b) ∧ b + y.length ≤ hi) ∧ subAt x y b = true) := fun h => hc ⟨h.1.2, h.2⟩
      rw [if_neg c2, decide_eq_false hc]
      exact occ_find x y hi l f fun i hi' => hf i (List.mem_cons_of_mem _ hi')
theorem tw_at {l : List Nat} {c : Nat} (h : c ∈ l) : l[(l.takeWhile (fun x => decide (x ≠ c))).length]? = some c ∧ ∀ i, i < (l.takeWhile (fun x => decide (x ≠ c))).length → l[i]? ≠ some c := by
  induction l with
  | nil => cases h
  | cons a l ih =>
    by_cases e : a = c
    · subst e
      simp
    · have hm : c ∈ l := by
        rcases List.mem_cons.mp h with z | z
        · exact (e z.symm).elim
        · exact z
      obtain ⟨h1, h2⟩ := ih hm
      rw [List.takeWhile_cons, if_pos (by simpa using e)]
      refine ⟨by simpa using h1, fun i hi => ?_⟩
      cases i with
      | zero => simpa using e
      | succ i => simpa using h2 i (by simpa using hi)
theorem indexS {l : List Nat} {c : Nat} (h : c ∈ l) : Txt.index0 (S l) (S [c]) = some (l.takeWhile (fun x => decide (x ≠ c))).length := by
  obtain ⟨h1, h2⟩ := tw_at h
  unfold Txt.index0
  rw [StrLaws.occ_eq, occ_find _ _ _ _ _ (fun _ _ => Nat.zero_le _)]
  have hk := (List.getElem?_eq_some_iff.mp h1).1
  have : (List.range' 0 ((S l).length + 1 - 0)).find? (fun i => decide (i + (S [c]).length ≤ (S l).length ∧ Builtin.Str.subAt (S l) (S [c]) i = true)) = some (l.takeWhile (fun x => decide (x ≠ c))).length := by
    rw [List.find?_range'_eq_some]
    refine ⟨decide_eq_true ((StrLaws.subAt_one (S l) c _).mpr h1), ?_, fun j _ hj => ?_⟩
    · rw [len_S]
      simp only [List.mem_range'_1]
      omega
    · rw [Bool.not_eq_true', decide_eq_false_iff_not]
      exact fun z => h2 j hj ((StrLaws.subAt_one (S l) c j).mp z)
  rw [this]
  rfl
theorem spl_mem (sep : List Nat) : ∀ (l : List Nat) (k : Nat) (acc x : List Nat), x ∈ TL.spl sep k acc l → ∀ y ∈ x, y ∈ acc ∨ y ∈ l
  | [], k, acc, x, h, y, hy => by
    rw [TL.spl_nil] at h
    rw [List.mem_singleton.mp h] at hy
    exact .inl hy
  | c :: r, 0, acc, x, h, y, hy => by
    by_cases hp : TL.pre sep (c :: r) = true
    · rw [TL.spl_hit hp] at h
      rcases List.mem_cons.mp h with h | h
      · rw [h] at hy
        exact .inl hy
      · rcases spl_mem sep r _ _ x h y hy with z | z
        · cases z
        · exact .inr (List.mem_cons_of_mem _ z)
    · rw [TL.spl_miss (by simpa using hp)] at h
      rcases spl_mem sep r _ _ x h y hy with z | z
      · rcases List.mem_append.mp z with z | z
        · exact .inl z
        · rw [List.mem_singleton.mp z]
          exact .inr List.mem_cons_self
      · exact .inr (List.mem_cons_of_mem _ z)
  | c :: r, k + 1, acc, x, h, y, hy => by
    have h : x ∈ TL.spl sep k acc r := h
    rcases spl_mem sep r _ _ x h y hy with z | z
    · exact .inl z
    · exact .inr (List.mem_cons_of_mem _ z)
theorem spl_lenL (sep : List Nat) : ∀ (l : List Nat) (k : Nat) (acc x : List Nat), x ∈ TL.spl sep k acc l → x.length ≤ acc.length + l.length
  | [], k, acc, x, h => by
    rw [TL.spl_nil] at h
    rw [List.mem_singleton.mp h]
    simp
  | c :: r, 0, acc, x, h => by
    by_cases hp : TL.pre sep (c :: r) = true
    · rw [TL.spl_hit hp] at h
      rcases List.mem_cons.mp h with h | h
      · rw [h]; omega
      · have := spl_lenL sep r _ _ x h
        simp at this ⊢
        omega
    · rw [TL.spl_miss (by simpa using hp)] at h
      have := spl_lenL sep r _ _ x h
      simp at this ⊢
      omega
  | c :: r, k + 1, acc, x, h => by
    have h : x ∈ TL.spl sep k acc r := h
    have := spl_lenL sep r _ _ x h
    simp at this ⊢
    omega
/-- what split makes of a text by one sign: the first piece -/
theorem spl_first (l : List Nat) (c : Nat) : ∃ r : List (List Nat), TL.spl [c] 0 [] l = l.takeWhile (fun x => decide (x ≠ c)) :: r := by
  by_cases h : c ∈ l
  · obtain ⟨h1, h2⟩ := tw_at h
    have hk := (List.getElem?_eq_some_iff.mp h1).1
    have e : l = l.takeWhile (fun x => decide (x ≠ c)) ++ ([c] ++ l.drop ((l.takeWhile (fun x => decide (x ≠ c))).length + 1)) := by
      have e1 : l.take (l.takeWhile (fun x => decide (x ≠ c))).length = l.takeWhile (fun x => decide (x ≠ c)) := (List.prefix_iff_eq_take.mp (List.takeWhile_prefix _)).symm
      have e2 := List.take_append_drop (l.takeWhile (fun x => decide (x ≠ c))).length l
      have e3 : l.drop (l.takeWhile (fun x => decide (x ≠ c))).length = c :: l.drop ((l.takeWhile (fun x => decide (x ≠ c))).length + 1) := by
        rw [List.drop_eq_getElem_cons hk]
        congr 1
        exact (List.getElem?_eq_some_iff.mp h1).2
      rw [e1, e3] at e2
      simpa using e2.symm
    have hn : c ∉ l.takeWhile (fun x => decide (x ≠ c)) := fun z => by
      have := List.all_eq_true.mp (List.all_takeWhile (l := l) (p := fun x => decide (x ≠ c))) c z
      simp at this
    generalize l.takeWhile (fun x => decide (x ≠ c)) = w at e hn ⊢
    generalize l.drop (w.length + 1) = t at e
    subst e
    rw [TL.spl_part1 hn, List.nil_append]
    exact ⟨_, rfl⟩
  · rw [TL.spl_last1 h, List.nil_append]
    refine ⟨[], ?_⟩
    congr 1
    have tw : ∀ m : List Nat, c ∉ m → m.takeWhile (fun x => decide (x ≠ c)) = m := by
      intro m
      induction m with
      | nil => intro _; rfl
      | cons a m ih =>
        intro hm
        rw [List.mem_cons, not_or] at hm
        rw [List.takeWhile_cons, if_pos (by simpa using fun z : a = c => hm.1 z.symm), ih hm.2]
    exact (tw l h).symm
/-- the signs of a text are all of the first 1114112, it is not long -/
def okL (l : List Nat) : Prop := (∀ c ∈ l, c < 1114112) ∧ l.length ≤ 100000
theorem okL.txt {l : List Nat} (h : okL l) : txtOk (S l) = true := txtOk_S (List.all_eq_true.mpr fun c hc => decide_eq_true (h.1 c hc)) (Nat.le_trans h.2 (by decide))
theorem splD_S {l : List Nat} (h : okL l) {c : Nat} (hc : c < 256) (T : Sto) : splD (.str (S l)) [.str (S [c])] T = .ok (.ref T.length) (T ++ [.lst ((TL.spl [c] 0 [] l).map fun x => .str (S x))]) := by
  have e : Txt.split (S l) (S [c]) = (TL.spl [c] 0 [] l).map S := SX.split_S (by simp) (by simpa using hc)
  show (if ((S [c]).length == 0) = false ∧ (Txt.split (S l) (S [c])).all txtOk = true then R.ok (D.ref T.length) (T ++ [MO.lst ((Txt.split (S l) (S [c])).map D.str)]) else R.no) = _
  rw [e]
  rw [if_pos]
  · rw [List.map_map]
    rfl
  · refine ⟨rfl, List.all_eq_true.mpr fun x hx => ?_⟩
    obtain ⟨y, hy, rfl⟩ := List.mem_map.mp hx
    refine okL.txt ⟨fun c' hc' => ?_, ?_⟩
    · rcases spl_mem _ _ _ _ _ hy c' hc' with z | z
      · cases z
      · exact h.1 c' z
    · have := spl_lenL _ _ _ _ _ hy
      have := h.2
      simp at *
      omega
end Mi

set_option Elab.async false
set_option linter.all false
set_option maxRecDepth 100000
set_option maxHeartbeats 4000000
namespace H
open PySem PySem.Spec PyProof.Rows L2 Mi
def m__law_stream : FM := mDef 1 (mRet (mLst (mCons (mCall listAD (mCons (mVar 0) (mNil))) (mCons (mC (.int 0)) (mCons (mC (.int 0)) (mCons (mC (.int 19)) (mNil)))))))
def m__law_same : Nat → FM
 | 0 => fun _ _ => .no
 | n + 1 => mDef 4 (mSeq (mIfS (mTst (mCall isiD (mCons (mVar 1) (mCons (mTup (mCons (mC (.bty "list")) (mCons (mC (.bty "tuple")) (mNil)))) (mNil))))) (mSeq (mIfS (mOrT (mTst (mBin neD (mCall isiD (mCons (mVar 0) (mCons (mC (.bty "list")) (mNil)))) (mCall isiD (mCons (mVar 1) (mCons (mC (.bty "list")) (mNil)))))) (mTst (mBin neD (mCall isiD (mCons (mVar 0) (mCons (mC (.bty "tuple")) (mNil)))) (mCall isiD (mCons (mVar 1) (mCons (mC (.bty "tuple")) (mNil))))))) (mRet (mC (.bl false))) (mSkip))
 (mRet (mAndV (mBin eqD (mCall lenD (mCons (mVar 0) (mNil))) (mCall lenD (mCons (mVar 1) (mNil)))) (mCall allD (mCons (mLC (mItA zipAD (mCons (mVar 0) (mCons (mVar 1) (mNil)))) (gT ((gN 2) :: ((gN 3) :: ([])))) (mTrue) (mCall (m__law_same n) (mCons (mVar 2) (mCons (mVar 3) (mNil)))) [2, 3]) (mNil)))))) (mSkip))
 (mSeq (mIfS (mTst (mCall isiD (mCons (mVar 1) (mCons (mC (.bty "dict")) (mNil))))) (mRet (mAndV (mCall isiD (mCons (mVar 0) (mCons (mC (.bty "dict")) (mNil)))) (mCall (m__law_same n) (mCons (mUn listItemsD (mVar 0)) (mCons (mUn listItemsD (mVar 1)) (mNil)))))) (mSkip))
 (mSeq (mIfS (mOrT (mTst (mCall isiD (mCons (mVar 1) (mCons (mC (.bty "bool")) (mNil))))) (mTst (mCall isiD (mCons (mVar 0) (mCons (mC (.bty "bool")) (mNil)))))) (mRet (mAndV (mCall isiD (mCons (mVar 1) (mCons (mC (.bty "bool")) (mNil)))) (mAndV (mCall isiD (mCons (mVar 0) (mCons (mC (.bty "bool")) (mNil)))) (mBin eqD (mVar 0) (mVar 1))))) (mSkip))
 (mSeq (mIfS (mOrT (mTst (mBin isD (mVar 1) (mC .non))) (mTst (mBin isD (mVar 0) (mC .non)))) (mRet (mAndV (mBin isD (mVar 1) (mC .non)) (mBin isD (mVar 0) (mC .non)))) (mSkip))
 (mSeq (mIfS (mOrT (mTst (mBin neD (mCall isiD (mCons (mVar 1) (mCons (mC (.bty "int")) (mNil)))) (mCall isiD (mCons (mVar 0) (mCons (mC (.bty "int")) (mNil)))))) (mTst (mBin neD (mCall isiD (mCons (mVar 1) (mCons (mC (.bty "str")) (mNil)))) (mCall isiD (mCons (mVar 0) (mCons (mC (.bty "str")) (mNil))))))) (mRet (mC (.bl false))) (mSkip))
 (mRet (mAndV (mNotV (mCall isiD (mCons (mVar 0) (mCons (mTup (mCons (mC (.bty "list")) (mCons (mC (.bty "tuple")) (mCons (mC (.bty "dict")) (mNil))))) (mNil))))) (mBin eqD (mVar 0) (mVar 1)))))))))
def m__law_draw : FM := mDef 5 (mSeq (mSto (mBin addD (mBin ixD (mVar 0) (mC (.int 2))) (mC (.int 1))) (mVar 0) (mC (.int 2)))
 (mSeq (mWhile (mAndT (mTst (mBin eqD (mBin ixD (mVar 0) (mC (.int 1))) (mC (.int 0)))) (mTst (mBin neD (mBin ixD (mVar 0) (mC (.int 0))) (mLst (mNil))))) (mSeq (mAsg (gN 2) (mCall absD (mCons (mMeth "list" popAtD (mBin ixD (mVar 0) (mC (.int 0))) (mCons (mC (.int 0)) (mNil))) (mNil))))
 (mSeq (mSto (mBin modD (mCall intD (mCons (mBin addD (mBin addD (mBin mulD (mBin ixD (mVar 0) (mC (.int 3))) (mC (.int 6151))) (mVar 2)) (mC (.int 7))) (mNil))) (mC (.int 2147483629))) (mVar 0) (mC (.int 3)))
 (mSto (mIf (mTst (mBin geD (mVar 2) (mBin powD (mC (.int 10)) (mC (.int 18))))) (mVar 2) (mC (.int 0))) (mVar 0) (mC (.int 1))))))
 (mSeq (mIfS (mTst (mBin gtD (mBin ixD (mVar 0) (mC (.int 1))) (mC (.int 0)))) (mSeq (mAsg (gN 3) (mBin modD (mCall intD (mCons (mBin ixD (mVar 0) (mC (.int 1))) (mNil))) (mVar 1)))
 (mSeq (mSto (mBin fdivD (mBin ixD (mVar 0) (mC (.int 1))) (mVar 1)) (mVar 0) (mC (.int 1)))
 (mRet (mVar 3)))) (mSkip))
 (mSeq (mAsg (gN 4) (mBin modD (mCall intD (mCons (mBin powD (mBin addD (mBin addD (mBin ixD (mVar 0) (mC (.int 3))) (mBin mulD (mC (.int 8191)) (mBin ixD (mVar 0) (mC (.int 2))))) (mC (.int 50021))) (mC (.int 5))) (mNil))) (mC (.int 2147483587))))
 (mRet (mBin modD (mBin modD (mCall intD (mCons (mBin powD (mBin addD (mBin addD (mBin mulD (mVar 4) (mC (.int 40009))) (mBin mulD (mC (.int 20011)) (mBin ixD (mVar 0) (mC (.int 2))))) (mC (.int 31))) (mC (.int 3))) (mNil))) (mC (.int 1000000009))) (mVar 1)))))))
def m__law_pick : FM := mDef 2 (mRet (mBin ixD (mVar 1) (mCall m__law_draw (mCons (mVar 0) (mCons (mCall lenD (mCons (mVar 1) (mNil))) (mNil))))))
def m__law_copied : Nat → FM
 | 0 => fun _ _ => .no
 | n + 1 => mDef 4 (mSeq (mIfS (mTst (mCall isiD (mCons (mVar 0) (mCons (mTup (mCons (mC (.bty "list")) (mCons (mC (.bty "tuple")) (mNil)))) (mNil))))) (mSeq (mAsg (gN 1) (mLC (mIt (mVar 0)) (gN 2) (mTrue) (mCall (m__law_copied n) (mCons (mVar 2) (mNil))) [2]))
 (mRet (mIf (mTst (mCall isiD (mCons (mVar 0) (mCons (mC (.bty "list")) (mNil))))) (mVar 1) (mCall tupleD (mCons (mVar 1) (mNil)))))) (mSkip))
 (mSeq (mIfS (mTst (mCall isiD (mCons (mVar 0) (mCons (mC (.bty "dict")) (mNil))))) (mRet (mCall dictD (mCons (mLockE 0 (mLC (mKeys (mVar 0)) (gN 3) (mTrue) (mTup (mCons (mVar 3) (mCons (mCall (m__law_copied n) (mCons (mBin ixD (mVar 0) (mVar 3)) (mNil))) (mNil)))) [3])) (mNil)))) (mSkip))
 (mRet (mVar 0))))
def m_check_text : FM := mDef 1 (mIfS (mNotT (mTst (mCall isiD (mCons (mVar 0) (mCons (mC (.bty "str")) (mNil)))))) (mRaise "NoText" "text" (mVar 0)) (mSkip))
def m_rows_of_text : FM := mDef 2 (mRet (mLC (mIt (mMeth "str" splD (mVar 0) (mCons (mC (.str "\n")) (mNil)))) (gN 1) (mTrue) (mBin ixD (mMeth "str" splD (mVar 1) (mCons (mC (.str "#")) (mNil))) (mC (.int 0))) [1]))
def m_run_end : FM := mDef 4 (mSeq (mAsg (gN 3) (mVar 1))
 (mSeq (mWhile (mAndT (mTst (mBin ltD (mVar 3) (mCall lenD (mCons (mVar 0) (mNil))))) (mTst (mBin inD (mBin ixD (mVar 0) (mVar 3)) (mVar 2)))) (mAsg (gN 3) (mBin addD (mVar 3) (mC (.int 1)))))
 (mRet (mVar 3))))
def m_row_tokens : FM := mDef 4 (mSeq (mPar 1 2 (mCons (mLst (mNil)) (mCons (mC (.int 0)) (mNil))))
 (mSeq (mWhile (mTst (mBin ltD (mVar 2) (mCall lenD (mCons (mVar 0) (mNil))))) (mSeq (mAsg (gN 3) (mBin addD (mVar 2) (mC (.int 1))))
 (mSeq (mIfS (mTst (mBin inD (mBin ixD (mVar 0) (mVar 2)) (mC (.str "abcdefghijklmnopqrstuvwxyz")))) (mSeq (mAsg (gN 3) (mCall m_run_end (mCons (mVar 0) (mCons (mVar 2) (mCons (mC (.str "abcdefghijklmnopqrstuvwxyz")) (mNil))))))
 (mExpr (mMeth "list" appendD (mVar 1) (mCons (mTup (mCons (mC (.str "word")) (mCons (mSl (mVar 0) (mSome (mVar 2)) (mSome (mVar 3))) (mCons (mVar 2) (mNil))))) (mNil))))) (mIfS (mTst (mBin inD (mBin ixD (mVar 0) (mVar 2)) (mC (.str "0123456789")))) (mSeq (mAsg (gN 3) (mCall m_run_end (mCons (mVar 0) (mCons (mVar 2) (mCons (mC (.str "0123456789")) (mNil))))))
 (mExpr (mMeth "list" appendD (mVar 1) (mCons (mTup (mCons (mC (.str "number")) (mCons (mCall intD (mCons (mSl (mVar 0) (mSome (mVar 2)) (mSome (mVar 3))) (mNil))) (mCons (mVar 2) (mNil))))) (mNil))))) (mIfS (mTst (mBin inD (mBin ixD (mVar 0) (mVar 2)) (mC (.str "()[]:")))) (mExpr (mMeth "list" appendD (mVar 1) (mCons (mTup (mCons (mC (.str "sign")) (mCons (mBin ixD (mVar 0) (mVar 2)) (mCons (mVar 2) (mNil))))) (mNil)))) (mIfS (mTst (mBin neD (mBin ixD (mVar 0) (mVar 2)) (mC (.str " ")))) (mRet (mTup (mCons (mVar 1) (mCons (mVar 2) (mNil))))) (mSkip)))))
 (mAsg (gN 2) (mVar 3)))))
 (mRet (mTup (mCons (mVar 1) (mCons (mC .non) (mNil)))))))
def m_tokens : FM := mDef 6 (mSeq (mExpr (mCall m_check_text (mCons (mVar 0) (mNil))))
 (mSeq (mAsg (gN 1) (mLst (mNil)))
 (mSeq (mFor (mItA enumAD (mCons (mCall m_rows_of_text (mCons (mVar 0) (mNil))) (mNil))) (gT ((gN 2) :: ((gN 3) :: ([])))) (mSeq (mAsg (gT ((gN 4) :: ((gN 5) :: ([])))) (mCall m_row_tokens (mCons (mVar 3) (mNil))))
 (mSeq (mIfS (mTst (mBin notIsD (mVar 5) (mC .non))) (mRaise "Unread" "at" (mTup (mCons (mVar 2) (mCons (mVar 5) (mNil))))) (mSkip))
 (mExpr (mMeth "list" appendD (mVar 1) (mCons (mVar 4) (mNil)))))))
 (mRet (mVar 1)))))
def m__law_drawn_row : FM := mDef 6 (mSeq (mPar 1 2 (mCons (mC (.str "")) (mCons (mLst (mCons (mC (.str "kind")) (mCons (mC (.str "rule")) (mCons (mC (.str "net")) (mCons (mC (.str "a")) (mCons (mC (.str "zero")) (mCons (mC (.str "longword")) (mCons (mC (.str "x")) (mCons (mC (.str "0")) (mCons (mC (.str "7")) (mCons (mC (.str "0012")) (mCons (mC (.str "999999")) (mNil))))))))))))) (mNil))))
 (mSeq (mFor (mItA rng1D (mCons (mCall m__law_draw (mCons (mVar 0) (mCons (mC (.int 9)) (mNil)))) (mNil))) (gN 3) (mAsg (gN 1) (mBin addD (mVar 1) (mCall m__law_pick (mCons (mVar 0) (mCons (mBin addD (mBin addD (mVar 2) (mCall listAD (mCons (mC (.str "()[]:")) (mNil)))) (mLst (mCons (mC (.str " ")) (mCons (mC (.str "  ")) (mCons (mC (.str " ")) (mCons (mC (.str " ")) (mNil))))))) (mNil)))))))
 (mSeq (mIfS (mTst (mBin eqD (mCall m__law_draw (mCons (mVar 0) (mCons (mC (.int 5)) (mNil)))) (mC (.int 0)))) (mSeq (mAsg (gN 4) (mCall m__law_draw (mCons (mVar 0) (mCons (mBin addD (mCall lenD (mCons (mVar 1) (mNil))) (mC (.int 1))) (mNil)))))
 (mSeq (mAsg (gN 5) (mCall m__law_pick (mCons (mVar 0) (mCons (mBin addD (mCall listAD (mCons (mC (.str "@-,A_'+;{}~Z.")) (mNil))) (mLst (mCons (mC (.str "\t")) (mNil)))) (mNil)))))
 (mAsg (gN 1) (mBin addD (mBin addD (mSl (mVar 1) (mNone) (mSome (mVar 4))) (mVar 5)) (mSl (mVar 1) (mSome (mVar 4)) (mNone)))))) (mSkip))
 (mRet (mBin addD (mVar 1) (mIf (mTst (mBin eqD (mCall m__law_draw (mCons (mVar 0) (mCons (mC (.int 4)) (mNil)))) (mC (.int 0)))) (mCall m__law_pick (mCons (mVar 0) (mCons (mLst (mCons (mC (.str "# no @ sign ( 12")) (mCons (mC (.str "#")) (mCons (mC (.str "#a#b")) (mNil))))) (mNil)))) (mC (.str ""))))))))
def m__law_met : (Sto → R D) → Sto → R D := metM 2 ["NoText", "Unread"] [("NoText", 1, hfPair "text" "text"), ("Unread", 1, hfPair "unread" "at")] fun v S => .ok (.tup [.str "told", v]) S
def m__law_spoilt : Nat → FM
 | 0 => fun _ _ => .no
 | n + 1 => mDef 3 (mSeq (mIfS (mTst (mCall isiD (mCons (mVar 0) (mCons (mC (.bty "dict")) (mNil))))) (mSeq (mFor (mIt (mCall listAD (mCons (mVar 0) (mNil)))) (gN 1) (mExpr (mCall (m__law_spoilt n) (mCons (mBin ixD (mVar 0) (mVar 1)) (mNil)))))
 (mSto (mC (.int 1)) (mVar 0) (mC (.str "late")))) (mSkip))
 (mSeq (mIfS (mTst (mCall isiD (mCons (mVar 0) (mCons (mTup (mCons (mC (.bty "list")) (mCons (mC (.bty "tuple")) (mNil)))) (mNil))))) (mFor (mIt (mVar 0)) (gN 2) (mExpr (mCall (m__law_spoilt n) (mCons (mVar 2) (mNil))))) (mSkip))
 (mIfS (mTst (mCall isiD (mCons (mVar 0) (mCons (mC (.bty "list")) (mNil))))) (mExpr (mMeth "list" appendD (mVar 0) (mCons (mC (.str "late")) (mNil)))) (mSkip))))
def m__law_run : FM := mDef 5 (mSeq (mAsg (gN 3) (mC (.int 0)))
 (mSeq (mFor (mIt (mSl (mVar 0) (mSome (mVar 1)) (mNone))) (gN 4) (mSeq (mIfS (mTst (mBin notInD (mVar 4) (mVar 2))) (mRet (mVar 3)) (mSkip))
 (mAsg (gN 3) (mBin addD (mVar 3) (mC (.int 1))))))
 (mRet (mVar 3))))
def m__law_row_tokens : FM := mDef 7 (mSeq (mPar3 0 1 2 (mCons (mIf (mTst (mBin inD (mC (.str "#")) (mVar 0))) (mSl (mVar 0) (mNone) (mSome (mMeth "str" indexD (mVar 0) (mCons (mC (.str "#")) mNil)))) (mVar 0)) (mCons (mLst (mNil)) (mCons (mC (.int 0)) (mNil)))))
 (mSeq (mFor (mItA enumAD (mCons (mVar 0) (mNil))) (gT ((gN 3) :: ((gN 4) :: ([])))) (mSeq (mAsg (gN 5) (mCall m__law_run (mCons (mVar 0) (mCons (mVar 3) (mCons (mC (.str "abcdefghijklmnopqrstuvwxyz")) (mNil))))))
 (mSeq (mAsg (gN 6) (mCall m__law_run (mCons (mVar 0) (mCons (mVar 3) (mCons (mC (.str "0123456789")) (mNil))))))
 (mIfS (mTst (mBin gtD (mVar 2) (mC (.int 0)))) (mAsg (gN 2) (mBin subD (mVar 2) (mC (.int 1)))) (mIfS (mTst (mBin gtD (mVar 5) (mC (.int 0)))) (mSeq (mExpr (mMeth "list" appendD (mVar 1) (mCons (mTup (mCons (mC (.str "word")) (mCons (mSl (mVar 0) (mSome (mVar 3)) (mSome (mBin addD (mVar 3) (mVar 5)))) (mCons (mVar 3) (mNil))))) (mNil))))
 (mAsg (gN 2) (mBin subD (mVar 5) (mC (.int 1))))) (mIfS (mTst (mBin gtD (mVar 6) (mC (.int 0)))) (mSeq (mExpr (mMeth "list" appendD (mVar 1) (mCons (mTup (mCons (mC (.str "number")) (mCons (mCall intD (mCons (mSl (mVar 0) (mSome (mVar 3)) (mSome (mBin addD (mVar 3) (mVar 6)))) (mNil))) (mCons (mVar 3) (mNil))))) (mNil))))
 (mAsg (gN 2) (mBin subD (mVar 6) (mC (.int 1))))) (mIfS (mTst (mBin inD (mVar 4) (mC (.str "()[]:")))) (mExpr (mMeth "list" appendD (mVar 1) (mCons (mTup (mCons (mC (.str "sign")) (mCons (mVar 4) (mCons (mVar 3) (mNil))))) (mNil)))) (mIfS (mTst (mBin neD (mVar 4) (mC (.str " ")))) (mRet (mTup (mCons (mVar 1) (mCons (mVar 3) (mCons (mCall lenD (mCons (mVar 0) (mNil))) (mNil)))))) (mSkip)))))))))
 (mRet (mTup (mCons (mVar 1) (mCons (mC .non) (mCons (mCall lenD (mCons (mVar 0) (mNil))) (mNil))))))))
def m_law : FM := mDef 18 (mSeq (mAsg (gN 1) (mCall m__law_stream (mCons (mVar 0) (mNil))))
 (mSeq (mFor (mItA rng1D (mCons (mC (.int 9)) (mNil))) (gN 2) (mSeq (mAsg (gN 3) (mLC (mItA rng1D (mCons (mCall m__law_pick (mCons (mVar 1) (mCons (mLst (mCons (mC (.int 1)) (mCons (mC (.int 1)) (mCons (mC (.int 2)) (mCons (mC (.int 3)) (mCons (mC (.int 5)) (mNil))))))) (mNil)))) (mNil))) (gN 12) (mTrue) (mCall m__law_drawn_row (mCons (mVar 1) (mNil))) [12]))
 (mSeq (mAsg (gT ((gN 11) :: ((gN 4) :: ([])))) (mTup (mCons (mMeth "str" joinD (mC (.str "\n")) (mCons (mVar 3) (mNil))) (mCons (mLC (mIt (mVar 3)) (gN 12) (mTrue) (mCall m__law_row_tokens (mCons (mVar 12) (mNil))) [12]) (mNil)))))
 (mSeq (mAsg (gN 5) (mTup (mCons (mC (.str "told")) (mCons (mLC (mIt (mVar 4)) (gT ((gN 15) :: ((gN 16) :: ((gN 17) :: ([]))))) (mTrue) (mVar 15) [15, 16, 17]) (mNil)))))
 (mSeq (mAsg (gN 6) (mLC (mItA enumAD (mCons (mVar 4) (mNil))) (gT ((gN 13) :: ((gN 14) :: ([])))) (mTst (mBin notIsD (mBin ixD (mVar 14) (mC (.int 1))) (mC .non))) (mTup (mCons (mVar 13) (mCons (mBin ixD (mVar 14) (mC (.int 1))) (mNil)))) [13, 14]))
 (mSeq (mIfS (mTst (mBin neD (mVar 6) (mLst (mNil)))) (mAsg (gN 5) (mTup (mCons (mC (.str "unread")) (mCons (mBin ixD (mVar 6) (mC (.int 0))) (mNil))))) (mSkip))
 (mSeq (mAsg (gN 7) (mLst (mCons (mLam m__law_met (mCall m_tokens (mCons (mVar 11) (mNil)))) (mNil))))
 (mSeq (mExpr (mMeth "list" appendD (mVar 7) (mCons (mLam m__law_met (mCallK m_tokens [0] mNil (mCons (mVar 11) (mNil)))) (mNil))))
 (mSeq (mIfS (mNotT (mTst (mCall (m__law_same 6) (mCons (mVar 7) (mCons (mLst (mCons (mVar 5) (mCons (mVar 5) (mNil)))) (mNil)))))) (mRet (mC (.bl false))) (mSkip))
 (mSeq (mIfS (mTst (mBin eqD (mVar 6) (mLst (mNil)))) (mExpr (mCall (m__law_spoilt 6) (mCons (mBin ixD (mBin ixD (mVar 7) (mC (.int 0))) (mC (.int 1))) (mNil)))) (mSkip))
 (mSeq (mIfS (mNotT (mTst (mCall (m__law_same 6) (mCons (mLam m__law_met (mCall m_tokens (mCons (mVar 11) (mNil)))) (mCons (mVar 5) (mNil)))))) (mRet (mC (.bl false))) (mSkip))
 (mSeq (mAsg (gN 8) (mCall m__law_pick (mCons (mVar 1) (mCons (mLst (mCons (mC .non) (mCons (mC (.int 5)) (mCons (mC (.bl true)) (mCons (mLst (mNil)) (mCons (mLst (mCons (mC (.str "kind a 1")) (mNil))) (mCons (mTup (mCons (mC (.str "a")) (mNil))) (mCons (mDK) (mCons (mUn negD (mC (.int 1))) (mNil)))))))))) (mNil)))))
 (mSeq (mAsg (gN 10) (mCall (m__law_copied 6) (mCons (mVar 8) (mNil))))
 (mSeq (mAsg (gN 9) (mLst (mCons (mLam m__law_met (mCall m_tokens (mCons (mVar 10) (mNil)))) (mNil))))
 (mSeq (mIfS (mTst (mCall isiD (mCons (mVar 10) (mCons (mC (.bty "list")) (mNil))))) (mExpr (mMeth "list" appendD (mVar 10) (mCons (mC (.str "late")) (mNil)))) (mSkip))
 (mIfS (mNotT (mTst (mCall (m__law_same 6) (mCons (mVar 9) (mCons (mLst (mCons (mTup (mCons (mC (.str "text")) (mCons (mVar 10) (mNil)))) (mNil))) (mNil)))))) (mRet (mC (.bl false))) (mSkip)))))))))))))))))
 (mSeq (mAsg (gN 7) (mLst (mCons (mCall m_tokens (mCons (mC (.str "")) (mNil))) (mCons (mCall m_tokens (mCons (mC (.str "kind a 1# x\n")) (mNil))) (mCons (mCall m_tokens (mCons (mC (.str "\n\n")) (mNil))) (mNil))))))
 (mSeq (mAsg (gN 5) (mLst (mCons (mLst (mCons (mLst (mNil)) (mNil))) (mCons (mLst (mCons (mLst (mCons (mTup (mCons (mC (.str "word")) (mCons (mC (.str "kind")) (mCons (mC (.int 0)) (mNil))))) (mCons (mTup (mCons (mC (.str "word")) (mCons (mC (.str "a")) (mCons (mC (.int 5)) (mNil))))) (mCons (mTup (mCons (mC (.str "number")) (mCons (mC (.int 1)) (mCons (mC (.int 7)) (mNil))))) (mNil))))) (mCons (mLst (mNil)) (mNil)))) (mCons (mLst (mCons (mLst (mNil)) (mCons (mLst (mNil)) (mCons (mLst (mNil)) (mNil))))) (mNil))))))
 (mRet (mCall (m__law_same 6) (mCons (mVar 7) (mCons (mVar 5) (mNil)))))))))
end H

set_option Elab.async false
set_option linter.all false
set_option maxRecDepth 100000
set_option maxHeartbeats 4000000
namespace H
open PySem PySem.Spec PyProof.Rows L2 Mi
def top (i : Nat) : Stmt := PySem.Challenge.pw_facesmeet_k24_whole_tokens_of_texts.main.body.getD i (.Pass ⟨0, 0, 0, 0⟩)
variable [TabsOf]
abbrev st__law_stream : Stmt := top 14
abbrev st__law_same : Stmt := top 18
abbrev st__law_draw : Stmt := top 15
abbrev st__law_pick : Stmt := top 16
abbrev st__law_copied : Stmt := top 17
abbrev st_check_text : Stmt := top 8
abbrev st_rows_of_text : Stmt := top 9
abbrev st_run_end : Stmt := top 10
abbrev st_row_tokens : Stmt := top 11
abbrev st_tokens : Stmt := top 12
abbrev st__law_drawn_row : Stmt := top 22
abbrev st__law_met : Stmt := top 23
abbrev st__law_spoilt : Stmt := top 19
abbrev st__law_run : Stmt := top 20
abbrev st__law_row_tokens : Stmt := top 21
abbrev st_law : Stmt := top 24
structure Fx (P : Program) (w : World) (K : PySem.W.Frag) (mg : Str → Option Value) (base : Heap) (lc : Addr) : Prop where
  n_list : mg "list" = none
  d__law_stream : Df K mg "_law_stream" st__law_stream ["script"]
  n_tuple : mg "tuple" = none
  n_isinstance : mg "isinstance" = none
  n_len : mg "len" = none
  n_zip : mg "zip" = none
  n_all : mg "all" = none
  n_dict : mg "dict" = none
  n_bool : mg "bool" = none
  n_int : mg "int" = none
  n_str : mg "str" = none
  d__law_same : Df K mg "_law_same" st__law_same ["found", "due"]
  n_abs : mg "abs" = none
  d__law_draw : Df K mg "_law_draw" st__law_draw ["stream", "many"]
  d__law_pick : Df K mg "_law_pick" st__law_pick ["stream", "things"]
  d__law_copied : Df K mg "_law_copied" st__law_copied ["thing"]
  e_NoText : ExcF P w K mg base "NoText" "text"
  d_check_text : Df K mg "check_text" st_check_text ["text"]
  d_rows_of_text : Df K mg "rows_of_text" st_rows_of_text ["text"]
  d_run_end : Df K mg "run_end" st_run_end ["row", "place", "signs"]
  s_LETTERS : ∃ t, mg "LETTERS" = some (.str "abcdefghijklmnopqrstuvwxyz" t)
  s_DIGITS : ∃ t, mg "DIGITS" = some (.str "0123456789" t)
  d_row_tokens : Df K mg "row_tokens" st_row_tokens ["row"]
  n_enumerate : mg "enumerate" = none
  e_Unread : ExcF P w K mg base "Unread" "at"
  d_tokens : Df K mg "tokens" st_tokens ["text"]
  n_range : mg "range" = none
  d__law_drawn_row : Df K mg "_law_drawn_row" st__law_drawn_row ["stream"]
  g_Unread : ∃ C, mg "Unread" = some (.ref C)
  g_NoText : ∃ C, mg "NoText" = some (.ref C)
  xm : ∀ c x ca C, c ∈ (["NoText", "Unread"] : List Str) → x ∈ (["NoText", "Unread"] : List Str) → mg c = some (.ref ca) → mg x = some (.ref C) → PySem.W.exmOne K (.ref ca) (.ref C) = some (decide (c = x))
  d__law_met : Df K mg "_law_met" st__law_met ["ask"]
  d__law_spoilt : Df K mg "_law_spoilt" st__law_spoilt ["thing"]
  d__law_run : Df K mg "_law_run" st__law_run ["row", "place", "signs"]
  d__law_row_tokens : Df K mg "_law_row_tokens" st__law_row_tokens ["row"]
  d_law : DfC K mg "law" st_law ["script"] lc
section
variable {P : Program} {w : World} {K : PySem.W.Frag} {mg : Str → Option Value} {base : Heap} {lc lP : Addr}
def N__law_stream : List Str := ["script"]
theorem sc__law_stream : FnScope N__law_stream ["script"] (defScope st__law_stream) := ⟨rfl, rfl, rfl, by decide +kernel, rfl, by decide +kernel, by decide +kernel⟩
theorem l__law_stream (fx : Fx P w K mg base lc) : Cal P w K mg base 2 "_law_stream" st__law_stream ["script"] m__law_stream :=
  cal_of fx.d__law_stream sc__law_stream fun f cdv A outer s H E hr => by
    exact css_one (cs_ret (ce_lst (ca_cons (ce_callTy (cm_listA rfl) rfl fx.n_list rfl (ca_cons (ce_var 0 rfl (by first | exact .inl rfl | exact .inr (.inl rfl) | exact .inr (.inr rfl))) (ca_nil))) (ca_cons (ce_int) (ca_cons (ce_int) (ca_cons (ce_int) (ca_nil)))))))
def N__law_same : List Str := ["found", "due", "mine", "theirs"]
theorem sc__law_same : FnScope N__law_same ["found", "due"] (defScope st__law_same) := ⟨rfl, rfl, rfl, by decide +kernel, rfl, by decide +kernel, by decide +kernel⟩
theorem l__law_same (fx : Fx P w K mg base lc) : ∀ n : Nat, Cal P w K mg base (1 + n) "_law_same" st__law_same ["found", "due"] (m__law_same n)
 | 0 => (cal_no fx.d__law_same sc__law_same).mono (by omega)
 | n + 1 => by
  have ih := l__law_same fx n
  exact cal_of fx.d__law_same sc__law_same fun f cdv A outer s H E hr0 => by
    have hr : Room (1 + n) (A.deeper (envOfC "_law_same" (defScope st__law_same) s.heap.objs.size f cdv)) := hr0
    refine css_cons ?_ ?_
    · exact cs_if (ct_val (ce_callB cm_isi rfl fx.n_isinstance rfl (ca_cons (ce_var 1 rfl (by first | exact .inl rfl | exact .inr (.inl rfl) | exact .inr (.inr rfl))) (ca_cons (ce_tup (ca_cons (ce_bty rfl fx.n_list rfl) (ca_cons (ce_bty rfl fx.n_tuple rfl) (ca_nil)))) (ca_nil))))) (css_cons (cs_if (CW.ct (cw_or (ct_cmp (om_ne (u64 hr)) (ce_callB cm_isi rfl fx.n_isinstance rfl (ca_cons (ce_var 0 rfl (by first | exact .inl rfl | exact .inr (.inl rfl) | exact .inr (.inr rfl))) (ca_cons (ce_bty rfl fx.n_list rfl) (ca_nil)))) (ce_callB cm_isi rfl fx.n_isinstance rfl (ca_cons (ce_var 1 rfl (by first | exact .inl rfl | exact .inr (.inl rfl) | exact .inr (.inr rfl))) (ca_cons (ce_bty rfl fx.n_list rfl) (ca_nil))))) (cw_or1 (ct_cmp (om_ne (u64 hr)) (ce_callB cm_isi rfl fx.n_isinstance rfl (ca_cons (ce_var 0 rfl (by first | exact .inl rfl | exact .inr (.inl rfl) | exact .inr (.inr rfl))) (ca_cons (ce_bty rfl fx.n_tuple rfl) (ca_nil)))) (ce_callB cm_isi rfl fx.n_isinstance rfl (ca_cons (ce_var 1 rfl (by first | exact .inl rfl | exact .inr (.inl rfl) | exact .inr (.inr rfl))) (ca_cons (ce_bty rfl fx.n_tuple rfl) (ca_nil)))))))) (css_one (cs_ret (ce_bl))) (css_nil))
 (css_one (cs_ret (ce_and (ce_cmp (om_eq (u64 hr)) (ce_callB cm_len rfl fx.n_len rfl (ca_cons (ce_var 0 rfl (by first | exact .inl rfl | exact .inr (.inl rfl) | exact .inr (.inr rfl))) (ca_nil))) (ce_callB cm_len rfl fx.n_len rfl (ca_cons (ce_var 1 rfl (by first | exact .inl rfl | exact .inr (.inl rfl) | exact .inr (.inr rfl))) (ca_nil)))) (ce_one (ce_callB (cm_all rfl) rfl fx.n_all rfl (ca_cons (ce_lc (own := [("mine", 2), ("theirs", 3)]) rfl sc__law_same.nd (ci_zipA rfl fx.n_zip (ca_cons (ce_var 0 rfl (by first | exact .inl rfl | exact .inr (.inl rfl) | exact .inr (.inr rfl))) (ca_cons (ce_var 1 rfl (by first | exact .inl rfl | exact .inr (.inl rfl) | exact .inr (.inr rfl))) (ca_nil)))) (blkOk_by (N := N__law_same) (sc := defScope st__law_same) (own := [("mine", 2), ("theirs", 3)]) (by decide +kernel)) (cgb_tup rfl (cgbs_cons (cgb_name 2 (fun _ _ _ _ _ => pg_name sc__law_same.nd rfl (by first | exact .inl rfl | exact .inr rfl))) (cgbs_cons (cgb_name 3 (fun _ _ _ _ _ => pg_name sc__law_same.nd rfl (by first | exact .inl rfl | exact .inr rfl))) (cgbs_nil)))) (by decide +kernel) (fun _ _ _ _ _ => cts_nil) (fun _ _ _ _ _ => ce_cal ih (hr.mono (by omega)) tk0 (ca_cons (ce_var 2 rfl (by first | exact .inl rfl | exact .inr (.inl rfl) | exact .inr (.inr rfl))) (ca_cons (ce_var 3 rfl (by first | exact .inl rfl | exact .inr (.inl rfl) | exact .inr (.inr rfl))) (ca_nil))))) (ca_nil)))))))) (css_nil)
    refine css_cons ?_ ?_
    · exact cs_if (ct_val (ce_callB cm_isi rfl fx.n_isinstance rfl (ca_cons (ce_var 1 rfl (by first | exact .inl rfl | exact .inr (.inl rfl) | exact .inr (.inr rfl))) (ca_cons (ce_bty rfl fx.n_dict rfl) (ca_nil))))) (css_one (cs_ret (ce_and (ce_callB cm_isi rfl fx.n_isinstance rfl (ca_cons (ce_var 0 rfl (by first | exact .inl rfl | exact .inr (.inl rfl) | exact .inr (.inr rfl))) (ca_cons (ce_bty rfl fx.n_dict rfl) (ca_nil)))) (ce_one (ce_cal ih (hr.mono (by omega)) tkD (ca_cons (ce_listItems rfl rfl fx.n_list rfl (ce_var 0 rfl (by first | exact .inl rfl | exact .inr (.inl rfl) | exact .inr (.inr rfl))) (fun h => LiI.pe_listItems rfl h rfl fx.n_list rfl)) (ca_cons (ce_listItems rfl rfl fx.n_list rfl (ce_var 1 rfl (by first | exact .inl rfl | exact .inr (.inl rfl) | exact .inr (.inr rfl))) (fun h => LiI.pe_listItems rfl h rfl fx.n_list rfl)) (ca_nil)))))))) (css_nil)
    refine css_cons ?_ ?_
    · exact cs_if (CW.ct (cw_or (ct_val (ce_callB cm_isi rfl fx.n_isinstance rfl (ca_cons (ce_var 1 rfl (by first | exact .inl rfl | exact .inr (.inl rfl) | exact .inr (.inr rfl))) (ca_cons (ce_bty rfl fx.n_bool rfl) (ca_nil))))) (cw_or1 (ct_val (ce_callB cm_isi rfl fx.n_isinstance rfl (ca_cons (ce_var 0 rfl (by first | exact .inl rfl | exact .inr (.inl rfl) | exact .inr (.inr rfl))) (ca_cons (ce_bty rfl fx.n_bool rfl) (ca_nil)))))))) (css_one (cs_ret (ce_and (ce_callB cm_isi rfl fx.n_isinstance rfl (ca_cons (ce_var 1 rfl (by first | exact .inl rfl | exact .inr (.inl rfl) | exact .inr (.inr rfl))) (ca_cons (ce_bty rfl fx.n_bool rfl) (ca_nil)))) (ce_and (ce_callB cm_isi rfl fx.n_isinstance rfl (ca_cons (ce_var 0 rfl (by first | exact .inl rfl | exact .inr (.inl rfl) | exact .inr (.inr rfl))) (ca_cons (ce_bty rfl fx.n_bool rfl) (ca_nil)))) (ce_one (ce_cmp (om_eq (u64 hr)) (ce_var 0 rfl (by first | exact .inl rfl | exact .inr (.inl rfl) | exact .inr (.inr rfl))) (ce_var 1 rfl (by first | exact .inl rfl | exact .inr (.inl rfl) | exact .inr (.inr rfl))))))))) (css_nil)
    refine css_cons ?_ ?_
    · exact cs_if (CW.ct (cw_or (ct_cmp om_is (ce_var 1 rfl (by first | exact .inl rfl | exact .inr (.inl rfl) | exact .inr (.inr rfl))) (ce_non)) (cw_or1 (ct_cmp om_is (ce_var 0 rfl (by first | exact .inl rfl | exact .inr (.inl rfl) | exact .inr (.inr rfl))) (ce_non))))) (css_one (cs_ret (ce_and (ce_cmp om_is (ce_var 1 rfl (by first | exact .inl rfl | exact .inr (.inl rfl) | exact .inr (.inr rfl))) (ce_non)) (ce_one (ce_cmp om_is (ce_var 0 rfl (by first | exact .inl rfl | exact .inr (.inl rfl) | exact .inr (.inr rfl))) (ce_non)))))) (css_nil)
    refine css_cons ?_ ?_
    · exact cs_if (CW.ct (cw_or (ct_cmp (om_ne (u64 hr)) (ce_callB cm_isi rfl fx.n_isinstance rfl (ca_cons (ce_var 1 rfl (by first | exact .inl rfl | exact .inr (.inl rfl) | exact .inr (.inr rfl))) (ca_cons (ce_bty rfl fx.n_int rfl) (ca_nil)))) (ce_callB cm_isi rfl fx.n_isinstance rfl (ca_cons (ce_var 0 rfl (by first | exact .inl rfl | exact .inr (.inl rfl) | exact .inr (.inr rfl))) (ca_cons (ce_bty rfl fx.n_int rfl) (ca_nil))))) (cw_or1 (ct_cmp (om_ne (u64 hr)) (ce_callB cm_isi rfl fx.n_isinstance rfl (ca_cons (ce_var 1 rfl (by first | exact .inl rfl | exact .inr (.inl rfl) | exact .inr (.inr rfl))) (ca_cons (ce_bty rfl fx.n_str rfl) (ca_nil)))) (ce_callB cm_isi rfl fx.n_isinstance rfl (ca_cons (ce_var 0 rfl (by first | exact .inl rfl | exact .inr (.inl rfl) | exact .inr (.inr rfl))) (ca_cons (ce_bty rfl fx.n_str rfl) (ca_nil)))))))) (css_one (cs_ret (ce_bl))) (css_nil)
    exact css_one (cs_ret (ce_and (ce_not (ce_callB cm_isi rfl fx.n_isinstance rfl (ca_cons (ce_var 0 rfl (by first | exact .inl rfl | exact .inr (.inl rfl) | exact .inr (.inr rfl))) (ca_cons (ce_tup (ca_cons (ce_bty rfl fx.n_list rfl) (ca_cons (ce_bty rfl fx.n_tuple rfl) (ca_cons (ce_bty rfl fx.n_dict rfl) (ca_nil))))) (ca_nil))))) (ce_one (ce_cmp (om_eq (u64 hr)) (ce_var 0 rfl (by first | exact .inl rfl | exact .inr (.inl rfl) | exact .inr (.inr rfl))) (ce_var 1 rfl (by first | exact .inl rfl | exact .inr (.inl rfl) | exact .inr (.inr rfl)))))))
def N__law_draw : List Str := ["stream", "many", "cell", "digit", "mixed"]
theorem sc__law_draw : FnScope N__law_draw ["stream", "many"] (defScope st__law_draw) := ⟨rfl, rfl, rfl, by decide +kernel, rfl, by decide +kernel, by decide +kernel⟩
theorem l__law_draw (fx : Fx P w K mg base lc) : Cal P w K mg base 2 "_law_draw" st__law_draw ["stream", "many"] m__law_draw :=
  cal_of fx.d__law_draw sc__law_draw fun f cdv A outer s H E hr => by
    refine css_cons ?_ ?_
    · exact cs_sto (u64 hr) (ce_bin om_add (ce_ix (u64 hr) (ce_var 0 rfl (by first | exact .inl rfl | exact .inr (.inl rfl) | exact .inr (.inr rfl))) (ce_int)) (ce_int)) (ce_var 0 rfl (by first | exact .inl rfl | exact .inr (.inl rfl) | exact .inr (.inr rfl))) (ce_int)
    refine css_cons ?_ ?_
    · exact cs_while (passes_of rfl) (CW.ct (cw_and (ct_cmp (om_eq (u64 hr)) (ce_ix (u64 hr) (ce_var 0 rfl (by first | exact .inl rfl | exact .inr (.inl rfl) | exact .inr (.inr rfl))) (ce_int)) (ce_int)) (cw_and1 (ct_cmp (om_ne (u64 hr)) (ce_ix (u64 hr) (ce_var 0 rfl (by first | exact .inl rfl | exact .inr (.inl rfl) | exact .inr (.inr rfl))) (ce_int)) (ce_lst (ca_nil)))))) (css_cons (cs_asg (ce_callB cm_abs rfl fx.n_abs rfl (ca_cons (ce_bm PySem.F.plainAttrs_list PySem.F.slot_list_pop PySem.F.type_list_pop mm_popAt (ce_ix (u64 hr) (ce_var 0 rfl (by first | exact .inl rfl | exact .inr (.inl rfl) | exact .inr (.inr rfl))) (ce_int)) (ca_cons (ce_int) (ca_nil)) (fun a b c => pe_bm PySem.F.plainAttrs_list PySem.F.slot_list_pop PySem.F.type_list_pop a b c)) (ca_nil))) (cg_name 2 sc__law_draw.nd rfl (by first | exact .inl rfl | exact .inr rfl)))
 (css_cons (cs_sto (u64 hr) (ce_bin om_mod (ce_callTy cm_int rfl fx.n_int rfl (ca_cons (ce_bin om_add (ce_bin om_add (ce_bin om_mul (ce_ix (u64 hr) (ce_var 0 rfl (by first | exact .inl rfl | exact .inr (.inl rfl) | exact .inr (.inr rfl))) (ce_int)) (ce_int)) (ce_var 2 rfl (by first | exact .inl rfl | exact .inr (.inl rfl) | exact .inr (.inr rfl)))) (ce_int)) (ca_nil))) (ce_int)) (ce_var 0 rfl (by first | exact .inl rfl | exact .inr (.inl rfl) | exact .inr (.inr rfl))) (ce_int))
 (css_one (cs_sto (u64 hr) (ce_if (ct_cmp om_ge (ce_var 2 rfl (by first | exact .inl rfl | exact .inr (.inl rfl) | exact .inr (.inr rfl))) (ce_bin om_pow (ce_int) (ce_int))) (ce_var 2 rfl (by first | exact .inl rfl | exact .inr (.inl rfl) | exact .inr (.inr rfl))) (ce_int)) (ce_var 0 rfl (by first | exact .inl rfl | exact .inr (.inl rfl) | exact .inr (.inr rfl))) (ce_int)))))
    refine css_cons ?_ ?_
    · exact cs_if (ct_cmp om_gt (ce_ix (u64 hr) (ce_var 0 rfl (by first | exact .inl rfl | exact .inr (.inl rfl) | exact .inr (.inr rfl))) (ce_int)) (ce_int)) (css_cons (cs_asg (ce_bin om_mod (ce_callTy cm_int rfl fx.n_int rfl (ca_cons (ce_ix (u64 hr) (ce_var 0 rfl (by first | exact .inl rfl | exact .inr (.inl rfl) | exact .inr (.inr rfl))) (ce_int)) (ca_nil))) (ce_var 1 rfl (by first | exact .inl rfl | exact .inr (.inl rfl) | exact .inr (.inr rfl)))) (cg_name 3 sc__law_draw.nd rfl (by first | exact .inl rfl | exact .inr rfl)))
 (css_cons (cs_sto (u64 hr) (ce_bin om_fdiv (ce_ix (u64 hr) (ce_var 0 rfl (by first | exact .inl rfl | exact .inr (.inl rfl) | exact .inr (.inr rfl))) (ce_int)) (ce_var 1 rfl (by first | exact .inl rfl | exact .inr (.inl rfl) | exact .inr (.inr rfl)))) (ce_var 0 rfl (by first | exact .inl rfl | exact .inr (.inl rfl) | exact .inr (.inr rfl))) (ce_int))
 (css_one (cs_ret (ce_var 3 rfl (by first | exact .inl rfl | exact .inr (.inl rfl) | exact .inr (.inr rfl))))))) (css_nil)
    refine css_cons ?_ ?_
    · exact cs_asg (ce_bin om_mod (ce_callTy cm_int rfl fx.n_int rfl (ca_cons (ce_bin om_pow (ce_bin om_add (ce_bin om_add (ce_ix (u64 hr) (ce_var 0 rfl (by first | exact .inl rfl | exact .inr (.inl rfl) | exact .inr (.inr rfl))) (ce_int)) (ce_bin om_mul (ce_int) (ce_ix (u64 hr) (ce_var 0 rfl (by first | exact .inl rfl | exact .inr (.inl rfl) | exact .inr (.inr rfl))) (ce_int)))) (ce_int)) (ce_int)) (ca_nil))) (ce_int)) (cg_name 4 sc__law_draw.nd rfl (by first | exact .inl rfl | exact .inr rfl))
    exact css_one (cs_ret (ce_bin om_mod (ce_bin om_mod (ce_callTy cm_int rfl fx.n_int rfl (ca_cons (ce_bin om_pow (ce_bin om_add (ce_bin om_add (ce_bin om_mul (ce_var 4 rfl (by first | exact .inl rfl | exact .inr (.inl rfl) | exact .inr (.inr rfl))) (ce_int)) (ce_bin om_mul (ce_int) (ce_ix (u64 hr) (ce_var 0 rfl (by first | exact .inl rfl | exact .inr (.inl rfl) | exact .inr (.inr rfl))) (ce_int)))) (ce_int)) (ce_int)) (ca_nil))) (ce_int)) (ce_var 1 rfl (by first | exact .inl rfl | exact .inr (.inl rfl) | exact .inr (.inr rfl)))))
def N__law_pick : List Str := ["stream", "things"]
theorem sc__law_pick : FnScope N__law_pick ["stream", "things"] (defScope st__law_pick) := ⟨rfl, rfl, rfl, by decide +kernel, rfl, by decide +kernel, by decide +kernel⟩
theorem l__law_pick (fx : Fx P w K mg base lc) (c__law_draw : Cal P w K mg base 2 "_law_draw" st__law_draw ["stream", "many"] m__law_draw) : Cal P w K mg base 3 "_law_pick" st__law_pick ["stream", "things"] m__law_pick :=
  cal_of fx.d__law_pick sc__law_pick fun f cdv A outer s H E hr => by
    exact css_one (cs_ret (ce_ix (u64 hr) (ce_var 1 rfl (by first | exact .inl rfl | exact .inr (.inl rfl) | exact .inr (.inr rfl))) (ce_cal c__law_draw (hr.mono (by omega)) tkD (ca_cons (ce_var 0 rfl (by first | exact .inl rfl | exact .inr (.inl rfl) | exact .inr (.inr rfl))) (ca_cons (ce_callB cm_len rfl fx.n_len rfl (ca_cons (ce_var 1 rfl (by first | exact .inl rfl | exact .inr (.inl rfl) | exact .inr (.inr rfl))) (ca_nil))) (ca_nil))))))
def N__law_copied : List Str := ["thing", "some", "one", "key"]
theorem sc__law_copied : FnScope N__law_copied ["thing"] (defScope st__law_copied) := ⟨rfl, rfl, rfl, by decide +kernel, rfl, by decide +kernel, by decide +kernel⟩
theorem l__law_copied (fx : Fx P w K mg base lc) : ∀ n : Nat, Cal P w K mg base (1 + n) "_law_copied" st__law_copied ["thing"] (m__law_copied n)
 | 0 => (cal_no fx.d__law_copied sc__law_copied).mono (by omega)
 | n + 1 => by
  have ih := l__law_copied fx n
  exact cal_of fx.d__law_copied sc__law_copied fun f cdv A outer s H E hr0 => by
    have hr : Room (1 + n) (A.deeper (envOfC "_law_copied" (defScope st__law_copied) s.heap.objs.size f cdv)) := hr0
    refine css_cons ?_ ?_
    · exact cs_if (ct_val (ce_callB cm_isi rfl fx.n_isinstance rfl (ca_cons (ce_var 0 rfl (by first | exact .inl rfl | exact .inr (.inl rfl) | exact .inr (.inr rfl))) (ca_cons (ce_tup (ca_cons (ce_bty rfl fx.n_list rfl) (ca_cons (ce_bty rfl fx.n_tuple rfl) (ca_nil)))) (ca_nil))))) (css_cons (cs_setLc 1 (own := [("one", 2)]) rfl sc__law_copied.nd rfl rfl (sw_true rfl rfl rfl (by decide +kernel)) (ci_of (ce_var 0 rfl (by first | exact .inl rfl | exact .inr (.inl rfl) | exact .inr (.inr rfl)))) (blkOk_by (N := N__law_copied) (sc := defScope st__law_copied) (own := [("one", 2)]) (by decide +kernel)) (cgb_name 2 (fun _ _ _ _ _ => pg_name sc__law_copied.nd rfl (by first | exact .inl rfl | exact .inr rfl))) (by decide +kernel) (fun _ _ _ _ _ => cts_nil) (fun _ _ _ _ _ => ce_cal ih (hr.mono (by omega)) tk0 (ca_cons (ce_var 2 rfl (by first | exact .inl rfl | exact .inr (.inl rfl) | exact .inr (.inr rfl))) (ca_nil))))
 (css_one (cs_ret (ce_if (ct_val (ce_callB cm_isi rfl fx.n_isinstance rfl (ca_cons (ce_var 0 rfl (by first | exact .inl rfl | exact .inr (.inl rfl) | exact .inr (.inr rfl))) (ca_cons (ce_bty rfl fx.n_list rfl) (ca_nil))))) (ce_var 1 rfl (by first | exact .inl rfl | exact .inr (.inl rfl) | exact .inr (.inr rfl))) (ce_callTy cm_tuple rfl fx.n_tuple rfl (ca_cons (ce_var 1 rfl (by first | exact .inl rfl | exact .inr (.inl rfl) | exact .inr (.inr rfl))) (ca_nil))))))) (css_nil)
    refine css_cons ?_ ?_
    · exact cs_if (ct_val (ce_callB cm_isi rfl fx.n_isinstance rfl (ca_cons (ce_var 0 rfl (by first | exact .inl rfl | exact .inr (.inl rfl) | exact .inr (.inr rfl))) (ca_cons (ce_bty rfl fx.n_dict rfl) (ca_nil))))) (css_one (cs_ret (ce_callTy (cm_dict rfl) rfl fx.n_dict rfl (ca_cons (ce_lock 0 (ce_lc (own := [("key", 3)]) rfl sc__law_copied.nd (ci_keys (ce_var 0 rfl (by first | exact .inl rfl | exact .inr (.inl rfl) | exact .inr (.inr rfl)))) (blkOk_by (N := N__law_copied) (sc := defScope st__law_copied) (own := [("key", 3)]) (by decide +kernel)) (cgb_name 3 (fun _ _ _ _ _ => pg_name sc__law_copied.nd rfl (by first | exact .inl rfl | exact .inr rfl))) (by decide +kernel) (fun _ _ _ _ _ => cts_nil) (fun _ _ _ _ _ => ce_tup (ca_cons (ce_var 3 rfl (by first | exact .inl rfl | exact .inr (.inl rfl) | exact .inr (.inr rfl))) (ca_cons (ce_cal ih (hr.mono (by omega)) tk0 (ca_cons (ce_ix (u64 hr) (ce_var 0 rfl (by first | exact .inl rfl | exact .inr (.inl rfl) | exact .inr (.inr rfl))) (ce_var 3 rfl (by first | exact .inl rfl | exact .inr (.inl rfl) | exact .inr (.inr rfl)))) (ca_nil))) (ca_nil)))))) (ca_nil))))) (css_nil)
    exact css_one (cs_ret (ce_var 0 rfl (by first | exact .inl rfl | exact .inr (.inl rfl) | exact .inr (.inr rfl))))
def N_check_text : List Str := ["text"]
theorem sc_check_text : FnScope N_check_text ["text"] (defScope st_check_text) := ⟨rfl, rfl, rfl, by decide +kernel, rfl, by decide +kernel, by decide +kernel⟩
theorem l_check_text (fx : Fx P w K mg base lc) : Cal P w K mg base 3 "check_text" st_check_text ["text"] m_check_text :=
  cal_of fx.d_check_text sc_check_text fun f cdv A outer s H E hr => by
    exact css_one (cs_if (ct_not (ct_val (ce_callB cm_isi rfl fx.n_isinstance rfl (ca_cons (ce_var 0 rfl (by first | exact .inl rfl | exact .inr (.inl rfl) | exact .inr (.inr rfl))) (ca_cons (ce_bty rfl fx.n_str rfl) (ca_nil)))))) (css_one (cs_raise fx.e_NoText (hr.mono (by omega)) rfl tkD rfl (ce_var 0 rfl (by first | exact .inl rfl | exact .inr (.inl rfl) | exact .inr (.inr rfl))))) (css_nil))
def N_rows_of_text : List Str := ["text", "line"]
theorem sc_rows_of_text : FnScope N_rows_of_text ["text"] (defScope st_rows_of_text) := ⟨rfl, rfl, rfl, by decide +kernel, rfl, by decide +kernel, by decide +kernel⟩
theorem l_rows_of_text (fx : Fx P w K mg base lc) : Cal P w K mg base 2 "rows_of_text" st_rows_of_text ["text"] m_rows_of_text :=
  cal_of fx.d_rows_of_text sc_rows_of_text fun f cdv A outer s H E hr => by
    exact css_one (cs_ret (ce_lc (own := [("line", 1)]) rfl sc_rows_of_text.nd (ci_of (ce_bm PySem.F.plainAttrs_str PySem.F.slot_str_split PySem.F.type_str_split mm_split (ce_var 0 rfl (by first | exact .inl rfl | exact .inr (.inl rfl) | exact .inr (.inr rfl))) (ca_cons (ce_str) (ca_nil)) (fun a b c => pe_bm PySem.F.plainAttrs_str PySem.F.slot_str_split PySem.F.type_str_split a b c))) (blkOk_by (N := N_rows_of_text) (sc := defScope st_rows_of_text) (own := [("line", 1)]) (by decide +kernel)) (cgb_name 1 (fun _ _ _ _ _ => pg_name sc_rows_of_text.nd rfl (by first | exact .inl rfl | exact .inr rfl))) (by decide +kernel) (fun _ _ _ _ _ => cts_nil) (fun _ _ _ _ _ => ce_ix (u64 hr) (ce_bm PySem.F.plainAttrs_str PySem.F.slot_str_split PySem.F.type_str_split mm_split (ce_var 1 rfl (by first | exact .inl rfl | exact .inr (.inl rfl) | exact .inr (.inr rfl))) (ca_cons (ce_str) (ca_nil)) (fun a b c => pe_bm PySem.F.plainAttrs_str PySem.F.slot_str_split PySem.F.type_str_split a b c)) (ce_int))))
def N_run_end : List Str := ["row", "place", "signs", "end"]
theorem sc_run_end : FnScope N_run_end ["row", "place", "signs"] (defScope st_run_end) := ⟨rfl, rfl, rfl, by decide +kernel, rfl, by decide +kernel, by decide +kernel⟩
theorem l_run_end (fx : Fx P w K mg base lc) : Cal P w K mg base 2 "run_end" st_run_end ["row", "place", "signs"] m_run_end :=
  cal_of fx.d_run_end sc_run_end fun f cdv A outer s H E hr => by
    refine css_cons ?_ ?_
    · exact cs_asg (ce_var 1 rfl (by first | exact .inl rfl | exact .inr (.inl rfl) | exact .inr (.inr rfl))) (cg_name 3 sc_run_end.nd rfl (by first | exact .inl rfl | exact .inr rfl))
    refine css_cons ?_ ?_
    · exact cs_while (passes_of rfl) (CW.ct (cw_and (ct_cmp om_lt (ce_var 3 rfl (by first | exact .inl rfl | exact .inr (.inl rfl) | exact .inr (.inr rfl))) (ce_callB cm_len rfl fx.n_len rfl (ca_cons (ce_var 0 rfl (by first | exact .inl rfl | exact .inr (.inl rfl) | exact .inr (.inr rfl))) (ca_nil)))) (cw_and1 (ct_in (u65 hr) (ce_ix (u64 hr) (ce_var 0 rfl (by first | exact .inl rfl | exact .inr (.inl rfl) | exact .inr (.inr rfl))) (ce_var 3 rfl (by first | exact .inl rfl | exact .inr (.inl rfl) | exact .inr (.inr rfl)))) (ce_var 2 rfl (by first | exact .inl rfl | exact .inr (.inl rfl) | exact .inr (.inr rfl))))))) (css_one (cs_asg (ce_bin om_add (ce_var 3 rfl (by first | exact .inl rfl | exact .inr (.inl rfl) | exact .inr (.inr rfl))) (ce_int)) (cg_name 3 sc_run_end.nd rfl (by first | exact .inl rfl | exact .inr rfl))))
    exact css_one (cs_ret (ce_var 3 rfl (by first | exact .inl rfl | exact .inr (.inl rfl) | exact .inr (.inr rfl))))
def N_row_tokens : List Str := ["row", "found", "place", "end"]
theorem sc_row_tokens : FnScope N_row_tokens ["row"] (defScope st_row_tokens) := ⟨rfl, rfl, rfl, by decide +kernel, rfl, by decide +kernel, by decide +kernel⟩
theorem l_row_tokens (fx : Fx P w K mg base lc) (c_run_end : Cal P w K mg base 2 "run_end" st_run_end ["row", "place", "signs"] m_run_end) : Cal P w K mg base 3 "row_tokens" st_row_tokens ["row"] m_row_tokens :=
  cal_of fx.d_row_tokens sc_row_tokens fun f cdv A outer s H E hr => by
    refine css_cons ?_ ?_
    · exact cs_par (ca_cons (ce_lst (ca_nil)) (ca_cons (ce_int) (ca_nil))) (fun h => ps_par rfl sc_row_tokens.nd rfl rfl (by decide) rfl rfl h rfl)
    refine css_cons ?_ ?_
    · exact cs_while (passes_of rfl) (ct_cmp om_lt (ce_var 2 rfl (by first | exact .inl rfl | exact .inr (.inl rfl) | exact .inr (.inr rfl))) (ce_callB cm_len rfl fx.n_len rfl (ca_cons (ce_var 0 rfl (by first | exact .inl rfl | exact .inr (.inl rfl) | exact .inr (.inr rfl))) (ca_nil)))) (css_cons (cs_asg (ce_bin om_add (ce_var 2 rfl (by first | exact .inl rfl | exact .inr (.inl rfl) | exact .inr (.inr rfl))) (ce_int)) (cg_name 3 sc_row_tokens.nd rfl (by first | exact .inl rfl | exact .inr rfl)))
 (css_cons (cs_if (ct_in (u65 hr) (ce_ix (u64 hr) (ce_var 0 rfl (by first | exact .inl rfl | exact .inr (.inl rfl) | exact .inr (.inr rfl))) (ce_var 2 rfl (by first | exact .inl rfl | exact .inr (.inl rfl) | exact .inr (.inr rfl)))) (ce_gstrE rfl fx.s_LETTERS)) (css_cons (cs_asg (ce_cal c_run_end (hr.mono (by omega)) tkD (ca_cons (ce_var 0 rfl (by first | exact .inl rfl | exact .inr (.inl rfl) | exact .inr (.inr rfl))) (ca_cons (ce_var 2 rfl (by first | exact .inl rfl | exact .inr (.inl rfl) | exact .inr (.inr rfl))) (ca_cons (ce_gstrE rfl fx.s_LETTERS) (ca_nil))))) (cg_name 3 sc_row_tokens.nd rfl (by first | exact .inl rfl | exact .inr rfl)))
 (css_one (cs_expr (ce_bm PySem.F.plainAttrs_list PySem.F.slot_list_append PySem.F.type_list_append mm_append (ce_var 1 rfl (by first | exact .inl rfl | exact .inr (.inl rfl) | exact .inr (.inr rfl))) (ca_cons (ce_tup (ca_cons (ce_str) (ca_cons (ce_slice (ce_var 0 rfl (by first | exact .inl rfl | exact .inr (.inl rfl) | exact .inr (.inr rfl))) (cp_some (ce_var 2 rfl (by first | exact .inl rfl | exact .inr (.inl rfl) | exact .inr (.inr rfl)))) (cp_some (ce_var 3 rfl (by first | exact .inl rfl | exact .inr (.inl rfl) | exact .inr (.inr rfl))))) (ca_cons (ce_var 2 rfl (by first | exact .inl rfl | exact .inr (.inl rfl) | exact .inr (.inr rfl))) (ca_nil))))) (ca_nil)) (fun a b c => pe_bm PySem.F.plainAttrs_list PySem.F.slot_list_append PySem.F.type_list_append a b c))))) (css_one (cs_if (ct_in (u65 hr) (ce_ix (u64 hr) (ce_var 0 rfl (by first | exact .inl rfl | exact .inr (.inl rfl) | exact .inr (.inr rfl))) (ce_var 2 rfl (by first | exact .inl rfl | exact .inr (.inl rfl) | exact .inr (.inr rfl)))) (ce_gstrE rfl fx.s_DIGITS)) (css_cons (cs_asg (ce_cal c_run_end (hr.mono (by omega)) tkD (ca_cons (ce_var 0 rfl (by first | exact .inl rfl | exact .inr (.inl rfl) | exact .inr (.inr rfl))) (ca_cons (ce_var 2 rfl (by first | exact .inl rfl | exact .inr (.inl rfl) | exact .inr (.inr rfl))) (ca_cons (ce_gstrE rfl fx.s_DIGITS) (ca_nil))))) (cg_name 3 sc_row_tokens.nd rfl (by first | exact .inl rfl | exact .inr rfl)))
 (css_one (cs_expr (ce_bm PySem.F.plainAttrs_list PySem.F.slot_list_append PySem.F.type_list_append mm_append (ce_var 1 rfl (by first | exact .inl rfl | exact .inr (.inl rfl) | exact .inr (.inr rfl))) (ca_cons (ce_tup (ca_cons (ce_str) (ca_cons (ce_callTy cm_int rfl fx.n_int rfl (ca_cons (ce_slice (ce_var 0 rfl (by first | exact .inl rfl | exact .inr (.inl rfl) | exact .inr (.inr rfl))) (cp_some (ce_var 2 rfl (by first | exact .inl rfl | exact .inr (.inl rfl) | exact .inr (.inr rfl)))) (cp_some (ce_var 3 rfl (by first | exact .inl rfl | exact .inr (.inl rfl) | exact .inr (.inr rfl))))) (ca_nil))) (ca_cons (ce_var 2 rfl (by first | exact .inl rfl | exact .inr (.inl rfl) | exact .inr (.inr rfl))) (ca_nil))))) (ca_nil)) (fun a b c => pe_bm PySem.F.plainAttrs_list PySem.F.slot_list_append PySem.F.type_list_append a b c))))) (css_one (cs_if (ct_in (u65 hr) (ce_ix (u64 hr) (ce_var 0 rfl (by first | exact .inl rfl | exact .inr (.inl rfl) | exact .inr (.inr rfl))) (ce_var 2 rfl (by first | exact .inl rfl | exact .inr (.inl rfl) | exact .inr (.inr rfl)))) (ce_str)) (css_one (cs_expr (ce_bm PySem.F.plainAttrs_list PySem.F.slot_list_append PySem.F.type_list_append mm_append (ce_var 1 rfl (by first | exact .inl rfl | exact .inr (.inl rfl) | exact .inr (.inr rfl))) (ca_cons (ce_tup (ca_cons (ce_str) (ca_cons (ce_ix (u64 hr) (ce_var 0 rfl (by first | exact .inl rfl | exact .inr (.inl rfl) | exact .inr (.inr rfl))) (ce_var 2 rfl (by first | exact .inl rfl | exact .inr (.inl rfl) | exact .inr (.inr rfl)))) (ca_cons (ce_var 2 rfl (by first | exact .inl rfl | exact .inr (.inl rfl) | exact .inr (.inr rfl))) (ca_nil))))) (ca_nil)) (fun a b c => pe_bm PySem.F.plainAttrs_list PySem.F.slot_list_append PySem.F.type_list_append a b c)))) (css_one (cs_if (ct_cmp (om_ne (u64 hr)) (ce_ix (u64 hr) (ce_var 0 rfl (by first | exact .inl rfl | exact .inr (.inl rfl) | exact .inr (.inr rfl))) (ce_var 2 rfl (by first | exact .inl rfl | exact .inr (.inl rfl) | exact .inr (.inr rfl)))) (ce_str)) (css_one (cs_ret (ce_tup (ca_cons (ce_var 1 rfl (by first | exact .inl rfl | exact .inr (.inl rfl) | exact .inr (.inr rfl))) (ca_cons (ce_var 2 rfl (by first | exact .inl rfl | exact .inr (.inl rfl) | exact .inr (.inr rfl))) (ca_nil)))))) (css_nil))))))))
 (css_one (cs_asg (ce_var 3 rfl (by first | exact .inl rfl | exact .inr (.inl rfl) | exact .inr (.inr rfl))) (cg_name 2 sc_row_tokens.nd rfl (by first | exact .inl rfl | exact .inr rfl))))))
    exact css_one (cs_ret (ce_tup (ca_cons (ce_var 1 rfl (by first | exact .inl rfl | exact .inr (.inl rfl) | exact .inr (.inr rfl))) (ca_cons (ce_non) (ca_nil)))))
def N_tokens : List Str := ["text", "found", "number", "row", "some", "bad"]
theorem sc_tokens : FnScope N_tokens ["text"] (defScope st_tokens) := ⟨rfl, rfl, rfl, by decide +kernel, rfl, by decide +kernel, by decide +kernel⟩
theorem l_tokens (fx : Fx P w K mg base lc) (c_check_text : Cal P w K mg base 3 "check_text" st_check_text ["text"] m_check_text) (c_rows_of_text : Cal P w K mg base 2 "rows_of_text" st_rows_of_text ["text"] m_rows_of_text) (c_row_tokens : Cal P w K mg base 3 "row_tokens" st_row_tokens ["row"] m_row_tokens) : Cal P w K mg base 4 "tokens" st_tokens ["text"] m_tokens :=
  cal_of fx.d_tokens sc_tokens fun f cdv A outer s H E hr => by
    refine css_cons ?_ ?_
    · exact cs_expr (ce_cal c_check_text (hr.mono (by omega)) tkD (ca_cons (ce_var 0 rfl (by first | exact .inl rfl | exact .inr (.inl rfl) | exact .inr (.inr rfl))) (ca_nil)))
    refine css_cons ?_ ?_
    · exact cs_asg (ce_lst (ca_nil)) (cg_name 1 sc_tokens.nd rfl (by first | exact .inl rfl | exact .inr rfl))
    refine css_cons ?_ ?_
    · exact cs_for (passes_of rfl) rfl (ci_enumA rfl fx.n_enumerate (ca_cons (ce_cal c_rows_of_text (hr.mono (by omega)) tkD (ca_cons (ce_var 0 rfl (by first | exact .inl rfl | exact .inr (.inl rfl) | exact .inr (.inr rfl))) (ca_nil))) (ca_nil))) (cg_tup rfl (cgs_cons (cg_name 2 sc_tokens.nd rfl (by first | exact .inl rfl | exact .inr rfl)) (cgs_cons (cg_name 3 sc_tokens.nd rfl (by first | exact .inl rfl | exact .inr rfl)) (cgs_nil)))) (css_cons (cs_asg (ce_cal c_row_tokens (hr.mono (by omega)) tkD (ca_cons (ce_var 3 rfl (by first | exact .inl rfl | exact .inr (.inl rfl) | exact .inr (.inr rfl))) (ca_nil))) (cg_tup rfl (cgs_cons (cg_name 4 sc_tokens.nd rfl (by first | exact .inl rfl | exact .inr rfl)) (cgs_cons (cg_name 5 sc_tokens.nd rfl (by first | exact .inl rfl | exact .inr rfl)) (cgs_nil)))))
 (css_cons (cs_if (ct_cmp om_isnot (ce_var 5 rfl (by first | exact .inl rfl | exact .inr (.inl rfl) | exact .inr (.inr rfl))) (ce_non)) (css_one (cs_raise fx.e_Unread (hr.mono (by omega)) rfl tkD rfl (ce_tup (ca_cons (ce_var 2 rfl (by first | exact .inl rfl | exact .inr (.inl rfl) | exact .inr (.inr rfl))) (ca_cons (ce_var 5 rfl (by first | exact .inl rfl | exact .inr (.inl rfl) | exact .inr (.inr rfl))) (ca_nil)))))) (css_nil))
 (css_one (cs_expr (ce_bm PySem.F.plainAttrs_list PySem.F.slot_list_append PySem.F.type_list_append mm_append (ce_var 1 rfl (by first | exact .inl rfl | exact .inr (.inl rfl) | exact .inr (.inr rfl))) (ca_cons (ce_var 4 rfl (by first | exact .inl rfl | exact .inr (.inl rfl) | exact .inr (.inr rfl))) (ca_nil)) (fun a b c => pe_bm PySem.F.plainAttrs_list PySem.F.slot_list_append PySem.F.type_list_append a b c)))))) (fun a b c => ps_for (passes_of rfl) rfl a b c)
    exact css_one (cs_ret (ce_var 1 rfl (by first | exact .inl rfl | exact .inr (.inl rfl) | exact .inr (.inr rfl))))
def N__law_drawn_row : List Str := ["stream", "found", "some", "turn", "at", "odd"]
theorem sc__law_drawn_row : FnScope N__law_drawn_row ["stream"] (defScope st__law_drawn_row) := ⟨rfl, rfl, rfl, by decide +kernel, rfl, by decide +kernel, by decide +kernel⟩
theorem l__law_drawn_row (fx : Fx P w K mg base lc) (c__law_draw : Cal P w K mg base 2 "_law_draw" st__law_draw ["stream", "many"] m__law_draw) (c__law_pick : Cal P w K mg base 3 "_law_pick" st__law_pick ["stream", "things"] m__law_pick) : Cal P w K mg base 4 "_law_drawn_row" st__law_drawn_row ["stream"] m__law_drawn_row :=
  cal_of fx.d__law_drawn_row sc__law_drawn_row fun f cdv A outer s H E hr => by
    refine css_cons ?_ ?_
    · exact cs_par (ca_cons (ce_str) (ca_cons (ce_lst (ca_cons (ce_str) (ca_cons (ce_str) (ca_cons (ce_str) (ca_cons (ce_str) (ca_cons (ce_str) (ca_cons (ce_str) (ca_cons (ce_str) (ca_cons (ce_str) (ca_cons (ce_str) (ca_cons (ce_str) (ca_cons (ce_str) (ca_nil))))))))))))) (ca_nil))) (fun h => ps_par rfl sc__law_drawn_row.nd rfl rfl (by decide) rfl rfl h rfl)
    refine css_cons ?_ ?_
    · exact cs_for (passes_of rfl) rfl (ci_range1 rfl fx.n_range (ca_cons (ce_cal c__law_draw (hr.mono (by omega)) tkD (ca_cons (ce_var 0 rfl (by first | exact .inl rfl | exact .inr (.inl rfl) | exact .inr (.inr rfl))) (ca_cons (ce_int) (ca_nil)))) (ca_nil))) (cg_name 3 sc__law_drawn_row.nd rfl (by first | exact .inl rfl | exact .inr rfl)) (css_one (cs_asg (ce_bin om_add (ce_var 1 rfl (by first | exact .inl rfl | exact .inr (.inl rfl) | exact .inr (.inr rfl))) (ce_cal c__law_pick (hr.mono (by omega)) tkD (ca_cons (ce_var 0 rfl (by first | exact .inl rfl | exact .inr (.inl rfl) | exact .inr (.inr rfl))) (ca_cons (ce_bin om_add (ce_bin om_add (ce_var 2 rfl (by first | exact .inl rfl | exact .inr (.inl rfl) | exact .inr (.inr rfl))) (ce_callTy (cm_listA rfl) rfl fx.n_list rfl (ca_cons (ce_str) (ca_nil)))) (ce_lst (ca_cons (ce_str) (ca_cons (ce_str) (ca_cons (ce_str) (ca_cons (ce_str) (ca_nil))))))) (ca_nil))))) (cg_name 1 sc__law_drawn_row.nd rfl (by first | exact .inl rfl | exact .inr rfl)))) (fun a b c => ps_for (passes_of rfl) rfl a b c)
    refine css_cons ?_ ?_
    · exact cs_if (ct_cmp (om_eq (u64 hr)) (ce_cal c__law_draw (hr.mono (by omega)) tkD (ca_cons (ce_var 0 rfl (by first | exact .inl rfl | exact .inr (.inl rfl) | exact .inr (.inr rfl))) (ca_cons (ce_int) (ca_nil)))) (ce_int)) (css_cons (cs_asg (ce_cal c__law_draw (hr.mono (by omega)) tkD (ca_cons (ce_var 0 rfl (by first | exact .inl rfl | exact .inr (.inl rfl) | exact .inr (.inr rfl))) (ca_cons (ce_bin om_add (ce_callB cm_len rfl fx.n_len rfl (ca_cons (ce_var 1 rfl (by first | exact .inl rfl | exact .inr (.inl rfl) | exact .inr (.inr rfl))) (ca_nil))) (ce_int)) (ca_nil)))) (cg_name 4 sc__law_drawn_row.nd rfl (by first | exact .inl rfl | exact .inr rfl)))
 (css_cons (cs_asg (ce_cal c__law_pick (hr.mono (by omega)) tkD (ca_cons (ce_var 0 rfl (by first | exact .inl rfl | exact .inr (.inl rfl) | exact .inr (.inr rfl))) (ca_cons (ce_bin om_add (ce_callTy (cm_listA rfl) rfl fx.n_list rfl (ca_cons (ce_str) (ca_nil))) (ce_lst (ca_cons (ce_str) (ca_nil)))) (ca_nil)))) (cg_name 5 sc__law_drawn_row.nd rfl (by first | exact .inl rfl | exact .inr rfl)))
 (css_one (cs_asg (ce_bin om_add (ce_bin om_add (ce_slice (ce_var 1 rfl (by first | exact .inl rfl | exact .inr (.inl rfl) | exact .inr (.inr rfl))) (cp_none) (cp_some (ce_var 4 rfl (by first | exact .inl rfl | exact .inr (.inl rfl) | exact .inr (.inr rfl))))) (ce_var 5 rfl (by first | exact .inl rfl | exact .inr (.inl rfl) | exact .inr (.inr rfl)))) (ce_slice (ce_var 1 rfl (by first | exact .inl rfl | exact .inr (.inl rfl) | exact .inr (.inr rfl))) (cp_some (ce_var 4 rfl (by first | exact .inl rfl | exact .inr (.inl rfl) | exact .inr (.inr rfl)))) (cp_none))) (cg_name 1 sc__law_drawn_row.nd rfl (by first | exact .inl rfl | exact .inr rfl)))))) (css_nil)
    exact css_one (cs_ret (ce_bin om_add (ce_var 1 rfl (by first | exact .inl rfl | exact .inr (.inl rfl) | exact .inr (.inr rfl))) (ce_if (ct_cmp (om_eq (u64 hr)) (ce_cal c__law_draw (hr.mono (by omega)) tkD (ca_cons (ce_var 0 rfl (by first | exact .inl rfl | exact .inr (.inl rfl) | exact .inr (.inr rfl))) (ca_cons (ce_int) (ca_nil)))) (ce_int)) (ce_cal c__law_pick (hr.mono (by omega)) tkD (ca_cons (ce_var 0 rfl (by first | exact .inl rfl | exact .inr (.inl rfl) | exact .inr (.inr rfl))) (ca_cons (ce_lst (ca_cons (ce_str) (ca_cons (ce_str) (ca_cons (ce_str) (ca_nil))))) (ca_nil)))) (ce_str))))
def N__law_met : List Str := ["ask", "e"]
theorem sc__law_met : FnScope N__law_met ["ask"] (defScope st__law_met) := ⟨rfl, rfl, rfl, by decide +kernel, rfl, by decide +kernel, by decide +kernel⟩
theorem l__law_met (fx : Fx P w K mg base lc) : CalM P w K mg base "_law_met" st__law_met N__law_met "ask" m__law_met := by
  refine calM_of fx.d__law_met sc__law_met rfl (.inl rfl) fun g cdv A outer q => ?_
  exact met_givesE (by decide +kernel) sc__law_met.nd (fun _ => rfl) (fun s H => hdE fx.e_NoText fx.g_NoText (fun c hc ca C h1 h2 => fx.xm c "NoText" ca C hc (by decide +kernel) h1 h2) (hdE fx.e_Unread fx.g_Unread (fun c hc ca C h1 h2 => fx.xm c "Unread" ca C hc (by decide +kernel) h1 h2) (⟨_, .nil⟩)))
def N__law_spoilt : List Str := ["thing", "key", "part"]
theorem sc__law_spoilt : FnScope N__law_spoilt ["thing"] (defScope st__law_spoilt) := ⟨rfl, rfl, rfl, by decide +kernel, rfl, by decide +kernel, by decide +kernel⟩
theorem l__law_spoilt (fx : Fx P w K mg base lc) : ∀ n : Nat, Cal P w K mg base (1 + n) "_law_spoilt" st__law_spoilt ["thing"] (m__law_spoilt n)
 | 0 => (cal_no fx.d__law_spoilt sc__law_spoilt).mono (by omega)
 | n + 1 => by
  have ih := l__law_spoilt fx n
  exact cal_of fx.d__law_spoilt sc__law_spoilt fun f cdv A outer s H E hr0 => by
    have hr : Room (1 + n) (A.deeper (envOfC "_law_spoilt" (defScope st__law_spoilt) s.heap.objs.size f cdv)) := hr0
    refine css_cons ?_ ?_
    · exact cs_if (ct_val (ce_callB cm_isi rfl fx.n_isinstance rfl (ca_cons (ce_var 0 rfl (by first | exact .inl rfl | exact .inr (.inl rfl) | exact .inr (.inr rfl))) (ca_cons (ce_bty rfl fx.n_dict rfl) (ca_nil))))) (css_cons (cs_for (passes_of rfl) rfl (ci_of (ce_callTy (cm_listA rfl) rfl fx.n_list rfl (ca_cons (ce_var 0 rfl (by first | exact .inl rfl | exact .inr (.inl rfl) | exact .inr (.inr rfl))) (ca_nil)))) (cg_name 1 sc__law_spoilt.nd rfl (by first | exact .inl rfl | exact .inr rfl)) (css_one (cs_expr (ce_cal ih (hr.mono (by omega)) tkD (ca_cons (ce_ix (u64 hr) (ce_var 0 rfl (by first | exact .inl rfl | exact .inr (.inl rfl) | exact .inr (.inr rfl))) (ce_var 1 rfl (by first | exact .inl rfl | exact .inr (.inl rfl) | exact .inr (.inr rfl)))) (ca_nil))))) (fun a b c => ps_for (passes_of rfl) rfl a b c))
 (css_one (cs_sto (u64 hr) (ce_int) (ce_var 0 rfl (by first | exact .inl rfl | exact .inr (.inl rfl) | exact .inr (.inr rfl))) (ce_str)))) (css_nil)
    refine css_cons ?_ ?_
    · exact cs_if (ct_val (ce_callB cm_isi rfl fx.n_isinstance rfl (ca_cons (ce_var 0 rfl (by first | exact .inl rfl | exact .inr (.inl rfl) | exact .inr (.inr rfl))) (ca_cons (ce_tup (ca_cons (ce_bty rfl fx.n_list rfl) (ca_cons (ce_bty rfl fx.n_tuple rfl) (ca_nil)))) (ca_nil))))) (css_one (cs_for (passes_of rfl) rfl (ci_of (ce_var 0 rfl (by first | exact .inl rfl | exact .inr (.inl rfl) | exact .inr (.inr rfl)))) (cg_name 2 sc__law_spoilt.nd rfl (by first | exact .inl rfl | exact .inr rfl)) (css_one (cs_expr (ce_cal ih (hr.mono (by omega)) tkD (ca_cons (ce_var 2 rfl (by first | exact .inl rfl | exact .inr (.inl rfl) | exact .inr (.inr rfl))) (ca_nil))))) (fun a b c => ps_for (passes_of rfl) rfl a b c))) (css_nil)
    exact css_one (cs_if (ct_val (ce_callB cm_isi rfl fx.n_isinstance rfl (ca_cons (ce_var 0 rfl (by first | exact .inl rfl | exact .inr (.inl rfl) | exact .inr (.inr rfl))) (ca_cons (ce_bty rfl fx.n_list rfl) (ca_nil))))) (css_one (cs_expr (ce_bm PySem.F.plainAttrs_list PySem.F.slot_list_append PySem.F.type_list_append mm_append (ce_var 0 rfl (by first | exact .inl rfl | exact .inr (.inl rfl) | exact .inr (.inr rfl))) (ca_cons (ce_str) (ca_nil)) (fun a b c => pe_bm PySem.F.plainAttrs_list PySem.F.slot_list_append PySem.F.type_list_append a b c)))) (css_nil))
def N__law_run : List Str := ["row", "place", "signs", "found", "sign"]
theorem sc__law_run : FnScope N__law_run ["row", "place", "signs"] (defScope st__law_run) := ⟨rfl, rfl, rfl, by decide +kernel, rfl, by decide +kernel, by decide +kernel⟩
theorem l__law_run (fx : Fx P w K mg base lc) : Cal P w K mg base 2 "_law_run" st__law_run ["row", "place", "signs"] m__law_run :=
  cal_of fx.d__law_run sc__law_run fun f cdv A outer s H E hr => by
    refine css_cons ?_ ?_
    · exact cs_asg (ce_int) (cg_name 3 sc__law_run.nd rfl (by first | exact .inl rfl | exact .inr rfl))
    refine css_cons ?_ ?_
    · exact cs_for (passes_of rfl) rfl (ci_of (ce_slice (ce_var 0 rfl (by first | exact .inl rfl | exact .inr (.inl rfl) | exact .inr (.inr rfl))) (cp_some (ce_var 1 rfl (by first | exact .inl rfl | exact .inr (.inl rfl) | exact .inr (.inr rfl)))) (cp_none))) (cg_name 4 sc__law_run.nd rfl (by first | exact .inl rfl | exact .inr rfl)) (css_cons (cs_if (ct_notin (u65 hr) (ce_var 4 rfl (by first | exact .inl rfl | exact .inr (.inl rfl) | exact .inr (.inr rfl))) (ce_var 2 rfl (by first | exact .inl rfl | exact .inr (.inl rfl) | exact .inr (.inr rfl)))) (css_one (cs_ret (ce_var 3 rfl (by first | exact .inl rfl | exact .inr (.inl rfl) | exact .inr (.inr rfl))))) (css_nil))
 (css_one (cs_asg (ce_bin om_add (ce_var 3 rfl (by first | exact .inl rfl | exact .inr (.inl rfl) | exact .inr (.inr rfl))) (ce_int)) (cg_name 3 sc__law_run.nd rfl (by first | exact .inl rfl | exact .inr rfl))))) (fun a b c => ps_for (passes_of rfl) rfl a b c)
    exact css_one (cs_ret (ce_var 3 rfl (by first | exact .inl rfl | exact .inr (.inl rfl) | exact .inr (.inr rfl))))
def N__law_row_tokens : List Str := ["row", "found", "skip", "place", "sign", "letters", "digits"]
theorem sc__law_row_tokens : FnScope N__law_row_tokens ["row"] (defScope st__law_row_tokens) := ⟨rfl, rfl, rfl, by decide +kernel, rfl, by decide +kernel, by decide +kernel⟩
theorem l__law_row_tokens (fx : Fx P w K mg base lc) (c__law_run : Cal P w K mg base 2 "_law_run" st__law_run ["row", "place", "signs"] m__law_run) : Cal P w K mg base 3 "_law_row_tokens" st__law_row_tokens ["row"] m__law_row_tokens :=
  cal_of fx.d__law_row_tokens sc__law_row_tokens fun f cdv A outer s H E hr => by
    refine css_cons ?_ ?_
    · exact cs_par3 (ca_cons (ce_if (ct_in (u65 hr) (ce_str) (ce_var 0 rfl (by first | exact .inl rfl | exact .inr (.inl rfl) | exact .inr (.inr rfl)))) (ce_slice (ce_var 0 rfl (by first | exact .inl rfl | exact .inr (.inl rfl) | exact .inr (.inr rfl))) (cp_none) (cp_some (ce_sindex rfl tkD (ce_var 0 rfl (by first | exact .inl rfl | exact .inr (.inl rfl) | exact .inr (.inr rfl))) (ce_str)))) (ce_var 0 rfl (by first | exact .inl rfl | exact .inr (.inl rfl) | exact .inr (.inr rfl)))) (ca_cons (ce_lst (ca_nil)) (ca_cons (ce_int) (ca_nil)))) (fun h => ps_par3 rfl sc__law_row_tokens.nd rfl rfl rfl (by decide) (by decide) (by decide) rfl rfl rfl h rfl)
    refine css_cons ?_ ?_
    · exact cs_for (passes_of rfl) rfl (ci_enumA rfl fx.n_enumerate (ca_cons (ce_var 0 rfl (by first | exact .inl rfl | exact .inr (.inl rfl) | exact .inr (.inr rfl))) (ca_nil))) (cg_tup rfl (cgs_cons (cg_name 3 sc__law_row_tokens.nd rfl (by first | exact .inl rfl | exact .inr rfl)) (cgs_cons (cg_name 4 sc__law_row_tokens.nd rfl (by first | exact .inl rfl | exact .inr rfl)) (cgs_nil)))) (css_cons (cs_asg (ce_cal c__law_run (hr.mono (by omega)) tkD (ca_cons (ce_var 0 rfl (by first | exact .inl rfl | exact .inr (.inl rfl) | exact .inr (.inr rfl))) (ca_cons (ce_var 3 rfl (by first | exact .inl rfl | exact .inr (.inl rfl) | exact .inr (.inr rfl))) (ca_cons (ce_str) (ca_nil))))) (cg_name 5 sc__law_row_tokens.nd rfl (by first | exact .inl rfl | exact .inr rfl)))
 (css_cons (cs_asg (ce_cal c__law_run (hr.mono (by omega)) tkD (ca_cons (ce_var 0 rfl (by first | exact .inl rfl | exact .inr (.inl rfl) | exact .inr (.inr rfl))) (ca_cons (ce_var 3 rfl (by first | exact .inl rfl | exact .inr (.inl rfl) | exact .inr (.inr rfl))) (ca_cons (ce_str) (ca_nil))))) (cg_name 6 sc__law_row_tokens.nd rfl (by first | exact .inl rfl | exact .inr rfl)))
 (css_one (cs_if (ct_cmp om_gt (ce_var 2 rfl (by first | exact .inl rfl | exact .inr (.inl rfl) | exact .inr (.inr rfl))) (ce_int)) (css_one (cs_asg (ce_bin om_sub (ce_var 2 rfl (by first | exact .inl rfl | exact .inr (.inl rfl) | exact .inr (.inr rfl))) (ce_int)) (cg_name 2 sc__law_row_tokens.nd rfl (by first | exact .inl rfl | exact .inr rfl)))) (css_one (cs_if (ct_cmp om_gt (ce_var 5 rfl (by first | exact .inl rfl | exact .inr (.inl rfl) | exact .inr (.inr rfl))) (ce_int)) (css_cons (cs_expr (ce_bm PySem.F.plainAttrs_list PySem.F.slot_list_append PySem.F.type_list_append mm_append (ce_var 1 rfl (by first | exact .inl rfl | exact .inr (.inl rfl) | exact .inr (.inr rfl))) (ca_cons (ce_tup (ca_cons (ce_str) (ca_cons (ce_slice (ce_var 0 rfl (by first | exact .inl rfl | exact .inr (.inl rfl) | exact .inr (.inr rfl))) (cp_some (ce_var 3 rfl (by first | exact .inl rfl | exact .inr (.inl rfl) | exact .inr (.inr rfl)))) (cp_some (ce_bin om_add (ce_var 3 rfl (by first | exact .inl rfl | exact .inr (.inl rfl) | exact .inr (.inr rfl))) (ce_var 5 rfl (by first | exact .inl rfl | exact .inr (.inl rfl) | exact .inr (.inr rfl)))))) (ca_cons (ce_var 3 rfl (by first | exact .inl rfl | exact .inr (.inl rfl) | exact .inr (.inr rfl))) (ca_nil))))) (ca_nil)) (fun a b c => pe_bm PySem.F.plainAttrs_list PySem.F.slot_list_append PySem.F.type_list_append a b c)))
 (css_one (cs_asg (ce_bin om_sub (ce_var 5 rfl (by first | exact .inl rfl | exact .inr (.inl rfl) | exact .inr (.inr rfl))) (ce_int)) (cg_name 2 sc__law_row_tokens.nd rfl (by first | exact .inl rfl | exact .inr rfl))))) (css_one (cs_if (ct_cmp om_gt (ce_var 6 rfl (by first | exact .inl rfl | exact .inr (.inl rfl) | exact .inr (.inr rfl))) (ce_int)) (css_cons (cs_expr (ce_bm PySem.F.plainAttrs_list PySem.F.slot_list_append PySem.F.type_list_append mm_append (ce_var 1 rfl (by first | exact .inl rfl | exact .inr (.inl rfl) | exact .inr (.inr rfl))) (ca_cons (ce_tup (ca_cons (ce_str) (ca_cons (ce_callTy cm_int rfl fx.n_int rfl (ca_cons (ce_slice (ce_var 0 rfl (by first | exact .inl rfl | exact .inr (.inl rfl) | exact .inr (.inr rfl))) (cp_some (ce_var 3 rfl (by first | exact .inl rfl | exact .inr (.inl rfl) | exact .inr (.inr rfl)))) (cp_some (ce_bin om_add (ce_var 3 rfl (by first | exact .inl rfl | exact .inr (.inl rfl) | exact .inr (.inr rfl))) (ce_var 6 rfl (by first | exact .inl rfl | exact .inr (.inl rfl) | exact .inr (.inr rfl)))))) (ca_nil))) (ca_cons (ce_var 3 rfl (by first | exact .inl rfl | exact .inr (.inl rfl) | exact .inr (.inr rfl))) (ca_nil))))) (ca_nil)) (fun a b c => pe_bm PySem.F.plainAttrs_list PySem.F.slot_list_append PySem.F.type_list_append a b c)))
 (css_one (cs_asg (ce_bin om_sub (ce_var 6 rfl (by first | exact .inl rfl | exact .inr (.inl rfl) | exact .inr (.inr rfl))) (ce_int)) (cg_name 2 sc__law_row_tokens.nd rfl (by first | exact .inl rfl | exact .inr rfl))))) (css_one (cs_if (ct_in (u65 hr) (ce_var 4 rfl (by first | exact .inl rfl | exact .inr (.inl rfl) | exact .inr (.inr rfl))) (ce_str)) (css_one (cs_expr (ce_bm PySem.F.plainAttrs_list PySem.F.slot_list_append PySem.F.type_list_append mm_append (ce_var 1 rfl (by first | exact .inl rfl | exact .inr (.inl rfl) | exact .inr (.inr rfl))) (ca_cons (ce_tup (ca_cons (ce_str) (ca_cons (ce_var 4 rfl (by first | exact .inl rfl | exact .inr (.inl rfl) | exact .inr (.inr rfl))) (ca_cons (ce_var 3 rfl (by first | exact .inl rfl | exact .inr (.inl rfl) | exact .inr (.inr rfl))) (ca_nil))))) (ca_nil)) (fun a b c => pe_bm PySem.F.plainAttrs_list PySem.F.slot_list_append PySem.F.type_list_append a b c)))) (css_one (cs_if (ct_cmp (om_ne (u64 hr)) (ce_var 4 rfl (by first | exact .inl rfl | exact .inr (.inl rfl) | exact .inr (.inr rfl))) (ce_str)) (css_one (cs_ret (ce_tup (ca_cons (ce_var 1 rfl (by first | exact .inl rfl | exact .inr (.inl rfl) | exact .inr (.inr rfl))) (ca_cons (ce_var 3 rfl (by first | exact .inl rfl | exact .inr (.inl rfl) | exact .inr (.inr rfl))) (ca_cons (ce_callB cm_len rfl fx.n_len rfl (ca_cons (ce_var 0 rfl (by first | exact .inl rfl | exact .inr (.inl rfl) | exact .inr (.inr rfl))) (ca_nil))) (ca_nil))))))) (css_nil))))))))))))) (fun a b c => ps_for (passes_of rfl) rfl a b c)
    exact css_one (cs_ret (ce_tup (ca_cons (ce_var 1 rfl (by first | exact .inl rfl | exact .inr (.inl rfl) | exact .inr (.inr rfl))) (ca_cons (ce_non) (ca_cons (ce_callB cm_len rfl fx.n_len rfl (ca_cons (ce_var 0 rfl (by first | exact .inl rfl | exact .inr (.inl rfl) | exact .inr (.inr rfl))) (ca_nil))) (ca_nil))))))
def N_law : List Str := ["script", "stream", "turn", "rows", "made", "due", "bads", "found", "thing", "met", "mine", "text", "row", "number", "one", "some", "bad", "length"]
theorem sc_law : FnScope N_law ["script"] (defScope st_law) := ⟨rfl, rfl, rfl, by decide +kernel, rfl, by decide +kernel, by decide +kernel⟩
theorem l_law (fx : Fx P w K mg base lc) (lw : LawC base mg lc lP "law") (c__law_stream : Cal P w K mg base 2 "_law_stream" st__law_stream ["script"] m__law_stream) (c__law_pick : Cal P w K mg base 3 "_law_pick" st__law_pick ["stream", "things"] m__law_pick) (c__law_drawn_row : Cal P w K mg base 4 "_law_drawn_row" st__law_drawn_row ["stream"] m__law_drawn_row) (c__law_row_tokens : Cal P w K mg base 3 "_law_row_tokens" st__law_row_tokens ["row"] m__law_row_tokens) (c__law_met : CalM P w K mg base "_law_met" st__law_met N__law_met "ask" m__law_met) (c_tokens : Cal P w K mg base 4 "tokens" st_tokens ["text"] m_tokens) (c__law_same : Cal P w K mg base 7 "_law_same" st__law_same ["found", "due"] (m__law_same 6)) (c__law_spoilt : Cal P w K mg base 7 "_law_spoilt" st__law_spoilt ["thing"] (m__law_spoilt 6)) (c__law_copied : Cal P w K mg base 7 "_law_copied" st__law_copied ["thing"] (m__law_copied 6)) : Cal P w K mg base 11 "law" st_law ["script"] m_law :=
  cal_ofC fx.d_law sc_law fun f A outer s H E hr => by
    refine css_cons ?_ ?_
    · exact cs_asg (ce_cal c__law_stream (hr.mono (by omega)) tkD (ca_cons (ce_var 0 rfl (by first | exact .inl rfl | exact .inr (.inl rfl) | exact .inr (.inr rfl))) (ca_nil))) (cg_name 1 sc_law.nd rfl (by first | exact .inl rfl | exact .inr rfl))
    refine css_cons ?_ ?_
    · exact cs_for (passes_of rfl) rfl (ci_range1 rfl fx.n_range (ca_cons (ce_int) (ca_nil))) (cg_name 2 sc_law.nd rfl (by first | exact .inl rfl | exact .inr rfl)) (css_cons (cs_setLc 3 (own := [("row", 12)]) rfl sc_law.nd rfl rfl (sw_true rfl rfl rfl (by decide +kernel)) (ci_range1 rfl fx.n_range (ca_cons (ce_cal c__law_pick (hr.mono (by omega)) tkD (ca_cons (ce_var 1 rfl (by first | exact .inl rfl | exact .inr (.inl rfl) | exact .inr (.inr rfl))) (ca_cons (ce_lst (ca_cons (ce_int) (ca_cons (ce_int) (ca_cons (ce_int) (ca_cons (ce_int) (ca_cons (ce_int) (ca_nil))))))) (ca_nil)))) (ca_nil))) (blkOk_by (N := N_law) (sc := defScope st_law) (own := [("row", 12)]) (by decide +kernel)) (cgb_name 12 (fun _ _ _ _ _ => pg_name sc_law.nd rfl (by first | exact .inl rfl | exact .inr rfl))) (by decide +kernel) (fun _ _ _ _ _ => cts_nil) (fun _ _ _ _ _ => ce_cal c__law_drawn_row (hr.mono (by omega)) tk0 (ca_cons (ce_var 1 rfl (by first | exact .inl rfl | exact .inr (.inl rfl) | exact .inr (.inr rfl))) (ca_nil))))
 (css_cons (cs_asg (ce_tup (ca_cons (ce_bm PySem.F.plainAttrs_str PySem.F.slot_str_join PySem.F.type_str_join mm_join (ce_str) (ca_cons (ce_var 3 rfl (by first | exact .inl rfl | exact .inr (.inl rfl) | exact .inr (.inr rfl))) (ca_nil)) (fun a b c => pe_bm PySem.F.plainAttrs_str PySem.F.slot_str_join PySem.F.type_str_join a b c)) (ca_cons (ce_lc (own := [("row", 12)]) rfl sc_law.nd (ci_of (ce_var 3 rfl (by first | exact .inl rfl | exact .inr (.inl rfl) | exact .inr (.inr rfl)))) (blkOk_by (N := N_law) (sc := defScope st_law) (own := [("row", 12)]) (by decide +kernel)) (cgb_name 12 (fun _ _ _ _ _ => pg_name sc_law.nd rfl (by first | exact .inl rfl | exact .inr rfl))) (by decide +kernel) (fun _ _ _ _ _ => cts_nil) (fun _ _ _ _ _ => ce_cal c__law_row_tokens (hr.mono (by omega)) tk0 (ca_cons (ce_var 12 rfl (by first | exact .inl rfl | exact .inr (.inl rfl) | exact .inr (.inr rfl))) (ca_nil)))) (ca_nil)))) (cg_tup rfl (cgs_cons (cg_name 11 sc_law.nd rfl (by first | exact .inl rfl | exact .inr rfl)) (cgs_cons (cg_name 4 sc_law.nd rfl (by first | exact .inl rfl | exact .inr rfl)) (cgs_nil)))))
 (css_cons (cs_asg (ce_tup (ca_cons (ce_str) (ca_cons (ce_lc (own := [("some", 15), ("bad", 16), ("length", 17)]) rfl sc_law.nd (ci_of (ce_var 4 rfl (by first | exact .inl rfl | exact .inr (.inl rfl) | exact .inr (.inr rfl)))) (blkOk_by (N := N_law) (sc := defScope st_law) (own := [("some", 15), ("bad", 16), ("length", 17)]) (by decide +kernel)) (cgb_tup rfl (cgbs_cons (cgb_name 15 (fun _ _ _ _ _ => pg_name sc_law.nd rfl (by first | exact .inl rfl | exact .inr rfl))) (cgbs_cons (cgb_name 16 (fun _ _ _ _ _ => pg_name sc_law.nd rfl (by first | exact .inl rfl | exact .inr rfl))) (cgbs_cons (cgb_name 17 (fun _ _ _ _ _ => pg_name sc_law.nd rfl (by first | exact .inl rfl | exact .inr rfl))) (cgbs_nil))))) (by decide +kernel) (fun _ _ _ _ _ => cts_nil) (fun _ _ _ _ _ => ce_var 15 rfl (by first | exact .inl rfl | exact .inr (.inl rfl) | exact .inr (.inr rfl)))) (ca_nil)))) (cg_name 5 sc_law.nd rfl (by first | exact .inl rfl | exact .inr rfl)))
 (css_cons (cs_setLc 6 (own := [("number", 13), ("one", 14)]) rfl sc_law.nd rfl rfl (sw_true rfl rfl rfl (by decide +kernel)) (ci_enumA rfl fx.n_enumerate (ca_cons (ce_var 4 rfl (by first | exact .inl rfl | exact .inr (.inl rfl) | exact .inr (.inr rfl))) (ca_nil))) (blkOk_by (N := N_law) (sc := defScope st_law) (own := [("number", 13), ("one", 14)]) (by decide +kernel)) (cgb_tup rfl (cgbs_cons (cgb_name 13 (fun _ _ _ _ _ => pg_name sc_law.nd rfl (by first | exact .inl rfl | exact .inr rfl))) (cgbs_cons (cgb_name 14 (fun _ _ _ _ _ => pg_name sc_law.nd rfl (by first | exact .inl rfl | exact .inr rfl))) (cgbs_nil)))) (by decide +kernel) (fun _ _ _ _ _ => cts_one (ct_cmp om_isnot (ce_ix (u64 hr) (ce_var 14 rfl (by first | exact .inl rfl | exact .inr (.inl rfl) | exact .inr (.inr rfl))) (ce_int)) (ce_non))) (fun _ _ _ _ _ => ce_tup (ca_cons (ce_var 13 rfl (by first | exact .inl rfl | exact .inr (.inl rfl) | exact .inr (.inr rfl))) (ca_cons (ce_ix (u64 hr) (ce_var 14 rfl (by first | exact .inl rfl | exact .inr (.inl rfl) | exact .inr (.inr rfl))) (ce_int)) (ca_nil)))))
 (css_cons (cs_if (ct_cmp (om_ne (u64 hr)) (ce_var 6 rfl (by first | exact .inl rfl | exact .inr (.inl rfl) | exact .inr (.inr rfl))) (ce_lst (ca_nil))) (css_one (cs_asg (ce_tup (ca_cons (ce_str) (ca_cons (ce_ix (u64 hr) (ce_var 6 rfl (by first | exact .inl rfl | exact .inr (.inl rfl) | exact .inr (.inr rfl))) (ce_int)) (ca_nil)))) (cg_name 5 sc_law.nd rfl (by first | exact .inl rfl | exact .inr rfl)))) (css_nil))
 (css_cons (cs_asg (ce_lst (ca_cons (ce_lamM 7 c__law_met lw (hr.mono (by omega)) rfl (LamX.lamS_by (sc := defScope st_law) (by decide +kernel)) rfl (fun _ _ _ _ _ => rfl) (fun A2 outer2 s2 H2 E2 f2 c2 hr2 => ce_cal c_tokens (hr2.mono (by omega)) tkL (ca_cons (ce_var 11 rfl (by first | exact .inl rfl | exact .inr (.inl rfl) | exact .inr (.inr rfl))) (ca_nil)))) (ca_nil))) (cg_name 7 sc_law.nd rfl (by first | exact .inl rfl | exact .inr rfl)))
 (css_cons (cs_expr (ce_bm PySem.F.plainAttrs_list PySem.F.slot_list_append PySem.F.type_list_append mm_append (ce_var 7 rfl (by first | exact .inl rfl | exact .inr (.inl rfl) | exact .inr (.inr rfl))) (ca_cons (ce_lamM 7 c__law_met lw (hr.mono (by omega)) rfl (LamX.lamS_by (sc := defScope st_law) (by decide +kernel)) rfl (fun _ _ _ _ _ => rfl) (fun A2 outer2 s2 H2 E2 f2 c2 hr2 => ce_calK0 c_tokens (hr2.mono (by omega)) tkL (fun f fd F => kwB_mk F 0 ["text"] [0] (fun _ _ _ _ _ _ us ws h1 h2 => match us, ws, h1, h2 with | [], [_], _, _ => rfl)) (ck_cons (ce_var 11 rfl (by first | exact .inl rfl | exact .inr (.inl rfl) | exact .inr (.inr rfl))) (ck_nil)))) (ca_nil)) (fun a b c => pe_bm PySem.F.plainAttrs_list PySem.F.slot_list_append PySem.F.type_list_append a b c)))
 (css_cons (cs_if (ct_not (ct_val (ce_cal c__law_same (hr.mono (by omega)) tkD (ca_cons (ce_var 7 rfl (by first | exact .inl rfl | exact .inr (.inl rfl) | exact .inr (.inr rfl))) (ca_cons (ce_lst (ca_cons (ce_var 5 rfl (by first | exact .inl rfl | exact .inr (.inl rfl) | exact .inr (.inr rfl))) (ca_cons (ce_var 5 rfl (by first | exact .inl rfl | exact .inr (.inl rfl) | exact .inr (.inr rfl))) (ca_nil)))) (ca_nil)))))) (css_one (cs_ret (ce_bl))) (css_nil))
 (css_cons (cs_if (ct_cmp (om_eq (u64 hr)) (ce_var 6 rfl (by first | exact .inl rfl | exact .inr (.inl rfl) | exact .inr (.inr rfl))) (ce_lst (ca_nil))) (css_one (cs_expr (ce_cal c__law_spoilt (hr.mono (by omega)) tkD (ca_cons (ce_ix (u64 hr) (ce_ix (u64 hr) (ce_var 7 rfl (by first | exact .inl rfl | exact .inr (.inl rfl) | exact .inr (.inr rfl))) (ce_int)) (ce_int)) (ca_nil))))) (css_nil))
 (css_cons (cs_if (ct_not (ct_val (ce_cal c__law_same (hr.mono (by omega)) tkD (ca_cons (ce_lamM 7 c__law_met lw (hr.mono (by omega)) rfl (LamX.lamS_by (sc := defScope st_law) (by decide +kernel)) rfl (fun _ _ _ _ _ => rfl) (fun A2 outer2 s2 H2 E2 f2 c2 hr2 => ce_cal c_tokens (hr2.mono (by omega)) tkL (ca_cons (ce_var 11 rfl (by first | exact .inl rfl | exact .inr (.inl rfl) | exact .inr (.inr rfl))) (ca_nil)))) (ca_cons (ce_var 5 rfl (by first | exact .inl rfl | exact .inr (.inl rfl) | exact .inr (.inr rfl))) (ca_nil)))))) (css_one (cs_ret (ce_bl))) (css_nil))
 (css_cons (cs_asg (ce_cal c__law_pick (hr.mono (by omega)) tkD (ca_cons (ce_var 1 rfl (by first | exact .inl rfl | exact .inr (.inl rfl) | exact .inr (.inr rfl))) (ca_cons (ce_lst (ca_cons (ce_non) (ca_cons (ce_int) (ca_cons (ce_bl) (ca_cons (ce_lst (ca_nil)) (ca_cons (ce_lst (ca_cons (ce_str) (ca_nil))) (ca_cons (ce_tup (ca_cons (ce_str) (ca_nil))) (ca_cons (ce_dk) (ca_cons (ce_neg (ce_int)) (ca_nil)))))))))) (ca_nil)))) (cg_name 8 sc_law.nd rfl (by first | exact .inl rfl | exact .inr rfl)))
 (css_cons (cs_asg (ce_cal c__law_copied (hr.mono (by omega)) tkD (ca_cons (ce_var 8 rfl (by first | exact .inl rfl | exact .inr (.inl rfl) | exact .inr (.inr rfl))) (ca_nil))) (cg_name 10 sc_law.nd rfl (by first | exact .inl rfl | exact .inr rfl)))
 (css_cons (cs_asg (ce_lst (ca_cons (ce_lamM 7 c__law_met lw (hr.mono (by omega)) rfl (LamX.lamS_by (sc := defScope st_law) (by decide +kernel)) rfl (fun _ _ _ _ _ => rfl) (fun A2 outer2 s2 H2 E2 f2 c2 hr2 => ce_cal c_tokens (hr2.mono (by omega)) tkL (ca_cons (ce_var 10 rfl (by first | exact .inl rfl | exact .inr (.inl rfl) | exact .inr (.inr rfl))) (ca_nil)))) (ca_nil))) (cg_name 9 sc_law.nd rfl (by first | exact .inl rfl | exact .inr rfl)))
 (css_cons (cs_if (ct_val (ce_callB cm_isi rfl fx.n_isinstance rfl (ca_cons (ce_var 10 rfl (by first | exact .inl rfl | exact .inr (.inl rfl) | exact .inr (.inr rfl))) (ca_cons (ce_bty rfl fx.n_list rfl) (ca_nil))))) (css_one (cs_expr (ce_bm PySem.F.plainAttrs_list PySem.F.slot_list_append PySem.F.type_list_append mm_append (ce_var 10 rfl (by first | exact .inl rfl | exact .inr (.inl rfl) | exact .inr (.inr rfl))) (ca_cons (ce_str) (ca_nil)) (fun a b c => pe_bm PySem.F.plainAttrs_list PySem.F.slot_list_append PySem.F.type_list_append a b c)))) (css_nil))
 (css_one (cs_if (ct_not (ct_val (ce_cal c__law_same (hr.mono (by omega)) tkD (ca_cons (ce_var 9 rfl (by first | exact .inl rfl | exact .inr (.inl rfl) | exact .inr (.inr rfl))) (ca_cons (ce_lst (ca_cons (ce_tup (ca_cons (ce_str) (ca_cons (ce_var 10 rfl (by first | exact .inl rfl | exact .inr (.inl rfl) | exact .inr (.inr rfl))) (ca_nil)))) (ca_nil))) (ca_nil)))))) (css_one (cs_ret (ce_bl))) (css_nil))))))))))))))))) (fun a b c => ps_for (passes_of rfl) rfl a b c)
    refine css_cons ?_ ?_
    · exact cs_asg (ce_lst (ca_cons (ce_cal c_tokens (hr.mono (by omega)) tkD (ca_cons (ce_str) (ca_nil))) (ca_cons (ce_cal c_tokens (hr.mono (by omega)) tkD (ca_cons (ce_str) (ca_nil))) (ca_cons (ce_cal c_tokens (hr.mono (by omega)) tkD (ca_cons (ce_str) (ca_nil))) (ca_nil))))) (cg_name 7 sc_law.nd rfl (by first | exact .inl rfl | exact .inr rfl))
    refine css_cons ?_ ?_
    · exact cs_asg (ce_lst (ca_cons (ce_lst (ca_cons (ce_lst (ca_nil)) (ca_nil))) (ca_cons (ce_lst (ca_cons (ce_lst (ca_cons (ce_tup (ca_cons (ce_str) (ca_cons (ce_str) (ca_cons (ce_int) (ca_nil))))) (ca_cons (ce_tup (ca_cons (ce_str) (ca_cons (ce_str) (ca_cons (ce_int) (ca_nil))))) (ca_cons (ce_tup (ca_cons (ce_str) (ca_cons (ce_int) (ca_cons (ce_int) (ca_nil))))) (ca_nil))))) (ca_cons (ce_lst (ca_nil)) (ca_nil)))) (ca_cons (ce_lst (ca_cons (ce_lst (ca_nil)) (ca_cons (ce_lst (ca_nil)) (ca_cons (ce_lst (ca_nil)) (ca_nil))))) (ca_nil))))) (cg_name 5 sc_law.nd rfl (by first | exact .inl rfl | exact .inr rfl))
    exact css_one (cs_ret (ce_cal c__law_same (hr.mono (by omega)) tkD (ca_cons (ce_var 7 rfl (by first | exact .inl rfl | exact .inr (.inl rfl) | exact .inr (.inr rfl))) (ca_cons (ce_var 5 rfl (by first | exact .inl rfl | exact .inr (.inl rfl) | exact .inr (.inr rfl))) (ca_nil)))))
end
end H

set_option Elab.async false
set_option linter.all false
set_option maxRecDepth 100000
set_option maxHeartbeats 4000000
namespace H
open PySem PySem.Spec PyProof.Rows L2 Mi
theorem si_NoText : FnScope ["self", "text"] ["self", "text"] (defScope (inClass (top 4) 0)) := ⟨rfl, rfl, rfl, by decide +kernel, rfl, by decide +kernel, by decide +kernel⟩
theorem si_Unread : FnScope ["self", "at"] ["self", "at"] (defScope (inClass (top 5) 0)) := ⟨rfl, rfl, rfl, by decide +kernel, rfl, by decide +kernel, by decide +kernel⟩
theorem fin {l : PySem.W.OpenLaw} {w : World} {K : PySem.W.Frag} {h : Heap} {mg : Str → Option Value} {fa : Addr} (KX : K.In h) (G : h.Ns mainGlobals mg) (hfa : mg "law" = some (.ref fa)) (hl : LawOk m_law)
    {fd__law_stream : Addr} {ocd__law_stream kVd__law_stream dcd__law_stream pmd__law_stream cdd__law_stream ctd__law_stream : Value} {odd__law_stream and__law_stream : Option Addr} {sld__law_stream : Array (Option Value)}
    {fd__law_same : Addr} {ocd__law_same kVd__law_same dcd__law_same pmd__law_same cdd__law_same ctd__law_same : Value} {odd__law_same and__law_same : Option Addr} {sld__law_same : Array (Option Value)}
    {fd__law_draw : Addr} {ocd__law_draw kVd__law_draw dcd__law_draw pmd__law_draw cdd__law_draw ctd__law_draw : Value} {odd__law_draw and__law_draw : Option Addr} {sld__law_draw : Array (Option Value)}
    {fd__law_pick : Addr} {ocd__law_pick kVd__law_pick dcd__law_pick pmd__law_pick cdd__law_pick ctd__law_pick : Value} {odd__law_pick and__law_pick : Option Addr} {sld__law_pick : Array (Option Value)}
    {fd__law_copied : Addr} {ocd__law_copied kVd__law_copied dcd__law_copied pmd__law_copied cdd__law_copied ctd__law_copied : Value} {odd__law_copied and__law_copied : Option Addr} {sld__law_copied : Array (Option Value)}
    {CNoText fINoText NNoText : Addr} {nmNoText qcNoText : Str} {bsNoText bmNoText subNoText : List Value} {snNoText : List Str} {abNoText : Bool} {colNoText : Option Bool} {ddNoText : Option Addr} {m0NoText m1NoText m2NoText m3NoText m5NoText : Option Value} {ocNoText kVNoText dcNoText pmNoText cdNoText ctNoText : Value} {odNoText anNoText : Option Addr} {slNoText : Array (Option Value)}
    {fd_check_text : Addr} {ocd_check_text kVd_check_text dcd_check_text pmd_check_text cdd_check_text ctd_check_text : Value} {odd_check_text and_check_text : Option Addr} {sld_check_text : Array (Option Value)}
    {fd_rows_of_text : Addr} {ocd_rows_of_text kVd_rows_of_text dcd_rows_of_text pmd_rows_of_text cdd_rows_of_text ctd_rows_of_text : Value} {odd_rows_of_text and_rows_of_text : Option Addr} {sld_rows_of_text : Array (Option Value)}
    {fd_run_end : Addr} {ocd_run_end kVd_run_end dcd_run_end pmd_run_end cdd_run_end ctd_run_end : Value} {odd_run_end and_run_end : Option Addr} {sld_run_end : Array (Option Value)}
    {ts_LETTERS : Tok}
    {ts_DIGITS : Tok}
    {fd_row_tokens : Addr} {ocd_row_tokens kVd_row_tokens dcd_row_tokens pmd_row_tokens cdd_row_tokens ctd_row_tokens : Value} {odd_row_tokens and_row_tokens : Option Addr} {sld_row_tokens : Array (Option Value)}
    {CUnread fIUnread NUnread : Addr} {nmUnread qcUnread : Str} {bsUnread bmUnread subUnread : List Value} {snUnread : List Str} {abUnread : Bool} {colUnread : Option Bool} {ddUnread : Option Addr} {m0Unread m1Unread m2Unread m3Unread m5Unread : Option Value} {ocUnread kVUnread dcUnread pmUnread cdUnread ctUnread : Value} {odUnread anUnread : Option Addr} {slUnread : Array (Option Value)}
    {fd_tokens : Addr} {ocd_tokens kVd_tokens dcd_tokens pmd_tokens cdd_tokens ctd_tokens : Value} {odd_tokens and_tokens : Option Addr} {sld_tokens : Array (Option Value)}
    {fd__law_drawn_row : Addr} {ocd__law_drawn_row kVd__law_drawn_row dcd__law_drawn_row pmd__law_drawn_row cdd__law_drawn_row ctd__law_drawn_row : Value} {odd__law_drawn_row and__law_drawn_row : Option Addr} {sld__law_drawn_row : Array (Option Value)}
    {fd__law_met : Addr} {ocd__law_met kVd__law_met dcd__law_met pmd__law_met cdd__law_met ctd__law_met : Value} {odd__law_met and__law_met : Option Addr} {sld__law_met : Array (Option Value)}
    {fd__law_spoilt : Addr} {ocd__law_spoilt kVd__law_spoilt dcd__law_spoilt pmd__law_spoilt cdd__law_spoilt ctd__law_spoilt : Value} {odd__law_spoilt and__law_spoilt : Option Addr} {sld__law_spoilt : Array (Option Value)}
    {fd__law_run : Addr} {ocd__law_run kVd__law_run dcd__law_run pmd__law_run cdd__law_run ctd__law_run : Value} {odd__law_run and__law_run : Option Addr} {sld__law_run : Array (Option Value)}
    {fd__law_row_tokens : Addr} {ocd__law_row_tokens kVd__law_row_tokens dcd__law_row_tokens pmd__law_row_tokens cdd__law_row_tokens ctd__law_row_tokens : Value} {odd__law_row_tokens and__law_row_tokens : Option Addr} {sld__law_row_tokens : Array (Option Value)}
    {fd_law : Addr} {ocd_law kVd_law dcd_law pmd_law ctd_law : Value} {odd_law and_law : Option Addr} {sld_law : Array (Option Value)}
    {lc lP : Addr}
    (n_list : PySem.W.nsIn K mainGlobals "list" = some none)
    (ad__law_stream : PySem.W.nsIn K mainGlobals "_law_stream" = some (some (.ref fd__law_stream))) (ld__law_stream : K.lookup fd__law_stream = some ⟨ocd__law_stream, odd__law_stream, .func (PySem.W.fnOf "_law_stream" "_law_stream" (defArgs st__law_stream) (defBody st__law_stream) (defScope st__law_stream) .none kVd__law_stream dcd__law_stream pmd__law_stream and__law_stream cdd__law_stream ctd__law_stream), sld__law_stream⟩) (cd__law_stream : PySem.W.codeIn K cdd__law_stream "_law_stream" = true) (kd__law_stream : PySem.W.keepIn K (.ref fd__law_stream) = true)
    (n_tuple : PySem.W.nsIn K mainGlobals "tuple" = some none)
    (n_isinstance : PySem.W.nsIn K mainGlobals "isinstance" = some none)
    (n_len : PySem.W.nsIn K mainGlobals "len" = some none)
    (n_zip : PySem.W.nsIn K mainGlobals "zip" = some none)
    (n_all : PySem.W.nsIn K mainGlobals "all" = some none)
    (n_dict : PySem.W.nsIn K mainGlobals "dict" = some none)
    (n_bool : PySem.W.nsIn K mainGlobals "bool" = some none)
    (n_int : PySem.W.nsIn K mainGlobals "int" = some none)
    (n_str : PySem.W.nsIn K mainGlobals "str" = some none)
    (ad__law_same : PySem.W.nsIn K mainGlobals "_law_same" = some (some (.ref fd__law_same))) (ld__law_same : K.lookup fd__law_same = some ⟨ocd__law_same, odd__law_same, .func (PySem.W.fnOf "_law_same" "_law_same" (defArgs st__law_same) (defBody st__law_same) (defScope st__law_same) .none kVd__law_same dcd__law_same pmd__law_same and__law_same cdd__law_same ctd__law_same), sld__law_same⟩) (cd__law_same : PySem.W.codeIn K cdd__law_same "_law_same" = true) (kd__law_same : PySem.W.keepIn K (.ref fd__law_same) = true)
    (n_abs : PySem.W.nsIn K mainGlobals "abs" = some none)
    (ad__law_draw : PySem.W.nsIn K mainGlobals "_law_draw" = some (some (.ref fd__law_draw))) (ld__law_draw : K.lookup fd__law_draw = some ⟨ocd__law_draw, odd__law_draw, .func (PySem.W.fnOf "_law_draw" "_law_draw" (defArgs st__law_draw) (defBody st__law_draw) (defScope st__law_draw) .none kVd__law_draw dcd__law_draw pmd__law_draw and__law_draw cdd__law_draw ctd__law_draw), sld__law_draw⟩) (cd__law_draw : PySem.W.codeIn K cdd__law_draw "_law_draw" = true) (kd__law_draw : PySem.W.keepIn K (.ref fd__law_draw) = true)
    (ad__law_pick : PySem.W.nsIn K mainGlobals "_law_pick" = some (some (.ref fd__law_pick))) (ld__law_pick : K.lookup fd__law_pick = some ⟨ocd__law_pick, odd__law_pick, .func (PySem.W.fnOf "_law_pick" "_law_pick" (defArgs st__law_pick) (defBody st__law_pick) (defScope st__law_pick) .none kVd__law_pick dcd__law_pick pmd__law_pick and__law_pick cdd__law_pick ctd__law_pick), sld__law_pick⟩) (cd__law_pick : PySem.W.codeIn K cdd__law_pick "_law_pick" = true) (kd__law_pick : PySem.W.keepIn K (.ref fd__law_pick) = true)
    (ad__law_copied : PySem.W.nsIn K mainGlobals "_law_copied" = some (some (.ref fd__law_copied))) (ld__law_copied : K.lookup fd__law_copied = some ⟨ocd__law_copied, odd__law_copied, .func (PySem.W.fnOf "_law_copied" "_law_copied" (defArgs st__law_copied) (defBody st__law_copied) (defScope st__law_copied) .none kVd__law_copied dcd__law_copied pmd__law_copied and__law_copied cdd__law_copied ctd__law_copied), sld__law_copied⟩) (cd__law_copied : PySem.W.codeIn K cdd__law_copied "_law_copied" = true) (kd__law_copied : PySem.W.keepIn K (.ref fd__law_copied) = true)
    (aCNoText : PySem.W.nsIn K mainGlobals "NoText" = some (some (.ref CNoText))) (xLNoText : K.lookup CNoText = some (excClassObj nmNoText qcNoText CNoText NNoText bsNoText bmNoText true snNoText subNoText abNoText colNoText ddNoText m0NoText m1NoText m2NoText m3NoText m5NoText "ValueError.__new__")) (hbNoText : PySem.HandSPX.refsVE bmNoText = true) (saNoText : PySem.W.findIn K (.ref CNoText) "__setattr__" = some (some (.builtin "object.__setattr__"))) (gaNoText : PySem.W.findIn K (.ref CNoText) "__getattribute__" = some (some (.builtin "BaseException.__getattribute__"))) (ggNoText : PySem.W.findIn K (.ref CNoText) "__getattr__" = some none) (nbNoText : PySem.W.findIn K (.ref CNoText) "text" = some none) (aiNoText : PySem.W.findIn K (.ref CNoText) "__init__" = some (some (.ref fINoText))) (tiNoText : PySem.W.typeIn K (.ref fINoText) = some (.type "function")) (liNoText : K.lookup fINoText = some ⟨ocNoText, odNoText, .func (PySem.W.fnOf "__init__" "NoText.__init__" (defArgs (inClass (top 4) 0)) (defBody (inClass (top 4) 0)) (defScope (inClass (top 4) 0)) .none kVNoText dcNoText pmNoText anNoText cdNoText ctNoText), slNoText⟩) (ciNoText : PySem.W.codeIn K cdNoText "NoText.__init__" = true) (kiNoText : PySem.W.keepIn K (.ref fINoText) = true) (kCNoText : PySem.W.keepIn K (.ref CNoText) = true) (eCNoText : PySem.W.subIn K (.ref CNoText) (.type "BaseException") = some true) (tCNoText : PySem.W.typeIn K (.ref CNoText) = some (.type "type")) (hCNoText : PySem.W.hasDictIn K CNoText = true)
    (ad_check_text : PySem.W.nsIn K mainGlobals "check_text" = some (some (.ref fd_check_text))) (ld_check_text : K.lookup fd_check_text = some ⟨ocd_check_text, odd_check_text, .func (PySem.W.fnOf "check_text" "check_text" (defArgs st_check_text) (defBody st_check_text) (defScope st_check_text) .none kVd_check_text dcd_check_text pmd_check_text and_check_text cdd_check_text ctd_check_text), sld_check_text⟩) (cd_check_text : PySem.W.codeIn K cdd_check_text "check_text" = true) (kd_check_text : PySem.W.keepIn K (.ref fd_check_text) = true)
    (ad_rows_of_text : PySem.W.nsIn K mainGlobals "rows_of_text" = some (some (.ref fd_rows_of_text))) (ld_rows_of_text : K.lookup fd_rows_of_text = some ⟨ocd_rows_of_text, odd_rows_of_text, .func (PySem.W.fnOf "rows_of_text" "rows_of_text" (defArgs st_rows_of_text) (defBody st_rows_of_text) (defScope st_rows_of_text) .none kVd_rows_of_text dcd_rows_of_text pmd_rows_of_text and_rows_of_text cdd_rows_of_text ctd_rows_of_text), sld_rows_of_text⟩) (cd_rows_of_text : PySem.W.codeIn K cdd_rows_of_text "rows_of_text" = true) (kd_rows_of_text : PySem.W.keepIn K (.ref fd_rows_of_text) = true)
    (ad_run_end : PySem.W.nsIn K mainGlobals "run_end" = some (some (.ref fd_run_end))) (ld_run_end : K.lookup fd_run_end = some ⟨ocd_run_end, odd_run_end, .func (PySem.W.fnOf "run_end" "run_end" (defArgs st_run_end) (defBody st_run_end) (defScope st_run_end) .none kVd_run_end dcd_run_end pmd_run_end and_run_end cdd_run_end ctd_run_end), sld_run_end⟩) (cd_run_end : PySem.W.codeIn K cdd_run_end "run_end" = true) (kd_run_end : PySem.W.keepIn K (.ref fd_run_end) = true)
    (s_LETTERS : PySem.W.nsIn K mainGlobals "LETTERS" = some (some (.str "abcdefghijklmnopqrstuvwxyz" ts_LETTERS)))
    (s_DIGITS : PySem.W.nsIn K mainGlobals "DIGITS" = some (some (.str "0123456789" ts_DIGITS)))
    (ad_row_tokens : PySem.W.nsIn K mainGlobals "row_tokens" = some (some (.ref fd_row_tokens))) (ld_row_tokens : K.lookup fd_row_tokens = some ⟨ocd_row_tokens, odd_row_tokens, .func (PySem.W.fnOf "row_tokens" "row_tokens" (defArgs st_row_tokens) (defBody st_row_tokens) (defScope st_row_tokens) .none kVd_row_tokens dcd_row_tokens pmd_row_tokens and_row_tokens cdd_row_tokens ctd_row_tokens), sld_row_tokens⟩) (cd_row_tokens : PySem.W.codeIn K cdd_row_tokens "row_tokens" = true) (kd_row_tokens : PySem.W.keepIn K (.ref fd_row_tokens) = true)
    (n_enumerate : PySem.W.nsIn K mainGlobals "enumerate" = some none)
    (aCUnread : PySem.W.nsIn K mainGlobals "Unread" = some (some (.ref CUnread))) (xLUnread : K.lookup CUnread = some (excClassObj nmUnread qcUnread CUnread NUnread bsUnread bmUnread true snUnread subUnread abUnread colUnread ddUnread m0Unread m1Unread m2Unread m3Unread m5Unread "ValueError.__new__")) (hbUnread : PySem.HandSPX.refsVE bmUnread = true) (saUnread : PySem.W.findIn K (.ref CUnread) "__setattr__" = some (some (.builtin "object.__setattr__"))) (gaUnread : PySem.W.findIn K (.ref CUnread) "__getattribute__" = some (some (.builtin "BaseException.__getattribute__"))) (ggUnread : PySem.W.findIn K (.ref CUnread) "__getattr__" = some none) (nbUnread : PySem.W.findIn K (.ref CUnread) "at" = some none) (aiUnread : PySem.W.findIn K (.ref CUnread) "__init__" = some (some (.ref fIUnread))) (tiUnread : PySem.W.typeIn K (.ref fIUnread) = some (.type "function")) (liUnread : K.lookup fIUnread = some ⟨ocUnread, odUnread, .func (PySem.W.fnOf "__init__" "Unread.__init__" (defArgs (inClass (top 5) 0)) (defBody (inClass (top 5) 0)) (defScope (inClass (top 5) 0)) .none kVUnread dcUnread pmUnread anUnread cdUnread ctUnread), slUnread⟩) (ciUnread : PySem.W.codeIn K cdUnread "Unread.__init__" = true) (kiUnread : PySem.W.keepIn K (.ref fIUnread) = true) (kCUnread : PySem.W.keepIn K (.ref CUnread) = true) (eCUnread : PySem.W.subIn K (.ref CUnread) (.type "BaseException") = some true) (tCUnread : PySem.W.typeIn K (.ref CUnread) = some (.type "type")) (hCUnread : PySem.W.hasDictIn K CUnread = true)
    (ad_tokens : PySem.W.nsIn K mainGlobals "tokens" = some (some (.ref fd_tokens))) (ld_tokens : K.lookup fd_tokens = some ⟨ocd_tokens, odd_tokens, .func (PySem.W.fnOf "tokens" "tokens" (defArgs st_tokens) (defBody st_tokens) (defScope st_tokens) .none kVd_tokens dcd_tokens pmd_tokens and_tokens cdd_tokens ctd_tokens), sld_tokens⟩) (cd_tokens : PySem.W.codeIn K cdd_tokens "tokens" = true) (kd_tokens : PySem.W.keepIn K (.ref fd_tokens) = true)
    (n_range : PySem.W.nsIn K mainGlobals "range" = some none)
    (ad__law_drawn_row : PySem.W.nsIn K mainGlobals "_law_drawn_row" = some (some (.ref fd__law_drawn_row))) (ld__law_drawn_row : K.lookup fd__law_drawn_row = some ⟨ocd__law_drawn_row, odd__law_drawn_row, .func (PySem.W.fnOf "_law_drawn_row" "_law_drawn_row" (defArgs st__law_drawn_row) (defBody st__law_drawn_row) (defScope st__law_drawn_row) .none kVd__law_drawn_row dcd__law_drawn_row pmd__law_drawn_row and__law_drawn_row cdd__law_drawn_row ctd__law_drawn_row), sld__law_drawn_row⟩) (cd__law_drawn_row : PySem.W.codeIn K cdd__law_drawn_row "_law_drawn_row" = true) (kd__law_drawn_row : PySem.W.keepIn K (.ref fd__law_drawn_row) = true)
    (xmb : xmB K [("NoText", CNoText), ("Unread", CUnread)] = true)
    (ad__law_met : PySem.W.nsIn K mainGlobals "_law_met" = some (some (.ref fd__law_met))) (ld__law_met : K.lookup fd__law_met = some ⟨ocd__law_met, odd__law_met, .func (PySem.W.fnOf "_law_met" "_law_met" (defArgs st__law_met) (defBody st__law_met) (defScope st__law_met) .none kVd__law_met dcd__law_met pmd__law_met and__law_met cdd__law_met ctd__law_met), sld__law_met⟩) (cd__law_met : PySem.W.codeIn K cdd__law_met "_law_met" = true) (kd__law_met : PySem.W.keepIn K (.ref fd__law_met) = true)
    (ad__law_spoilt : PySem.W.nsIn K mainGlobals "_law_spoilt" = some (some (.ref fd__law_spoilt))) (ld__law_spoilt : K.lookup fd__law_spoilt = some ⟨ocd__law_spoilt, odd__law_spoilt, .func (PySem.W.fnOf "_law_spoilt" "_law_spoilt" (defArgs st__law_spoilt) (defBody st__law_spoilt) (defScope st__law_spoilt) .none kVd__law_spoilt dcd__law_spoilt pmd__law_spoilt and__law_spoilt cdd__law_spoilt ctd__law_spoilt), sld__law_spoilt⟩) (cd__law_spoilt : PySem.W.codeIn K cdd__law_spoilt "_law_spoilt" = true) (kd__law_spoilt : PySem.W.keepIn K (.ref fd__law_spoilt) = true)
    (ad__law_run : PySem.W.nsIn K mainGlobals "_law_run" = some (some (.ref fd__law_run))) (ld__law_run : K.lookup fd__law_run = some ⟨ocd__law_run, odd__law_run, .func (PySem.W.fnOf "_law_run" "_law_run" (defArgs st__law_run) (defBody st__law_run) (defScope st__law_run) .none kVd__law_run dcd__law_run pmd__law_run and__law_run cdd__law_run ctd__law_run), sld__law_run⟩) (cd__law_run : PySem.W.codeIn K cdd__law_run "_law_run" = true) (kd__law_run : PySem.W.keepIn K (.ref fd__law_run) = true)
    (ad__law_row_tokens : PySem.W.nsIn K mainGlobals "_law_row_tokens" = some (some (.ref fd__law_row_tokens))) (ld__law_row_tokens : K.lookup fd__law_row_tokens = some ⟨ocd__law_row_tokens, odd__law_row_tokens, .func (PySem.W.fnOf "_law_row_tokens" "_law_row_tokens" (defArgs st__law_row_tokens) (defBody st__law_row_tokens) (defScope st__law_row_tokens) .none kVd__law_row_tokens dcd__law_row_tokens pmd__law_row_tokens and__law_row_tokens cdd__law_row_tokens ctd__law_row_tokens), sld__law_row_tokens⟩) (cd__law_row_tokens : PySem.W.codeIn K cdd__law_row_tokens "_law_row_tokens" = true) (kd__law_row_tokens : PySem.W.keepIn K (.ref fd__law_row_tokens) = true)
    (ad_law : PySem.W.nsIn K mainGlobals "law" = some (some (.ref fd_law))) (ld_law : K.lookup fd_law = some ⟨ocd_law, odd_law, .func (PySem.W.fnOf "law" "law" (defArgs st_law) (defBody st_law) (defScope st_law) .none kVd_law dcd_law pmd_law and_law (.ref lc) ctd_law), sld_law⟩) (cd_law : PySem.W.codeIn K (.ref lc) "law" = true) (kd_law : PySem.W.keepIn K (.ref fd_law) = true)
    (hT : h.get? lP = some { cls := .none, data := .fields #[] }) (nT : K.lookup lP = none) (hcd : PySem.W.codeHdIn K lc lP = true) : LamX.LawAtS l w K (L2.CX l.prog w) 11 63 "script" mg fa h := by
  have e := hfa.symm.trans (PySem.W.mg_of KX G ad_law)
  cases e
  letI i : TabsOf := ⟨[(lP, ("law" : Str) ++ ".<locals>." ++ "<lambda>")]⟩
  refine ⟨PySem.W.fnOf "law" "law" (defArgs st_law) (defBody st_law) (defScope st_law) .none kVd_law dcd_law pmd_law and_law (.ref lc) ctd_law, [(lc, lP)], spM K mg 1 m_law, ?_, ?_, ?_, fun s u => .of_eq rfl, ?_, fun base _ _ hTB => ?_⟩
  · exact List.forall_mem_cons.mpr ⟨hT, List.forall_mem_nil _⟩
  · exact List.forall_mem_cons.mpr ⟨nT, List.forall_mem_nil _⟩
  · exact List.forall_mem_cons.mpr ⟨PySem.W.codeHd_of_K KX hcd, List.forall_mem_nil _⟩
  · intro H a ns h1 h2 h3 h4
    exact law_sp hl h1 h2 (List.forall_mem_cons.mpr ⟨LamX.TabS.nil (h3 _ (List.Mem.head _)), List.forall_mem_nil _⟩) h4
  · have fx : Fx l.prog w K mg base lc := by
      constructor
      · exact PySem.W.mg_none_of KX G n_list
      · exact df_mk KX G ad__law_stream ld__law_stream cd__law_stream kd__law_stream (fun _ _ _ _ _ _ us hl => match us, hl with | [_], _ => rfl)
      · exact PySem.W.mg_none_of KX G n_tuple
      · exact PySem.W.mg_none_of KX G n_isinstance
      · exact PySem.W.mg_none_of KX G n_len
      · exact PySem.W.mg_none_of KX G n_zip
      · exact PySem.W.mg_none_of KX G n_all
      · exact PySem.W.mg_none_of KX G n_dict
      · exact PySem.W.mg_none_of KX G n_bool
      · exact PySem.W.mg_none_of KX G n_int
      · exact PySem.W.mg_none_of KX G n_str
      · exact df_mk KX G ad__law_same ld__law_same cd__law_same kd__law_same (fun _ _ _ _ _ _ us hl => match us, hl with | [_, _], _ => rfl)
      · exact PySem.W.mg_none_of KX G n_abs
      · exact df_mk KX G ad__law_draw ld__law_draw cd__law_draw kd__law_draw (fun _ _ _ _ _ _ us hl => match us, hl with | [_, _], _ => rfl)
      · exact df_mk KX G ad__law_pick ld__law_pick cd__law_pick kd__law_pick (fun _ _ _ _ _ _ us hl => match us, hl with | [_, _], _ => rfl)
      · exact df_mk KX G ad__law_copied ld__law_copied cd__law_copied kd__law_copied (fun _ _ _ _ _ _ us hl => match us, hl with | [_], _ => rfl)
      · exact excF_of (exd_mk (x := "NoText") (st := inClass (top 4) 0) (a := "self") (b := "text") xLNoText hbNoText saNoText gaNoText ggNoText nbNoText aiNoText tiNoText liNoText ciNoText kiNoText kCNoText eCNoText tCNoText hCNoText (fun _ _ _ _ _ _ us hl => match us, hl with | [_, _], _ => rfl)) (PySem.W.mg_of KX G aCNoText) si_NoText rfl
      · exact df_mk KX G ad_check_text ld_check_text cd_check_text kd_check_text (fun _ _ _ _ _ _ us hl => match us, hl with | [_], _ => rfl)
      · exact df_mk KX G ad_rows_of_text ld_rows_of_text cd_rows_of_text kd_rows_of_text (fun _ _ _ _ _ _ us hl => match us, hl with | [_], _ => rfl)
      · exact df_mk KX G ad_run_end ld_run_end cd_run_end kd_run_end (fun _ _ _ _ _ _ us hl => match us, hl with | [_, _, _], _ => rfl)
      · exact ⟨_, PySem.W.mg_of KX G s_LETTERS⟩
      · exact ⟨_, PySem.W.mg_of KX G s_DIGITS⟩
      · exact df_mk KX G ad_row_tokens ld_row_tokens cd_row_tokens kd_row_tokens (fun _ _ _ _ _ _ us hl => match us, hl with | [_], _ => rfl)
      · exact PySem.W.mg_none_of KX G n_enumerate
      · exact excF_of (exd_mk (x := "Unread") (st := inClass (top 5) 0) (a := "self") (b := "at") xLUnread hbUnread saUnread gaUnread ggUnread nbUnread aiUnread tiUnread liUnread ciUnread kiUnread kCUnread eCUnread tCUnread hCUnread (fun _ _ _ _ _ _ us hl => match us, hl with | [_, _], _ => rfl)) (PySem.W.mg_of KX G aCUnread) si_Unread rfl
      · exact df_mk KX G ad_tokens ld_tokens cd_tokens kd_tokens (fun _ _ _ _ _ _ us hl => match us, hl with | [_], _ => rfl)
      · exact PySem.W.mg_none_of KX G n_range
      · exact df_mk KX G ad__law_drawn_row ld__law_drawn_row cd__law_drawn_row kd__law_drawn_row (fun _ _ _ _ _ _ us hl => match us, hl with | [_], _ => rfl)
      · exact ⟨_, PySem.W.mg_of KX G aCUnread⟩
      · exact ⟨_, PySem.W.mg_of KX G aCNoText⟩
      · exact xm_of (L := [("NoText", CNoText), ("Unread", CUnread)]) (List.forall_mem_cons.mpr ⟨PySem.W.mg_of KX G aCNoText, List.forall_mem_cons.mpr ⟨PySem.W.mg_of KX G aCUnread, List.forall_mem_nil _⟩⟩) xmb
      · exact df_mk KX G ad__law_met ld__law_met cd__law_met kd__law_met (fun _ _ _ _ _ _ us hl => match us, hl with | [_], _ => rfl)
      · exact df_mk KX G ad__law_spoilt ld__law_spoilt cd__law_spoilt kd__law_spoilt (fun _ _ _ _ _ _ us hl => match us, hl with | [_], _ => rfl)
      · exact df_mk KX G ad__law_run ld__law_run cd__law_run kd__law_run (fun _ _ _ _ _ _ us hl => match us, hl with | [_, _, _], _ => rfl)
      · exact df_mk KX G ad__law_row_tokens ld__law_row_tokens cd__law_row_tokens kd__law_row_tokens (fun _ _ _ _ _ _ us hl => match us, hl with | [_], _ => rfl)
      · exact dfc_mk KX G ad_law ld_law cd_law kd_law (fun _ _ _ _ _ _ us hl => match us, hl with | [_], _ => rfl)
    have lw : LawC base mg lc lP "law" := ⟨hTB _ (List.Mem.head _), List.Mem.head _, List.forall_mem_cons.mpr ⟨fun _ => rfl, List.forall_mem_nil _⟩⟩
    have c__law_stream := l__law_stream fx
    have c__law_same := l__law_same fx
    have c__law_draw := l__law_draw fx
    have c__law_pick := l__law_pick fx c__law_draw
    have c__law_copied := l__law_copied fx
    have c_check_text := l_check_text fx
    have c_rows_of_text := l_rows_of_text fx
    have c_run_end := l_run_end fx
    have c_row_tokens := l_row_tokens fx c_run_end
    have c_tokens := l_tokens fx c_check_text c_rows_of_text c_row_tokens
    have c__law_drawn_row := l__law_drawn_row fx c__law_draw c__law_pick
    have c__law_met := l__law_met fx
    have c__law_spoilt := l__law_spoilt fx
    have c__law_run := l__law_run fx
    have c__law_row_tokens := l__law_row_tokens fx c__law_run
    exact cal_fd (l_law fx lw c__law_stream c__law_pick c__law_drawn_row c__law_row_tokens c__law_met c_tokens (c__law_same 6) (c__law_spoilt 6) (c__law_copied 6)) hfa ld_law
end H

set_option Elab.async false
set_option linter.all false
set_option maxRecDepth 100000
set_option maxHeartbeats 1000000
namespace H
open PySem PySem.Spec PyProof.Rows L2 Mi

/-! ### the stream -/
/-- a stream at s, its numbers at l, b draws made -/
structure Strm (S : Sto) (s l b : Nat) : Prop where
  ex : ∃ (a c : Int) (xs : List Int), S[s]? = some (.lst [.ref l, .int a, .int b, .int c]) ∧ S[l]? = some (.lst (xs.map D.int)) ∧ s ≠ l ∧ 0 ≤ a ∧ 0 ≤ c ∧ c < 2147483629 ∧ xs.length ≤ 63
abbrev two (s l : Nat) : Nat → Prop := fun i => i = s ∨ i = l
theorem Strm.fr {S S' : Sto} {s l b : Nat} {Q : Nat → Prop} (h : Strm S s l b) (f : Fr Q S S') (h1 : ¬ Q s) (h2 : ¬ Q l) : Strm S' s l b := by
  obtain ⟨a, c, xs, e1, e2, r⟩ := h.ex
  exact ⟨a, c, xs, f.get e1 h1, f.get e2 h2, r⟩
theorem ints_dn (S : Sto) : ∀ xs : List Int, Dns (fun _ => True) S (xs.map D.int) (xs.map PyData.int)
  | [] => .nil
  | x :: xs => .cons (.int x) (ints_dn S xs)
theorem ints_sz : ∀ xs : List Int, szPs (xs.map PyData.int) ≤ 1
  | [] => by simp [szPs]
  | x :: xs => by
    have := ints_sz xs
    simp only [List.map_cons, szPs, szP]
    omega
theorem eqv_nil (xs : List Int) : PyData.eqvAll (xs.map PyData.int) [] = xs.isEmpty := by cases xs <;> simp [PyData.eqvAll]
theorem ne_nil {S : Sto} {l : Nat} {xs : List Int} (h : S[l]? = some (.lst (xs.map D.int))) : neD (.ref l) (.ref S.length) (S ++ [.lst []]) = .ok (.bl (!xs.isEmpty)) (S ++ [.lst []]) := by
  have hl := lt_of_get h
  have h1 : Dn (fun _ => True) (S ++ [.lst []]) (.ref l) (.list (xs.map PyData.int)) := .lst trivial (by rw [List.getElem?_append_left hl]; exact h) (ints_dn _ xs)
  have h2 : Dn (fun _ => True) (S ++ [.lst []]) (.ref S.length) (.list []) := .lst trivial (push_at S _) .nil
  rw [neD_of h1 h2 (by have := ints_sz xs; simp only [szP]; omega) (by simp [szP, szPs])]
  simp only [PyData.eqv, eqv_nil]
theorem draw_ok {S : Sto} {s l b : Nat} (h : Strm S s l b) (hb : b < 2 ^ 40) {many : Int} (hm : 0 < many) (hm2 : many < 1073741824) :
    ∃ (k : Int) (S' : Sto), m__law_draw [.ref s, .int many] S = .ok (.int k) S' ∧ 0 ≤ k ∧ k < many ∧ Strm S' s l (b + 1) ∧ Mi.Fr (two s l) S S' := by
  obtain ⟨a, c, xs, e1, e2, hsl, ha, hc, hc2, hx⟩ := h.ex
  unfold m__law_draw
  rw [mDef_ap]
  simp only [mSeq_ap, mSto_ap, mBin_ap, mVar_ap, mC_ap, List.map_cons, List.map_nil, List.cons_append, List.nil_append, List.length_cons, List.length_nil, List.getElem?_cons_zero, R.bind_ok, R.thn_ok, ixD_lst e1 (show L2.atI _ (2 : Int) = some (D.int b) from rfl), addD_int, storeD_lst e1 (show ixN _ (2 : Int) = some 2 from rfl), RS.thn_nx, mWhile_ap]
  refine while_rule (fun k e S' => ∃ (a' c' : Int) (xs' : List Int) (cell : Option D), e = [some (.ref s), some (.int many), cell, none, none] ∧ S'[s]? = some (.lst [.ref l, .int a', .int (b + 1), .int c']) ∧ S'[l]? = some (.lst (xs'.map D.int)) ∧ 0 ≤ a' ∧ 0 ≤ c' ∧ c' < 2147483629 ∧ xs'.length = k ∧ k ≤ 63 ∧ Mi.Fr (two s l) S S')
    (fun r => ∃ (k : Int) (S' : Sto), (r.thn _).out = .ok (.int k) S' ∧ 0 ≤ k ∧ k < many ∧ Strm S' s l (b + 1) ∧ Mi.Fr (two s l) S S') ?_ big xs.length _ _ (by show xs.length < 100000; omega) ⟨a, c, xs, none, rfl, set_at e1, (set_ne hsl).trans e2, ha, hc, hc2, rfl, hx, .set S _ (.inl rfl)⟩
  rintro k e S' ⟨a', c', xs', cell, rfl, f1, f2, g1, g2, g3, rfl, g4, fr⟩
  have hcd : (∃ S1, mAndT (mTst (mBin eqD (mBin ixD (mVar 0) (mC (D.int 1))) (mC (D.int 0)))) (mTst (mBin neD (mBin ixD (mVar 0) (mC (D.int 0))) (mLst mNil))) [some (.ref s), some (.int many), cell, none, none] S' = .ok false S1 ∧ Mi.Fr none_ S' S1) ∨
      ∃ S1, mAndT (mTst (mBin eqD (mBin ixD (mVar 0) (mC (D.int 1))) (mC (D.int 0)))) (mTst (mBin neD (mBin ixD (mVar 0) (mC (D.int 0))) (mLst mNil))) [some (.ref s), some (.int many), cell, none, none] S' = .ok true S1 ∧ Mi.Fr none_ S' S1 ∧ xs' ≠ [] := by
    simp only [mAndT_ap, mTst_ap, mBin_ap, mVar_ap, mC_ap, List.getElem?_cons_zero, R.bind_ok, ixD_lst f1 (show L2.atI _ (1 : Int) = some (D.int a') from rfl), ixD_lst f1 (show L2.atI _ (0 : Int) = some (D.ref l) from rfl), eqD_int, mLst_ap, mNil_ap, ne_nil f2]
    by_cases h0 : a' = 0
    · subst h0
      cases xs' with
      | nil => exact .inl ⟨_, rfl, .push _ _ _⟩
      | cons x xs' => exact .inr ⟨_, rfl, .push _ _ _, by simp⟩
    · left
      rw [if_neg (by simpa using h0)]
      exact ⟨_, rfl, .refl _ _⟩
  rcases hcd with ⟨S1, hcd, fr1⟩ | ⟨S1, hcd, fr1, hne⟩
  · left
    refine ⟨S1, hcd, ?_⟩
    have f1 := fr1.get f1 id
    have f2 := fr1.get f2 id
    have fr2 : Mi.Fr (two s l) S S1 := fr.trans (fr1.weak fun _ _ z => z.elim)
    simp only [RS.thn_nx, mSeq_ap, mIfS_ap, mTst_ap, mBin_ap, mVar_ap, mC_ap, List.getElem?_cons_zero, R.bind_ok, R.thn_ok, ixD_lst f1 (show L2.atI _ (1 : Int) = some (D.int a') from rfl), gtD_int]
    by_cases hp : 0 < a'
    · simp only [hp, decide_true, if_pos, mSeq_ap, mAsg_ap, mBin_ap, mCall_ap, mCons_ap, mNil_ap, mVar_ap, mC_ap, List.getElem?_cons_zero, List.getElem?_cons_succ, R.bind_ok, R.thn_ok, ixD_lst f1 (show L2.atI _ (1 : Int) = some (D.int a') from rfl), Mi.intD, modD_p hm, setG_gN, RS.thn_nx, mSto_ap, fdivD_p ⟨hm, hm2⟩, List.set_cons_succ, List.set_cons_zero, storeD_lst f1 (show ixN _ (1 : Int) = some 1 from rfl), mRet_ap, RS.thn_rt, out_rt]
      refine ⟨_, _, rfl, Int.emod_nonneg _ (by omega), Int.emod_lt_of_pos _ hm, ⟨a' / many, c', xs', set_at f1, (set_ne hsl).trans f2, hsl, Int.ediv_nonneg g1 (by omega), g2, g3, g4⟩, fr2.trans (.set _ _ (.inl rfl))⟩
    · simp only [hp, decide_false, if_neg (show ¬ (false = true) by decide), mSkip_ap, RS.thn_nx]
      have p40 : (2 : Int) ^ 64 = 18446744073709551616 := by decide
      have hb' : (b : Int) < 1099511627776 := by have : b < 1099511627776 := hb; omega
      have q1 : 0 ≤ (c' + 8191 * ((b : Int) + 1) + 50021) ^ (5 : Int).toNat % 2147483587 := Int.emod_nonneg _ (by decide)
      have q2 : (c' + 8191 * ((b : Int) + 1) + 50021) ^ (5 : Int).toNat % 2147483587 < 2147483587 := Int.emod_lt_of_pos _ (by decide)
      simp only [mSeq_ap, mAsg_ap, mBin_ap, mCall_ap, mCons_ap, mNil_ap, mVar_ap, mC_ap, List.getElem?_cons_zero, List.getElem?_cons_succ, R.bind_ok, R.thn_ok, ixD_lst f1 (show L2.atI _ (2 : Int) = some (D.int (b + 1)) from rfl), ixD_lst f1 (show L2.atI _ (3 : Int) = some (D.int c') from rfl), Mi.intD, addD_int,
        mulD_l (show -(2 ^ 64) < (8191 : Int) ∧ (8191 : Int) < 2 ^ 64 by decide), powD_p (show 0 ≤ (5 : Int) ∧ (5 : Int) ≤ 1000 ∧ (-(2 ^ 64) < c' + 8191 * ((b : Int) + 1) + 50021 ∧ c' + 8191 * ((b : Int) + 1) + 50021 < 2 ^ 64) by rw [p40]; omega), modD_p (show (0 : Int) < 2147483587 by decide), setG_gN, RS.thn_nx, List.set_cons_succ, List.set_cons_zero, mRet_ap, out_rt]
      generalize (c' + 8191 * ((b : Int) + 1) + 50021) ^ (5 : Int).toNat % 2147483587 = mx at q1 q2 ⊢
      simp only [mulD_l (show -(2 ^ 64) < mx ∧ mx < 2 ^ 64 by rw [p40]; omega), mulD_l (show -(2 ^ 64) < (20011 : Int) ∧ (20011 : Int) < 2 ^ 64 by decide), ixD_lst f1 (show L2.atI _ (2 : Int) = some (D.int (b + 1)) from rfl), R.bind_ok, R.thn_ok, addD_int, powD_p (show 0 ≤ (3 : Int) ∧ (3 : Int) ≤ 1000 ∧ (-(2 ^ 64) < mx * 40009 + 20011 * ((b : Int) + 1) + 31 ∧ mx * 40009 + 20011 * ((b : Int) + 1) + 31 < 2 ^ 64) by rw [p40]; omega), modD_p (show (0 : Int) < 1000000009 by decide), modD_p hm, out_rt]
      exact ⟨_, _, rfl, Int.emod_nonneg _ (by omega), Int.emod_lt_of_pos _ hm, ⟨a', c', xs', f1, f2, hsl, g1, g2, g3, g4⟩, fr2⟩
  · right
    refine ⟨S1, hcd, ?_⟩
    have f1 := fr1.get f1 id
    have f2 := fr1.get f2 id
    have fr2 : Mi.Fr (two s l) S S1 := fr.trans (fr1.weak fun _ _ z => z.elim)
    cases xs' with
    | nil => exact (hne rfl).elim
    | cons x xs' =>
      have p40 : (2 : Int) ^ 64 = 18446744073709551616 := by decide
      have f3 : (S1.set l (.lst (xs'.map D.int)))[s]? = some (.lst [.ref l, .int a', .int (b + 1), .int c']) := (set_ne hsl.symm).trans f1
      have f4 : (S1.set l (.lst (xs'.map D.int)))[l]? = some (.lst (xs'.map D.int)) := set_at f2
      have fr3 : Mi.Fr (two s l) S (S1.set l (.lst (xs'.map D.int))) := fr2.trans (.set _ _ (.inr rfl))
      simp only [mSeq_ap, mAsg_ap, mCall_ap, mCons_ap, mNil_ap, mMeth_ap, mBin_ap, mVar_ap, mC_ap, List.getElem?_cons_zero, R.bind_ok, R.thn_ok, ixD_lst f1 (show L2.atI _ (0 : Int) = some (D.ref l) from rfl), isTy_lst f2, if_pos, popAt_0 f2, absD, setG_gN, RS.thn_nx, List.set_cons_succ, List.set_cons_zero, List.getElem?_cons_succ]
      generalize (if x < 0 then -x else x) = y
      simp only [mSto_ap, mBin_ap, mVar_ap, mC_ap, mCall_ap, mCons_ap, mNil_ap, List.getElem?_cons_zero, List.getElem?_cons_succ, R.bind_ok, R.thn_ok, ixD_lst f3 (show L2.atI _ (3 : Int) = some (D.int c') from rfl), mulD_l (show -(2 ^ 64) < c' ∧ c' < 2 ^ 64 by rw [p40]; omega), addD_int, Mi.intD, modD_p (show (0 : Int) < 2147483629 by decide), storeD_lst f3 (show ixN _ (3 : Int) = some 3 from rfl), RS.thn_nx]
      have hm1 : 0 ≤ (c' * 6151 + y + 7) % 2147483629 := Int.emod_nonneg _ (by decide)
      have hm2 : (c' * 6151 + y + 7) % 2147483629 < 2147483629 := Int.emod_lt_of_pos _ (by decide)
      generalize (c' * 6151 + y + 7) % 2147483629 = z at hm1 hm2 ⊢
      have f5 := set_at (o' := .lst ([D.ref l, .int a', .int (b + 1), .int c'].set 3 (.int z))) f3
      simp only [mIf_ap, mTst_ap, mBin_ap, mVar_ap, mC_ap, List.getElem?_cons_zero, List.getElem?_cons_succ, R.bind_ok, R.thn_ok, powD_p (show 0 ≤ (18 : Int) ∧ (18 : Int) ≤ 1000 ∧ (-(2 ^ 64) < (10 : Int) ∧ (10 : Int) < 2 ^ 64) by decide), geD_int]
      have fin : ∀ y' : Int, 0 ≤ y' → aft (fun e S' => ∃ k', k' < (x :: xs').length ∧ ∃ (a' c' : Int) (xs' : List Int) (cell : Option D), e = [some (.ref s), some (.int many), cell, none, none] ∧ S'[s]? = some (.lst [.ref l, .int a', .int (b + 1), .int c']) ∧ S'[l]? = some (.lst (xs'.map D.int)) ∧ 0 ≤ a' ∧ 0 ≤ c' ∧ c' < 2147483629 ∧ xs'.length = k' ∧ k' ≤ 63 ∧ Mi.Fr (two s l) S S')
          (fun r => ∃ (k : Int) (S' : Sto), (r.thn fun _ _ => .no).out = .ok (.int k) S') (.go .nx [some (.ref s), some (.int many), some (.int y), none, none] (((S1.set l (.lst (xs'.map D.int))).set s (.lst ([D.ref l, .int a', .int (b + 1), .int c'].set 3 (.int z)))).set s (.lst (([D.ref l, .int a', .int (b + 1), .int c'].set 3 (.int z)).set 1 (.int y'))))) := fun y' hy =>
        ⟨xs'.length, by simp, y', z, xs', some (.int y), rfl, set_at f5, (set_ne hsl).trans ((set_ne hsl).trans f4), hy, hm1, hm2, rfl, by simp at g4; omega, (fr3.trans (.set _ _ (.inl rfl))).trans (.set _ _ (.inl rfl))⟩
      by_cases hy : (10 : Int) ^ (18 : Int).toNat ≤ y
      · simp only [hy, decide_true, if_pos, mVar_ap, List.getElem?_cons_zero, List.getElem?_cons_succ, R.bind_ok, R.thn_ok, storeD_lst f5 (show ixN _ (1 : Int) = some 1 from rfl)]
        exact fin y (by have : (0 : Int) ≤ 10 ^ (18 : Int).toNat := by decide
                        omega)
      · simp only [hy, decide_false, if_neg (show ¬ (false = true) by decide), mC_ap, mVar_ap, List.getElem?_cons_zero, List.getElem?_cons_succ, R.bind_ok, R.thn_ok, storeD_lst f5 (show ixN _ (1 : Int) = some 1 from rfl)]
        exact fin 0 (by decide)
end H

set_option Elab.async false
set_option linter.all false
set_option maxRecDepth 100000
set_option maxHeartbeats 1000000
namespace H
open PySem PySem.Spec PyProof.Rows L2 Mi
theorem pick_ok {S : Sto} {s l b j : Nat} {ds : List D} (h : Strm S s l b) (hb : b < 2 ^ 40) (hj : S[j]? = some (.lst ds)) (hne : ds ≠ []) (hl : ds.length < 1073741824) (h1 : j ≠ s) (h2 : j ≠ l) :
    ∃ (d : D) (S' : Sto), m__law_pick [.ref s, .ref j] S = .ok d S' ∧ d ∈ ds ∧ Strm S' s l (b + 1) ∧ Mi.Fr (two s l) S S' := by
  have hp : 0 < ds.length := List.length_pos_iff.mpr hne
  obtain ⟨k, S', e, k1, k2, st, fr⟩ := draw_ok h hb (many := (ds.length : Int)) (by omega) (by omega)
  obtain ⟨n, rfl⟩ := Int.eq_ofNat_of_zero_le k1
  have hn : n < ds.length := by omega
  have hj' := fr.get hj (fun z => z.elim h1 h2)
  refine ⟨ds[n], S', ?_, List.getElem_mem hn, st, fr⟩
  unfold m__law_pick
  rw [mDef_ap]
  simp only [mRet_ap, mBin_ap, mVar_ap, mCall_ap, mCons_ap, mNil_ap, List.map_cons, List.map_nil, List.cons_append, List.nil_append, List.getElem?_cons_zero, List.getElem?_cons_succ, R.bind_ok, R.thn_ok, lenD_lst hj, e, ixD_lst hj' (show L2.atI ds (n : Int) = some ds[n] by rw [atI_n]; exact List.getElem?_eq_getElem hn), out_rt]
theorem stream_ok {S : Sto} {d : D} {ns : List Int} (h : itemsS S d = some (ns.map D.int)) (hl : ns.length ≤ 63) : ∃ S', m__law_stream [d] S = .ok (.ref (S.length + 1)) S' ∧ Strm S' (S.length + 1) S.length 0 ∧ Mi.Fr none_ S S' ∧ S'.length = S.length + 2 := by
  have e1 : listAD [d] S = .ok (.ref S.length) (S ++ [.lst (ns.map D.int)]) := by
    have : listAD [d] S = listD [d] S := by
      cases d <;> first | rfl | (simp [itemsS, itemsL] at h)
    rw [this]
    unfold listD
    simp only [h]
  refine ⟨S ++ [.lst (ns.map D.int)] ++ [.lst [.ref S.length, .int 0, .int 0, .int 19]], ?_, ⟨0, 19, ns, ?_, ?_, by omega, by decide, by decide, by decide, hl⟩, (Mi.Fr.push _ _ _).trans (.push _ _ _), by simp⟩
  · unfold m__law_stream
    rw [mDef_ap]
    simp only [mRet_ap, mLst_ap, mCall_ap, mCons_ap, mNil_ap, mVar_ap, mC_ap, List.map_cons, List.map_nil, List.cons_append, List.nil_append, List.getElem?_cons_zero, R.bind_ok, R.thn_ok, e1, out_rt]
    simp
  · have := push_at (S ++ [.lst (ns.map D.int)]) (.lst [.ref S.length, .int 0, .int 0, .int 19])
    simpa using this
  · rw [List.getElem?_append_left (by simp)]
    exact push_at _ _
end H

set_option Elab.async false
set_option linter.all false
set_option maxRecDepth 100000
set_option maxHeartbeats 1000000
namespace H
open PySem PySem.Spec PyProof.Rows L2 Mi
/-! ### _law_same: of two values that mean the same -/
mutual
/-- nesting -/
def dpP : PyData → Nat
  | .list xs => 1 + dpPs xs
  | .tuple xs => 1 + dpPs xs
  | .dict kvs => 4 + dpPk kvs
  | _ => 1
def dpPs : List PyData → Nat
  | [] => 0
  | x :: xs => max (dpP x) (dpPs xs)
def dpPk : List (PyData × PyData) → Nat
  | [] => 0
  | (_, x) :: xs => max (dpP x) (dpPk xs)
end
mutual
/-- no list too long -/
def wdP : PyData → Bool
  | .list xs => decide (xs.length < 100000) && wdPs xs
  | .tuple xs => decide (xs.length < 100000) && wdPs xs
  | .dict xs => decide (xs.length < 100000) && wdPk xs
  | _ => true
def wdPs : List PyData → Bool
  | [] => true
  | x :: xs => wdP x && wdPs xs
def wdPk : List (PyData × PyData) → Bool
  | [] => true
  | (_, x) :: xs => wdP x && wdPk xs
end
theorem dpPs_at : ∀ {xs : List PyData} {i : Nat} {p : PyData}, xs[i]? = some p → dpP p ≤ dpPs xs
  | [], _, _, h => by simp at h
  | x :: xs, 0, p, h => by simp at h; subst h; simp only [dpPs]; omega
  | x :: xs, i + 1, p, h => by
    have := dpPs_at (xs := xs) (i := i) (p := p) (by simpa using h)
    simp only [dpPs]
    omega
theorem wdPs_at : ∀ {xs : List PyData} {i : Nat} {p : PyData}, wdPs xs = true → xs[i]? = some p → wdP p = true
  | [], _, _, _, h => by simp at h
  | x :: xs, 0, p, w, h => by simp at h; subst h; simp only [wdPs, Bool.and_eq_true] at w; exact w.1
  | x :: xs, i + 1, p, w, h => by
    simp only [wdPs, Bool.and_eq_true] at w
    exact wdPs_at (xs := xs) (i := i) w.2 (by simpa using h)
theorem zipTs_at (ds es : List D) (i : Nat) (z : D) (h : (zipTs ds es)[i]? = some z) : ∃ d e, ds[i]? = some d ∧ es[i]? = some e ∧ z = .tup [d, e] := by
  rw [@zipTs_get ⟨[]⟩] at h
  unfold zipL at h
  split at h
  · rename_i d e h1 h2
    cases h
    exact ⟨d, e, h1, h2, rfl⟩
  · cases h
theorem tyN_dn {P : Nat → Prop} {S : Sto} {d : D} {p : PyData} (h : Dn P S d p) : tyN S d = some (match p with
    | .none => "NoneType" | .bool _ => "bool" | .int _ => "int" | .str _ => "str" | .tuple _ => "tuple" | .list _ => "list" | .dict _ => "dict") := by
  cases h with
  | lst h1 h2 h3 => exact tyN_lst h2
  | dic h1 h2 h3 => exact tyN_dK h2
  | _ => rfl
theorem same_all {n : Nat} {S : Sto} {P Q : Nat → Prop} {ds es : List D} {ps : List PyData} {it : MI} (ih : ∀ (p : PyData) (S : Sto) (a c : D), dpP p ≤ n → wdP p = true → Dn P S a p → Dn Q S c p → ∃ S', m__law_same n [a, c] S = .ok (.bl true) S' ∧ Mi.Fr none_ S S') (r1 : Dns P S ds ps) (r2 : Dns Q S es ps) (hd : dpPs ps ≤ n) (hw : wdPs ps = true) (hl : ps.length < 100000)
    (hy : ∀ i S', Mi.Fr none_ S S' → it i S' = some (zipTs ds es)[i]?) (x y : D) :
    ∃ S', lcF it (gT [gN 2, gN 3]) mTrue (mCall (m__law_same n) (mCons (mVar 2) (mCons (mVar 3) mNil))) [some x, some y, none, none] big 0 S [] = .ok (List.replicate ps.length (D.bl true)) S' ∧ Mi.Fr none_ S S' := by
  have hlen : (zipTs ds es).length = ps.length := by rw [zipTs_len _ _ (r1.length.trans r2.length.symm), r1.length]
  have step : ∀ (i : Nat) (z : D), (zipTs ds es)[i]? = some z → ∀ (acc : List D) (S1 : Sto), (Mi.Fr none_ S S1 ∧ acc = List.replicate i (D.bl true)) → ∃ e1, gT [gN 2, gN 3] z [some x, some y, none, none] S1 = some e1 ∧ ∃ b S2, mTrue e1 S1 = .ok b S2 ∧ if b = true then ∃ w S3, mCall (m__law_same n) (mCons (mVar 2) (mCons (mVar 3) mNil)) e1 S2 = .ok w S3 ∧ (Mi.Fr none_ S S3 ∧ acc ++ [w] = List.replicate (i + 1) (D.bl true)) else (Mi.Fr none_ S S2 ∧ acc = List.replicate (i + 1) (D.bl true)) := by
    rintro i z hz acc S1 ⟨f1, e1⟩
    obtain ⟨d, e, hd1, he1, rfl⟩ := zipTs_at _ _ _ _ hz
    obtain ⟨p, hp1, hp2⟩ := r1.get hd1
    obtain ⟨p', hp1', hp2'⟩ := r2.get he1
    rw [hp1] at hp1'
    cases hp1'
    obtain ⟨S2, k1, k2⟩ := ih p S1 d e (Nat.le_trans (dpPs_at hp1) hd) (wdPs_at hw hp1) (hp2.fr f1 fun j _ h => ⟨h, id⟩) (hp2'.fr f1 fun j _ h => ⟨h, id⟩)
    refine ⟨_, rfl, true, S1, rfl, ?_⟩
    rw [if_pos rfl]
    refine ⟨.bl true, S2, ?_, f1.trans k2, by rw [e1, List.replicate_succ']⟩
    simpa using k1
  obtain ⟨acc, S', h1, h2, h3⟩ := lc_rule (fun i acc S' => Mi.Fr none_ S S' ∧ acc = List.replicate i (D.bl true)) (fun i acc S' h => hy i S' h.1) step (by rw [hlen]; exact hl) (S := S) ⟨.refl _ _, rfl⟩
  rw [hlen] at h3
  subst h3
  exact ⟨S', h1, h2⟩
/-- the pairs of a dict as data -/
def prP : List (PyData × PyData) → List PyData
  | [] => []
  | (k, x) :: r => .tuple [k, x] :: prP r
theorem prP_len : ∀ l : List (PyData × PyData), (prP l).length = l.length
  | [] => rfl
  | (_, _) :: r => by simp [prP, prP_len r]
def isK : PyData → Bool
  | .int _ => true
  | .str _ => true
  | _ => false
theorem kD_dn (P : Nat → Prop) (S : Sto) (k : Key) : Dn P S (kD k) (kPy k) := by
  cases k with
  | inl i => exact .int i
  | inr x => exact .str x
theorem prP_dn {P : Nat → Prop} {S : Sto} : ∀ {kvs : List (Key × D)} {kps : List (PyData × PyData)}, Dnk P S kvs kps → Dns P S (kvs.map fun kv => .tup [kD kv.1, kv.2]) (prP kps)
  | _, _, .nil => .nil
  | _, _, .cons h1 h2 => .cons (.tup (.cons (kD_dn _ _ _) (.cons h1 .nil))) (prP_dn h2)
theorem prP_dp {P : Nat → Prop} {S : Sto} : ∀ {kvs : List (Key × D)} {kps : List (PyData × PyData)}, Dnk P S kvs kps → dpPs (prP kps) ≤ 2 + dpPk kps
  | _, _, .nil => by simp [prP, dpPs]
  | _, _, .cons (k := k) h1 h2 => by
    have := prP_dp h2
    have hk : dpP (kPy k) = 1 := by cases k <;> rfl
    simp only [prP, dpPs, dpP, dpPk, hk]
    omega
theorem prP_wd {P : Nat → Prop} {S : Sto} : ∀ {kvs : List (Key × D)} {kps : List (PyData × PyData)}, Dnk P S kvs kps → wdPk kps = true → wdPs (prP kps) = true
  | _, _, .nil, _ => rfl
  | _, _, .cons (k := k) h1 h2, h => by
    simp only [wdPk, Bool.and_eq_true] at h
    have hk : wdP (kPy k) = true := by cases k <;> rfl
    simp [prP, wdPs, wdP, hk, h.1, prP_wd h2 h.2]
theorem listItems_dK {S : Sto} {j : Nat} {kvs : List (Key × D)} (h : S[j]? = some (.dK kvs)) : listItemsD (.ref j) S = .ok (.ref S.length) (S ++ [.lst (kvs.map fun kv => .tup [kD kv.1, kv.2])]) := by
  unfold listItemsD
  simp only [h]
theorem same_ok : ∀ (n : Nat) {P Q : Nat → Prop} (p : PyData) (S : Sto) (a c : D), dpP p ≤ n → wdP p = true → Dn P S a p → Dn Q S c p → ∃ S', m__law_same n [a, c] S = .ok (.bl true) S' ∧ Mi.Fr none_ S S'
  | 0, _, _, p, S, a, c, h, _, _, _ => by cases p <;> simp [dpP] at h
  | n + 1, P, Q, p, S, a, c, h, hw, ra, rc => by
    have ih := same_ok n (P := P) (Q := Q)
    have ih2 := @same_ok n
    have ta := tyN_dn ra
    have tc := tyN_dn rc
    cases ra with
    | non =>
      cases rc
      refine ⟨S, ?_, .refl _ _⟩
      unfold m__law_same
      rw [mDef_ap]
      simp
    | bl b =>
      cases rc
      refine ⟨S, ?_, .refl _ _⟩
      unfold m__law_same
      rw [mDef_ap]
      simp
    | int b =>
      cases rc
      refine ⟨S, ?_, .refl _ _⟩
      unfold m__law_same
      rw [mDef_ap]
      simp
    | str b =>
      cases rc
      refine ⟨S, ?_, .refl _ _⟩
      unfold m__law_same
      rw [mDef_ap]
      simp
    | @tup ds ps r1 =>
      cases rc with
      | @tup es _ r2 =>
        have hd : dpPs ps ≤ n := by simp only [dpP] at h; omega
        simp only [wdP, Bool.and_eq_true, decide_eq_true_eq] at hw
        obtain ⟨S', k1, k2⟩ := same_all (it := itOf (zipTs ds es)) ih r1 r2 hd hw.2 hw.1 (fun i S' _ => rfl) (.tup ds) (.tup es)
        have hlen : ds.length = es.length := r1.length.trans r2.length.symm
        refine ⟨S' ++ [.lst (List.replicate ps.length (D.bl true))], ?_, k2.trans (.push _ _ _)⟩
        unfold m__law_same
        rw [mDef_ap]
        simp [k1, hlen, allD_true (push_at S' (.lst (List.replicate ps.length (D.bl true))))]
    | @lst j ds ps h1 h2 r1 =>
      cases rc with
      | @lst k es _ h3 h4 r2 =>
        have hd : dpPs ps ≤ n := by simp only [dpP] at h; omega
        simp only [wdP, Bool.and_eq_true, decide_eq_true_eq] at hw
        obtain ⟨S', k1, k2⟩ := same_all (it := itZip (.ref j) (.ref k)) ih r1 r2 hd hw.2 hw.1 (fun i S' f => itZip_at (f.get h2 id) (f.get h4 id) i) (.ref j) (.ref k)
        have hlen : ds.length = es.length := r1.length.trans r2.length.symm
        refine ⟨S' ++ [.lst (List.replicate ps.length (D.bl true))], ?_, k2.trans (.push _ _ _)⟩
        unfold m__law_same
        rw [mDef_ap]
        simp [k1, hlen, tyN_lst h2, tyN_lst h4, lenD_lst h2, lenD_lst h4, zipAD_ref h2 h4, allD_true (push_at S' (.lst (List.replicate ps.length (D.bl true))))]
    | @dic j kvs kps h1 h2 r1 =>
      cases rc with
      | @dic k kvs2 _ h3 h4 r2 =>
        have hd : 4 + dpPk kps ≤ n + 1 := by simpa only [dpP] using h
        simp only [wdP, Bool.and_eq_true, decide_eq_true_eq] at hw
        have f1 : Mi.Fr none_ S (S ++ [.lst (kvs.map fun kv => .tup [kD kv.1, kv.2])]) := .push _ _ _
        have h4' := f1.get h4 id
        have f2 : Mi.Fr none_ (S ++ [.lst (kvs.map fun kv => .tup [kD kv.1, kv.2])]) (S ++ [.lst (kvs.map fun kv => .tup [kD kv.1, kv.2])] ++ [.lst (kvs2.map fun kv => .tup [kD kv.1, kv.2])]) := .push _ _ _
        obtain ⟨S', k1, k2⟩ := ih2 (P := fun _ => True) (Q := fun _ => True) (.list (prP kps)) (S ++ [.lst (kvs.map fun kv => .tup [kD kv.1, kv.2])] ++ [.lst (kvs2.map fun kv => .tup [kD kv.1, kv.2])]) (.ref S.length) (.ref (S.length + 1))
          (by have := prP_dp r1; simp only [dpP]; omega) (by simp [wdP, prP_len, hw.1, prP_wd r1 hw.2])
          (.lst trivial (f2.get (push_at S _) id) ((prP_dn r1).fr (f1.trans f2) fun _ _ _ => ⟨trivial, id⟩)) (.lst trivial (by have := push_at (S ++ [.lst (kvs.map fun kv => .tup [kD kv.1, kv.2])]) (.lst (kvs2.map fun kv => .tup [kD kv.1, kv.2])); simpa using this) ((prP_dn r2).fr (f1.trans f2) fun _ _ _ => ⟨trivial, id⟩))
        refine ⟨S', ?_, (f1.trans f2).trans k2⟩
        unfold m__law_same
        rw [mDef_ap]
        simp only [List.append_assoc, List.cons_append, List.nil_append] at k1
        simp [tyN_dK h2, tyN_dK h4, listItems_dK h2, listItems_dK h4', k1]
end H

set_option Elab.async false
set_option linter.all false
set_option maxRecDepth 100000
set_option maxHeartbeats 1000000
namespace H
open PySem PySem.Spec PyProof.Rows L2 Mi
/-! ### _law_copied -/
abbrev from_ (n : Nat) : Nat → Prop := fun j => n ≤ j
theorem itemsS_dn {P : Nat → Prop} {S : Sto} {d : D} {p : PyData} (r : Dn P S d p) (h : (match p with | .list _ => true | .tuple _ => true | _ => false) = true) : ∃ ds ps, itemsS S d = some ds ∧ Dns P S ds ps ∧ (p = .list ps ∨ p = .tuple ps) := by
  cases r with
  | tup r => exact ⟨_, _, rfl, r, .inr rfl⟩
  | lst h1 h2 r => exact ⟨_, _, itemsS_ref h2, r, .inl rfl⟩
  | _ => simp at h
mutual
def plP : PyData → Bool
  | .list xs => plPs xs
  | .tuple xs => plPs xs
  | .dict xs => xs.isEmpty
  | _ => true
def plPs : List PyData → Bool
  | [] => true
  | x :: xs => plP x && plPs xs
end
theorem tupleD_ref {S : Sto} {j : Nat} {ds : List D} (h : S[j]? = some (.lst ds)) : tupleD [.ref j] S = .ok (.tup ds) S := by
  unfold tupleD
  simp only [itemsS_ref h]
theorem plPs_at : ∀ {xs : List PyData} {i : Nat} {p : PyData}, plPs xs = true → xs[i]? = some p → plP p = true
  | [], _, _, _, h => by simp at h
  | x :: xs, 0, p, w, h => by simp at h; subst h; simp only [plPs, Bool.and_eq_true] at w; exact w.1
  | x :: xs, i + 1, p, w, h => by
    simp only [plPs, Bool.and_eq_true] at w
    exact plPs_at (xs := xs) (i := i) w.2 (by simpa using h)
theorem copied_all {n : Nat} {S : Sto} {P : Nat → Prop} {ds : List D} {ps : List PyData} {it : MI} (ih : ∀ (p : PyData) (S : Sto) (a : D), dpP p ≤ n → wdP p = true → plP p = true → Dn P S a p → ∃ d S', m__law_copied n [a] S = .ok d S' ∧ Mi.Fr none_ S S' ∧ Dn (from_ S.length) S' d p) (r1 : Dns P S ds ps) (hd : dpPs ps ≤ n) (hw : wdPs ps = true) (hp : plPs ps = true) (hl : ps.length < 100000)
    (hy : ∀ i S', Mi.Fr none_ S S' → it i S' = some ds[i]?) (x : D) :
    ∃ acc S', lcF it (gN 2) mTrue (mCall (m__law_copied n) (mCons (mVar 2) mNil)) [some x, none, none, none] big 0 S [] = .ok acc S' ∧ Mi.Fr none_ S S' ∧ Dns (from_ S.length) S' acc ps := by
  have hlen := r1.length
  have step : ∀ (i : Nat) (z : D), ds[i]? = some z → ∀ (acc : List D) (S1 : Sto), (Mi.Fr none_ S S1 ∧ Dns (from_ S.length) S1 acc (ps.take i)) → ∃ e1, gN 2 z [some x, none, none, none] S1 = some e1 ∧ ∃ b S2, mTrue e1 S1 = .ok b S2 ∧ if b = true then ∃ w S3, mCall (m__law_copied n) (mCons (mVar 2) mNil) e1 S2 = .ok w S3 ∧ (Mi.Fr none_ S S3 ∧ Dns (from_ S.length) S3 (acc ++ [w]) (ps.take (i + 1))) else (Mi.Fr none_ S S2 ∧ Dns (from_ S.length) S2 acc (ps.take (i + 1))) := by
    rintro i z hz acc S1 ⟨f1, e1⟩
    obtain ⟨p, hp1, hp2⟩ := r1.get hz
    obtain ⟨d, S2, k1, k2, k3⟩ := ih p S1 z (Nat.le_trans (dpPs_at hp1) hd) (wdPs_at hw hp1) (plPs_at hp hp1) (hp2.fr f1 fun j _ h => ⟨h, id⟩)
    refine ⟨_, rfl, true, S1, rfl, ?_⟩
    rw [if_pos rfl]
    refine ⟨d, S2, ?_, f1.trans k2, ?_⟩
    · simpa using k1
    · rw [List.take_add_one, hp1]
      exact (e1.fr k2 fun j _ h => ⟨h, id⟩).app (.one (k3.fr (Mi.Fr.refl none_ S2) fun j _ h => ⟨Nat.le_trans f1.len h, id⟩))
  obtain ⟨acc, S', h1, h2, h3⟩ := lc_rule (fun i acc S' => Mi.Fr none_ S S' ∧ Dns (from_ S.length) S' acc (ps.take i)) (fun i acc S' h => hy i S' h.1) step (by rw [hlen]; exact hl) (S := S) ⟨.refl _ _, .nil⟩
  rw [hlen, List.take_length] at h3
  exact ⟨acc, S', h1, h2, h3⟩
theorem lcF_nil {it : MI} {g : MG} {t : MT} {f : ME} {e0 : Slots} {S : Sto} (h : it 0 S = some none) : lcF it g t f e0 big 0 S [] = .ok [] S := by
  show lcF it g t f e0 (99999 + 1) 0 S [] = _
  unfold lcF
  rw [h]
theorem copied_ok : ∀ (n : Nat) {P : Nat → Prop} (p : PyData) (S : Sto) (a : D), dpP p ≤ n → wdP p = true → plP p = true → Dn P S a p → ∃ d S', m__law_copied n [a] S = .ok d S' ∧ Mi.Fr none_ S S' ∧ Dn (from_ S.length) S' d p
  | 0, _, p, S, a, h, _, _, _ => by cases p <;> simp [dpP] at h
  | n + 1, P, p, S, a, h, hw, hp, ra => by
    have ih := @copied_ok n P
    cases ra with
    | non => exact ⟨.non, S, by unfold m__law_copied; rw [mDef_ap]; simp, .refl _ _, .non⟩
    | bl b => exact ⟨.bl b, S, by unfold m__law_copied; rw [mDef_ap]; simp, .refl _ _, .bl _⟩
    | int b => exact ⟨.int b, S, by unfold m__law_copied; rw [mDef_ap]; simp, .refl _ _, .int _⟩
    | str b => exact ⟨.str b, S, by unfold m__law_copied; rw [mDef_ap]; simp, .refl _ _, .str _⟩
    | @tup ds ps r1 =>
      have hd : dpPs ps ≤ n := by simp only [dpP] at h; omega
      simp only [wdP, Bool.and_eq_true, decide_eq_true_eq] at hw
      obtain ⟨acc, S', k1, k2, k3⟩ := copied_all (it := itOf ds) ih r1 hd hw.2 hp hw.1 (fun i S' _ => rfl) (.tup ds)
      refine ⟨.tup acc, S' ++ [.lst acc], ?_, k2.trans (.push _ _ _), .tup (k3.fr (.push none_ _ _) fun _ _ h => ⟨h, id⟩)⟩
      unfold m__law_copied
      rw [mDef_ap]
      simp [k1, tupleD_ref (push_at S' (.lst acc))]
    | @lst j ds ps h1 h2 r1 =>
      have hd : dpPs ps ≤ n := by simp only [dpP] at h; omega
      simp only [wdP, Bool.and_eq_true, decide_eq_true_eq] at hw
      obtain ⟨acc, S', k1, k2, k3⟩ := copied_all (it := itRef j) ih r1 hd hw.2 hp hw.1 (fun i S' f => itRef_at (f.get h2 id) i) (.ref j)
      have h2' : (S' ++ [MO.lst acc])[j]? = some (.lst ds) := (k2.trans (.push _ _ _)).get h2 id
      refine ⟨.ref S'.length, S' ++ [.lst acc], ?_, k2.trans (.push _ _ _), .lst k2.len (push_at _ _) (k3.fr (.push none_ _ _) fun _ _ h => ⟨h, id⟩)⟩
      unfold m__law_copied
      rw [mDef_ap]
      simp [tyN_lst h2, itD_ref h2, k1, tyN_lst h2']
    | @dic j kvs kps h1 h2 r1 =>
      cases r1 with
      | cons _ _ => simp [plP] at hp
      | nil =>
        have hj := lt_of_get h2
        have e1 : (S.set j (.lK []))[j]? = some (.lK []) := set_at h2
        have e2 : (S.set j (.lK []) ++ [MO.lst []])[j]? = some (.lK []) := by rw [List.getElem?_append_left (by simpa using hj)]; exact e1
        have e3 : ((S.set j (.lK []) ++ [MO.lst []]).set j (.dK []))[S.length]? = some (.lst []) := by
          rw [set_ne (by omega)]
          have := push_at (S.set j (.lK [])) (.lst [])
          simpa using this
        have e4 : dictD [.ref S.length] ((S.set j (.lK []) ++ [MO.lst []]).set j (.dK [])) = .ok (.ref (S.length + 1)) ((S.set j (.lK []) ++ [MO.lst []]).set j (.dK []) ++ [.dK []]) := by
          unfold dictD
          simp only [e3, pairsK]
          simp [mergeD]
        refine ⟨.ref (S.length + 1), (S.set j (.lK []) ++ [MO.lst []]).set j (.dK []) ++ [.dK []], ?_, ⟨by simp; omega, fun i hi _ => ?_⟩, .dic (by show S.length ≤ S.length + 1; omega) ?_ .nil⟩
        · unfold m__law_copied
          rw [mDef_ap]
          have e5 : ∀ (g : MG) (t : MT) (f : ME) (e0 : Slots) (S : Sto), lcF (itOf (keysD [])) g t f e0 big 0 S [] = .ok [] S := fun _ _ _ _ _ => lcF_nil rfl
          simp [tyN_dK h2, mLockE, h2, lockO, keysIt, e1, e5, unlockS, e2, openO, e4]
        · rw [List.getElem?_append_left (by simp; omega)]
          by_cases hij : j = i
          · subst hij
            rw [set_at e2, h2]
          · rw [set_ne hij, List.getElem?_append_left (by simpa using hi), set_ne hij]
        · have := push_at ((S.set j (.lK []) ++ [MO.lst []]).set j (.dK [])) (.dK [])
          simpa using this
end H

set_option Elab.async false
set_option linter.all false
set_option maxRecDepth 100000
set_option maxHeartbeats 1000000
namespace H
open PySem PySem.Spec PyProof.Rows L2 Mi
open SX (S)
/-! ### rows of signs, scanned -/
def lets : List Nat := "abcdefghijklmnopqrstuvwxyz".toList.map Char.toNat
def digs : List Nat := "0123456789".toList.map Char.toNat
def sgs : List Nat := "()[]:".toList.map Char.toNat
theorem lets_S : Str.ofString "abcdefghijklmnopqrstuvwxyz" = S lets := ofS _
theorem digs_S : Str.ofString "0123456789" = S digs := ofS _
theorem sgs_S : Str.ofString "()[]:" = S sgs := ofS _
theorem sp_S : Str.ofString " " = S [32] := ofS _
theorem hash_S : Str.ofString "#" = S [35] := ofS _
theorem nl_S : Str.ofString "\n" = S [10] := ofS _
/-- how many signs of l, from its head on, are of sg -/
def runL (sg : List Nat) (l : List Nat) : Nat := (l.takeWhile (fun c => decide (c ∈ sg))).length
theorem runL_le (sg l : List Nat) : runL sg l ≤ l.length := by
  unfold runL
  exact (List.takeWhile_prefix _).length_le
theorem runL_nil (sg : List Nat) : runL sg [] = 0 := rfl
theorem runL_in {sg : List Nat} {c : Nat} (r : List Nat) (h : c ∈ sg) : runL sg (c :: r) = runL sg r + 1 := by
  unfold runL
  rw [List.takeWhile_cons, if_pos (by simpa using h)]
  rfl
theorem runL_out {sg : List Nat} {c : Nat} (r : List Nat) (h : c ∉ sg) : runL sg (c :: r) = 0 := by
  unfold runL
  rw [List.takeWhile_cons, if_neg (by simpa using h)]
  rfl
theorem drop_cons {l : List Nat} {q c : Nat} (h : l[q]? = some c) : l.drop q = c :: l.drop (q + 1) := by
  obtain ⟨h1, h2⟩ := List.getElem?_eq_some_iff.mp h
  rw [List.drop_eq_getElem_cons h1, h2]
theorem run_end_ok (l sg : List Nat) (p : Nat) (hp : p ≤ l.length) (hl : l.length < 100000) (T : Sto) : m_run_end [.str (S l), .int p, .str (S sg)] T = .ok (.int ((p + runL sg (l.drop p) : Nat) : Int)) T := by
  unfold m_run_end
  rw [mDef_ap]
  simp only [mSeq_ap, mAsg_ap, mVar_ap, List.map_cons, List.map_nil, List.cons_append, List.nil_append, List.getElem?_cons_zero, List.getElem?_cons_succ, List.length_cons, List.length_nil, R.thn_ok, setG_gN, RS.thn_nx, mWhile_ap]
  refine while_rule (fun k e T' => ∃ q : Nat, e = [some (.str (S l)), some (.int p), some (.str (S sg)), some (.int q)] ∧ T' = T ∧ q ≤ l.length ∧ p + runL sg (l.drop p) = q + runL sg (l.drop q) ∧ k = l.length - q)
    (fun r => (r.thn (mRet (mVar 3))).out = .ok (.int ((p + runL sg (l.drop p) : Nat) : Int)) T) ?_ big (l.length - p) _ _ (by show _ < 100000; omega) ⟨p, rfl, rfl, hp, rfl, rfl⟩
  rintro k e T' ⟨q, rfl, rfl, hq, hr, rfl⟩
  by_cases hlt : q < l.length
  · have hc : l[q]? = some l[q] := List.getElem?_eq_getElem hlt
    generalize l[q] = c at hc
    have hd := drop_cons hc
    by_cases hm : c ∈ sg
    · right
      refine ⟨T', ?_, ?_⟩
      · simp [hlt, ixD_S hc, inD_S, hm]
      · simp only [mAsg_ap, mBin_ap, mVar_ap, mC_ap, List.getElem?_cons_zero, List.getElem?_cons_succ, R.bind_ok, addD_int, R.thn_ok, setG_gN, aft_nx]
        refine ⟨l.length - (q + 1), by omega, q + 1, rfl, trivial, hlt, ?_, rfl⟩
        rw [hr, hd, runL_in _ hm]
        omega
    · left
      refine ⟨T', ?_, ?_⟩
      · simp [hlt, ixD_S hc, inD_S, hm]
      · rw [hr, hd, runL_out _ hm]
        simp
  · left
    have : q = l.length := by omega
    subst this
    refine ⟨T', ?_, ?_⟩
    · simp
    · rw [hr, List.drop_length, runL_nil]
      simp
theorem law_run_ok (l sg : List Nat) (p : Nat) (hp : p ≤ l.length) (hl : l.length < 100000) (T : Sto) : m__law_run [.str (S l), .int p, .str (S sg)] T = .ok (.int (runL sg (l.drop p) : Nat)) T := by
  unfold m__law_run
  show (mSeq _ _ [some _, some _, some _, none, none] _).out = _
  simp only [mSeq_ap, mAsg_ap, mC_ap, List.map_cons, List.map_nil, List.cons_append, List.nil_append, List.set_cons_succ, List.set_cons_zero, List.getElem?_cons_zero, List.getElem?_cons_succ, List.length_cons, List.length_nil, R.thn_ok, R.bind_ok, setG_gN, RS.thn_nx, mFor_ap, mIt_ap, mSl_ap, mVar_ap, mSome_ap, mNone_ap, slD_str, cutFrom l hp, itD_S]
  refine for_rule (ds := (l.drop p).map fun c => D.str (S [c])) (fun i e T' => T' = T ∧ (∃ o, e = [some (.str (S l)), some (.int p), some (.str (S sg)), some (.int i), o]) ∧ runL sg (l.drop p) = i + runL sg ((l.drop p).drop i))
    (fun r => (r.thn (mRet (mVar 3))).out = .ok (.int (runL sg (l.drop p) : Nat)) T) (fun i e T' _ => rfl) ?_ ?_ (by simp; show _ < 100000; omega) ⟨rfl, ⟨none, rfl⟩, by simp⟩
  · rintro i d hd e T' ⟨rfl, ⟨o, rfl⟩, hr⟩
    rw [List.getElem?_map] at hd
    obtain ⟨c, hc, rfl⟩ := Option.map_eq_some_iff.mp hd
    have hdr := drop_cons hc
    refine ⟨_, rfl, ?_⟩
    by_cases hm : c ∈ sg
    · simp [notInD_S, hm]
      rw [hr, hdr, runL_in _ hm]
      simp
      omega
    · simp [notInD_S, hm]
      rw [hr, hdr, runL_out _ hm]
      simp
  · rintro e T' ⟨rfl, ⟨o, rfl⟩, hr⟩
    rw [hr, List.length_map, List.drop_length, runL_nil]
    simp
end H

set_option Elab.async false
set_option linter.all false
set_option maxRecDepth 100000
set_option maxHeartbeats 1000000
namespace H
open PySem PySem.Spec PyProof.Rows L2 Mi
open SX (S)
inductive Tk where
  | word (w : List Nat) (p : Nat) | num (w : List Nat) (p : Nat) | sign (c : Nat) (p : Nat)
def numV (w : List Nat) : Int := (intText? (S w)).getD 0
def tkD : Tk → D
  | .word w p => .tup [.str "word", .str (S w), .int p]
  | .num w p => .tup [.str "number", .int (numV w), .int p]
  | .sign c p => .tup [.str "sign", .str (S [c]), .int p]
def tkP : Tk → PyData
  | .word w p => .tuple [.str "word", .str (S w), .int p]
  | .num w p => .tuple [.str "number", .int (numV w), .int p]
  | .sign c p => .tuple [.str "sign", .str (S [c]), .int p]
def bD : Option Nat → D
  | none => .non
  | some p => .int p
def sc : Nat → List Nat → Nat → List Tk × Option Nat
  | _, [], _ => ([], none)
  | k + 1, _ :: r, p => sc k r (p + 1)
  | 0, c :: r, p =>
    if c ∈ lets then (.word ((c :: r).take (runL lets r + 1)) p :: (sc (runL lets r) r (p + 1)).1, (sc (runL lets r) r (p + 1)).2)
    else if c ∈ digs then (.num ((c :: r).take (runL digs r + 1)) p :: (sc (runL digs r) r (p + 1)).1, (sc (runL digs r) r (p + 1)).2)
    else if c ∈ sgs then (.sign c p :: (sc 0 r (p + 1)).1, (sc 0 r (p + 1)).2)
    else if c ≠ 32 then ([], some p)
    else sc 0 r (p + 1)
theorem sc_skip : ∀ (k : Nat) (l : List Nat) (p : Nat), k ≤ l.length → sc k l p = sc 0 (l.drop k) (p + k)
  | 0, l, p, _ => by simp
  | k + 1, [], p, h => by simp at h
  | k + 1, c :: r, p, h => by
    show sc k r (p + 1) = _
    rw [sc_skip k r (p + 1) (by simpa using h), List.drop_succ_cons]
    congr 1
    omega
theorem take_run {sg : List Nat} {c : Nat} (r : List Nat) (h : c ∈ sg) : ∀ x ∈ (c :: r).take (runL sg r + 1), x ∈ sg := by
  intro x hx
  have e : (c :: r).take (runL sg r + 1) = (c :: r).takeWhile (fun c => decide (c ∈ sg)) := by
    rw [List.prefix_iff_eq_take.mp (List.takeWhile_prefix (l := c :: r) (fun c => decide (c ∈ sg)))]
    congr 1
    exact (runL_in r h).symm
  rw [e] at hx
  simpa using List.all_eq_true.mp (List.all_takeWhile (l := c :: r) (p := fun c => decide (c ∈ sg))) x hx
theorem digs_lt : ∀ x ∈ digs, 48 ≤ x ∧ x ≤ 57 := by decide
theorem int_num {c : Nat} (r : List Nat) (h : c ∈ digs) (hl : (c :: r).length ≤ 640) (T : Sto) : Mi.intD [.str (S ((c :: r).take (runL digs r + 1)))] T = .ok (.int (numV ((c :: r).take (runL digs r + 1)))) T := by
  have hlen : ((c :: r).take (runL digs r + 1)).length ≤ 640 := Nat.le_trans (List.length_take_le' ..) hl
  have e : intText? (S ((c :: r).take (runL digs r + 1))) = some ((NumText.digitsVal ((c :: r).take (runL digs r + 1)) : Nat) : Int) := SX.int_S (List.all_eq_true.mpr fun x hx => by
    have := digs_lt x (take_run r h x hx)
    simp [this.1, this.2]) (by simp) (by omega)
  show (match intText? (S ((c :: r).take (runL digs r + 1))) with
    | some n => if (S ((c :: r).take (runL digs r + 1))).length ≤ 640 then R.ok (D.int n) T else .no
    | none => .no) = _
  unfold numV
  rw [e]
  simp only [len_S, if_pos hlen, Option.getD_some]
def RtI (l : List Nat) (T : Sto) (k : Nat) (e : Slots) (T' : Sto) : Prop := ∃ (q : Nat) (acc : List Tk) (o : Option D), e = [some (.str (S l)), some (.ref T.length), some (.int q), o] ∧ T' = T ++ [.lst (acc.map tkD)] ∧ q ≤ l.length ∧ acc.length ≤ q ∧ sc 0 l 0 = (acc ++ (sc 0 (l.drop q) q).1, (sc 0 (l.drop q) q).2) ∧ k = l.length - q
theorem row_tokens_ok (l : List Nat) (hl : l.length ≤ 640) (T : Sto) : m_row_tokens [.str (S l)] T = .ok (.tup [.ref T.length, bD (sc 0 l 0).2]) (T ++ [.lst ((sc 0 l 0).1.map tkD)]) := by
  unfold m_row_tokens
  show (mSeq _ _ [some _, none, none, none] _).out = _
  simp only [mSeq_ap, mPar_ap, mCons_ap, mNil_ap, mLst_ap, mC_ap, R.bind_ok, R.thn_ok, List.set_cons_succ, List.set_cons_zero, RS.thn_nx, mWhile_ap]
  refine while_rule (RtI l T)
    (fun r => (r.thn (mRet (mTup (mCons (mVar 1) (mCons (mC .non) mNil))))).out = .ok (.tup [.ref T.length, bD (sc 0 l 0).2]) (T ++ [.lst ((sc 0 l 0).1.map tkD)])) ?_ big l.length _ _ (by show _ < 100000; omega) ⟨0, [], none, rfl, rfl, Nat.zero_le _, Nat.le_refl _, by simp, rfl⟩
  rintro k e T' ⟨q, acc, o, rfl, rfl, hq, ha, hs, rfl⟩
  by_cases hlt : q < l.length
  · right
    have hc : l[q]? = some l[q] := List.getElem?_eq_getElem hlt
    generalize l[q] = c at hc
    have hd := drop_cons hc
    have hat : (T ++ [MO.lst (acc.map tkD)])[T.length]? = some (.lst (acc.map tkD)) := push_at _ _
    have hset : ∀ x : D, (T ++ [MO.lst (acc.map tkD)]).set T.length (.lst (acc.map tkD ++ [x])) = T ++ [MO.lst (acc.map tkD ++ [x])] := fun x => by simp
    have hlim : (acc.map tkD).length < lim := by rw [List.length_map]; show _ < 1000000; omega
    refine ⟨T ++ [MO.lst (acc.map tkD)], by simp [hlt], ?_⟩
    simp only [mSeq_ap, mAsg_ap, mBin_ap, mVar_ap, mC_ap, List.getElem?_cons_zero, List.getElem?_cons_succ, R.bind_ok, R.thn_ok, addD_int, setG_gN, List.set_cons_succ, List.set_cons_zero, RS.thn_nx, mIfS_ap, mTst_ap, ixD_S hc, lets_S, digs_S, sgs_S, sp_S, inD_S]
    have hdl : (l.drop (q + 1)).length = l.length - (q + 1) := List.length_drop
    by_cases h1 : c ∈ lets
    · have hr := runL_in (l.drop (q + 1)) h1
      have hrl := runL_le lets (l.drop (q + 1))
      have e1 := run_end_ok l lets q hq (by omega) (T ++ [MO.lst (acc.map tkD)])
      rw [hd, hr] at e1
      have e2 : cutS (S l) (some (q : Int)) (some ((q + (runL lets (l.drop (q + 1)) + 1) : Nat) : Int)) = S ((c :: l.drop (q + 1)).take (runL lets (l.drop (q + 1)) + 1)) := by
        rw [cut2 l (by omega) (by omega), hd]
        congr 2
        omega
      push_cast at e1 e2
      simp only [List.take_succ_cons] at e2
      simp [h1, e1, e2, appendD_ok hat (by simpa using hlim), isTy_lst hat]
      refine ⟨l.length - (q + (runL lets (l.drop (q + 1)) + 1)), by omega, q + (runL lets (l.drop (q + 1)) + 1), acc ++ [.word ((c :: l.drop (q + 1)).take (runL lets (l.drop (q + 1)) + 1)) q], _, by simp; rfl, by simp [tkD], by omega, by simp; omega, ?_, rfl⟩
      rw [hs, hd]
      simp only [sc, if_pos h1]
      rw [sc_skip _ _ _ hrl]
      simp
      have e3 : q + 1 + runL lets (l.drop (q + 1)) = q + (runL lets (l.drop (q + 1)) + 1) := by omega
      rw [e3]
      simp
    · by_cases h2 : c ∈ digs
      · have hr := runL_in (l.drop (q + 1)) h2
        have hrl := runL_le digs (l.drop (q + 1))
        have e1 := run_end_ok l digs q hq (by omega) (T ++ [MO.lst (acc.map tkD)])
        rw [hd, hr] at e1
        have e2 : cutS (S l) (some (q : Int)) (some ((q + (runL digs (l.drop (q + 1)) + 1) : Nat) : Int)) = S ((c :: l.drop (q + 1)).take (runL digs (l.drop (q + 1)) + 1)) := by
          rw [cut2 l (by omega) (by omega), hd]
          congr 2
          omega
        have e4 := int_num (l.drop (q + 1)) h2 (by simp; omega) (T ++ [MO.lst (acc.map tkD)])
        push_cast at e1 e2
        simp only [List.take_succ_cons] at e2 e4
        simp [h1, h2, e1, e2, e4, appendD_ok hat (by simpa using hlim), isTy_lst hat]
        refine ⟨l.length - (q + (runL digs (l.drop (q + 1)) + 1)), by omega, q + (runL digs (l.drop (q + 1)) + 1), acc ++ [.num ((c :: l.drop (q + 1)).take (runL digs (l.drop (q + 1)) + 1)) q], _, by simp; rfl, by simp [tkD], by omega, by simp; omega, ?_, rfl⟩
        rw [hs, hd]
        simp only [sc, if_neg h1, if_pos h2]
        rw [sc_skip _ _ _ hrl]
        have e3 : q + 1 + runL digs (l.drop (q + 1)) = q + (runL digs (l.drop (q + 1)) + 1) := by omega
        simp
        rw [e3]
        simp
      · by_cases h3 : c ∈ sgs
        · simp [h1, h2, h3, ixD_S hc, appendD_ok hat (by simpa using hlim), isTy_lst hat]
          refine ⟨l.length - (q + 1), by omega, q + 1, acc ++ [.sign c q], _, by simp; rfl, by simp [tkD], by omega, by simp; omega, ?_, rfl⟩
          rw [hs, hd]
          simp only [sc, if_neg h1, if_neg h2, if_pos h3]
          simp
        · by_cases h4 : c = 32
          · subst h4
            simp [h1, h2, h3]
            refine ⟨l.length - (q + 1), by omega, q + 1, acc, _, by simp; rfl, rfl, by omega, by omega, ?_, rfl⟩
            rw [hs, hd]
            simp [sc, h1, h2, h3]
          · have h5 : (S [c] == S [32]) = false := by rw [beq_S]; simpa using h4
            simp [h1, h2, h3, h5]
            rw [hs, hd]
            simp [sc, h1, h2, h3, h4, bD]
  · left
    have : q = l.length := by omega
    subst this
    refine ⟨T ++ [MO.lst (acc.map tkD)], by simp, ?_⟩
    rw [hs, List.drop_length]
    simp [sc, bD]
end H

set_option Elab.async false
set_option linter.all false
set_option maxRecDepth 100000
set_option maxHeartbeats 1000000
namespace H
open PySem PySem.Spec PyProof.Rows L2 Mi
open SX (S)
def cutH (l : List Nat) : List Nat := l.takeWhile (fun x => decide (x ≠ 35))
theorem cutH_len (l : List Nat) : (cutH l).length ≤ l.length := (List.takeWhile_prefix _).length_le
theorem cutH_take (l : List Nat) : l.take (cutH l).length = cutH l := (List.prefix_iff_eq_take.mp (List.takeWhile_prefix _)).symm
theorem cutH_no {l : List Nat} (h : 35 ∉ l) : cutH l = l := by
  unfold cutH
  induction l with
  | nil => rfl
  | cons a m ih =>
    rw [List.mem_cons, not_or] at h
    rw [List.takeWhile_cons, if_pos (by simpa using fun z : a = 35 => h.1 z.symm), ih h.2]
def LrI (l : List Nat) (T : Sto) (i : Nat) (e : Slots) (T' : Sto) : Prop := ∃ (acc : List Tk) (k : Nat) (a b c d : Option D), e = [some (.str (S l)), some (.ref T.length), some (.int k), a, b, c, d] ∧ T' = T ++ [.lst (acc.map tkD)] ∧ i ≤ l.length ∧ k ≤ l.length - i ∧ acc.length ≤ i ∧ sc 0 l 0 = (acc ++ (sc k (l.drop i) i).1, (sc k (l.drop i) i).2)
theorem getD_at {l : List Nat} {i c : Nat} (h : l[i]? = some c) : l.getD i 0 = c := by simp [List.getD, h]
theorem law_row_tokens_ok (l : List Nat) (hl : l.length ≤ 640) (T : Sto) : m__law_row_tokens [.str (S l)] T = .ok (.tup [.ref T.length, bD (sc 0 (cutH l) 0).2, .int (cutH l).length]) (T ++ [.lst ((sc 0 (cutH l) 0).1.map tkD)]) := by
  unfold m__law_row_tokens
  show (mSeq _ _ [some _, none, none, none, none, none, none] _).out = _
  have e0 : mIf (mTst (mBin inD (mC (.str "#")) (mVar 0))) (mSl (mVar 0) mNone (mSome (mMeth "str" indexD (mVar 0) (mCons (mC (.str "#")) mNil)))) (mVar 0) [some (.str (S l)), none, none, none, none, none, none] T = .ok (.str (S (cutH l))) T := by
    by_cases h : 35 ∈ l
    · have e1 : indexD (.str (S l)) [.str (S [35])] T = .ok (.int ((cutH l).length : Nat)) T := by
        show (match Txt.index0 (S l) (S [35]) with
          | some k => R.ok (D.int (k : Nat)) T
          | none => .no) = _
        rw [indexS h]
        rfl
      simp only [mIf_ap, mTst_ap, mBin_ap, mC_ap, mVar_ap, List.getElem?_cons_zero, R.bind_ok, hash_S, inD_S, h, decide_true, if_pos, mSl_ap, mNone_ap, mSome_ap, mMeth_ap, isTy_str, mCons_ap, mNil_ap, e1, slD_str]
      rw [cutTo l (cutH_len l), cutH_take]
    · simp only [mIf_ap, mTst_ap, mBin_ap, mC_ap, mVar_ap, List.getElem?_cons_zero, R.bind_ok, hash_S, inD_S, h, decide_false, if_neg (show ¬ (false = true) by decide)]
      rw [cutH_no h]
  have hc := cutH_len l
  generalize cutH l = m at e0 hc ⊢
  simp only [mSeq_ap, mPar3_ap, mCons_ap, mNil_ap, mLst_ap, mC_ap, e0, R.bind_ok, R.thn_ok, List.set_cons_succ, List.set_cons_zero, RS.thn_nx, mFor_ap, mItA_ap, mVar_ap, List.getElem?_cons_zero, enumAD_S]
  refine for_rule (ds := (List.range m.length).map fun k => D.tup [.int (k : Nat), .str (S [m.getD k 0])]) (LrI m T)
    (fun r => (r.thn (mRet (mTup (mCons (mVar 1) (mCons (mC .non) (mCons (mCall lenD (mCons (mVar 0) mNil)) mNil)))))).out = .ok (.tup [.ref T.length, bD (sc 0 m 0).2, .int m.length]) (T ++ [.lst ((sc 0 m 0).1.map tkD)]))
    (fun i e T' ⟨_, _, _, _, _, _, _, _, hi, _⟩ => enumS_at m i T' hi) ?_ ?_ (by simp; show _ < 100000; omega) ⟨[], 0, none, none, none, none, rfl, rfl, Nat.zero_le _, Nat.zero_le _, Nat.le_refl _, by simp⟩
  · rintro i d hd e T' ⟨acc, k, o1, o2, o3, o4, rfl, rfl, hi, hk, ha, hs⟩
    rw [List.getElem?_map] at hd
    obtain ⟨j, hj, rfl⟩ := Option.map_eq_some_iff.mp hd
    have hil : i < m.length := by
      have := (List.getElem?_eq_some_iff.mp hj).1
      simpa using this
    rw [List.getElem?_range hil] at hj
    cases hj
    have hc2 : m[i]? = some m[i] := List.getElem?_eq_getElem hil
    generalize m[i] = c at hc2
    rw [getD_at hc2]
    have hdr := drop_cons hc2
    have hat : (T ++ [MO.lst (acc.map tkD)])[T.length]? = some (.lst (acc.map tkD)) := push_at _ _
    have hlim : (acc.map tkD).length < lim := by rw [List.length_map]; show _ < 1000000; omega
    refine ⟨_, rfl, ?_⟩
    have r1 := law_run_ok m lets i (by omega) (by omega) (T ++ [MO.lst (acc.map tkD)])
    have r2 := law_run_ok m digs i (by omega) (by omega) (T ++ [MO.lst (acc.map tkD)])
    have hdl : (m.drop (i + 1)).length = m.length - (i + 1) := List.length_drop
    simp only [mSeq_ap, mAsg_ap, mCall_ap, mCons_ap, mNil_ap, mVar_ap, mC_ap, List.getElem?_cons_zero, List.getElem?_cons_succ, R.bind_ok, R.thn_ok, setG_gN, List.set_cons_succ, List.set_cons_zero, RS.thn_nx, lets_S, digs_S, sgs_S, sp_S, r1, r2, mIfS_ap, mTst_ap, mBin_ap, gtD_int, inD_S, hdr]
    cases k with
    | succ k =>
      have h0 : (0 : Int) < ((k + 1 : Nat) : Int) := by omega
      simp [h0]
      refine ⟨acc, k, _, _, _, _, by simp; exact ⟨rfl, rfl, rfl, rfl⟩, rfl, by omega, by omega, by omega, ?_⟩
      rw [hs, hdr]
      rfl
    | zero =>
      by_cases h1 : c ∈ lets
      · have hr := runL_in (m.drop (i + 1)) h1
        have hrl := runL_le lets (m.drop (i + 1))
        have e2 : cutS (S m) (some (i : Int)) (some ((i : Int) + ((runL lets (m.drop (i + 1)) + 1 : Nat) : Int))) = S ((c :: m.drop (i + 1)).take (runL lets (m.drop (i + 1)) + 1)) := by
          have := cut2 m (i := i) (j := i + (runL lets (m.drop (i + 1)) + 1)) (by omega) (by omega)
          rw [hdr] at this
          push_cast at this ⊢
          rw [this]
          congr 2
          omega
        have h0 : (0 : Int) < (runL lets (m.drop (i + 1)) : Int) + 1 := by omega
        push_cast at e2
        simp only [List.take_succ_cons] at e2
        simp [hr, h0, e2, appendD_ok hat (by simpa using hlim), isTy_lst hat]
        refine ⟨acc ++ [.word ((c :: m.drop (i + 1)).take (runL lets (m.drop (i + 1)) + 1)) i], runL lets (m.drop (i + 1)), _, _, _, _, by simp; exact ⟨rfl, rfl, rfl, rfl⟩, by simp [tkD], by omega, by omega, by simp; omega, ?_⟩
        rw [hs, hdr]
        simp [sc, h1]
      · have hr := runL_out (m.drop (i + 1)) h1
        by_cases h2 : c ∈ digs
        · have hr2 := runL_in (m.drop (i + 1)) h2
          have hrl := runL_le digs (m.drop (i + 1))
          have e2 : cutS (S m) (some (i : Int)) (some ((i : Int) + ((runL digs (m.drop (i + 1)) + 1 : Nat) : Int))) = S ((c :: m.drop (i + 1)).take (runL digs (m.drop (i + 1)) + 1)) := by
            have := cut2 m (i := i) (j := i + (runL digs (m.drop (i + 1)) + 1)) (by omega) (by omega)
            rw [hdr] at this
            push_cast at this ⊢
            rw [this]
            congr 2
            omega
          have h0 : (0 : Int) < (runL digs (m.drop (i + 1)) : Int) + 1 := by omega
          have e4 := int_num (m.drop (i + 1)) h2 (by simp; omega) (T ++ [MO.lst (acc.map tkD)])
          push_cast at e2
          simp only [List.take_succ_cons] at e2 e4
          simp [hr, hr2, h0, e2, e4, appendD_ok hat (by simpa using hlim), isTy_lst hat]
          refine ⟨acc ++ [.num ((c :: m.drop (i + 1)).take (runL digs (m.drop (i + 1)) + 1)) i], runL digs (m.drop (i + 1)), _, _, _, _, by simp; exact ⟨rfl, rfl, rfl, rfl⟩, by simp [tkD], by omega, by omega, by simp; omega, ?_⟩
          rw [hs, hdr]
          simp [sc, h1, h2]
        · have hr2 := runL_out (m.drop (i + 1)) h2
          by_cases h3 : c ∈ sgs
          · simp [hr, hr2, h3, appendD_ok hat (by simpa using hlim), isTy_lst hat]
            refine ⟨acc ++ [.sign c i], 0, _, _, _, _, by simp; exact ⟨rfl, rfl, rfl, rfl⟩, by simp [tkD], by omega, by omega, by simp; omega, ?_⟩
            rw [hs, hdr]
            simp [sc, h1, h2, h3]
          · by_cases h4 : c = 32
            · subst h4
              simp [hr, hr2, h3]
              refine ⟨acc, 0, _, _, _, _, by simp; exact ⟨rfl, rfl, rfl, rfl⟩, rfl, by omega, by omega, by omega, ?_⟩
              rw [hs, hdr]
              simp [sc, h1, h2, h3]
            · have h5 : (S [c] == S [32]) = false := by rw [beq_S]; simpa using h4
              simp [hr, hr2, h3, h5]
              rw [hs, hdr]
              simp [sc, h1, h2, h3, h4, bD]
  · rintro e T' ⟨acc, k, o1, o2, o3, o4, rfl, rfl, hi, hk, ha, hs⟩
    simp only [List.length_map, List.length_range] at hs hk
    rw [hs, List.drop_length]
    have : k = 0 := by omega
    subst this
    simp [sc, bD]
end H

set_option Elab.async false
set_option linter.all false
set_option maxRecDepth 100000
set_option maxHeartbeats 1000000
namespace H
open PySem PySem.Spec PyProof.Rows L2 Mi
open SX (S)
theorem check_str (x : Str) (T : Sto) : m_check_text [.str x] T = .ok .non T := by
  unfold m_check_text
  rw [mDef_ap]
  simp
/-- the lines of a text -/
def linesL (tl : List Nat) : List (List Nat) := TL.spl [10] 0 [] tl
theorem linesL_ok {tl r : List Nat} (h : okL tl) (hr : r ∈ linesL tl) : okL r := by
  refine ⟨fun c hc => ?_, ?_⟩
  · rcases spl_mem _ _ _ _ _ hr c hc with z | z
    · cases z
    · exact h.1 c z
  · have := spl_lenL _ _ _ _ _ hr
    have := h.2
    simp at *
    omega
theorem rows_ok (tl : List Nat) (h : okL tl) (hn : (linesL tl).length < 100000) (T : Sto) : ∃ j T', m_rows_of_text [.str (S tl)] T = .ok (.ref j) T' ∧ Mi.Fr none_ T T' ∧ T.length ≤ j ∧ T'[j]? = some (.lst ((linesL tl).map fun r => .str (S (cutH r)))) := by
  unfold m_rows_of_text
  have e1 := splD_S h (c := 10) (by decide) T
  have hat : (T ++ [MO.lst ((linesL tl).map fun x => D.str (S x))])[T.length]? = some (.lst ((linesL tl).map fun x => D.str (S x))) := push_at _ _
  have step : ∀ (i : Nat) (d : D), ((linesL tl).map fun x => D.str (S x))[i]? = some d → ∀ (acc : List D) (T1 : Sto), (Mi.Fr none_ (T ++ [MO.lst ((linesL tl).map fun x => D.str (S x))]) T1 ∧ acc = ((linesL tl).take i).map fun r => D.str (S (cutH r))) →
      ∃ e1, gN 1 d [some (.str (S tl)), none] T1 = some e1 ∧ ∃ b T2, mTrue e1 T1 = .ok b T2 ∧ if b = true then ∃ w T3, mBin ixD (mMeth "str" splD (mVar 1) (mCons (mC (.str "#")) mNil)) (mC (.int 0)) e1 T2 = .ok w T3 ∧ (Mi.Fr none_ (T ++ [MO.lst ((linesL tl).map fun x => D.str (S x))]) T3 ∧ acc ++ [w] = ((linesL tl).take (i + 1)).map fun r => D.str (S (cutH r)))
        else (Mi.Fr none_ (T ++ [MO.lst ((linesL tl).map fun x => D.str (S x))]) T2 ∧ acc = ((linesL tl).take (i + 1)).map fun r => D.str (S (cutH r))) := by
    rintro i d hd acc T1 ⟨f1, rfl⟩
    rw [List.getElem?_map] at hd
    obtain ⟨r, hr, rfl⟩ := Option.map_eq_some_iff.mp hd
    have e2 := splD_S (linesL_ok h (List.mem_of_getElem? hr)) (c := 35) (by decide) T1
    obtain ⟨q, e3⟩ := spl_first r 35
    rw [e3] at e2
    refine ⟨_, rfl, true, T1, rfl, ?_⟩
    rw [if_pos rfl]
    refine ⟨.str (S (cutH r)), T1 ++ [.lst ((cutH r :: q).map fun x => D.str (S x))], ?_, f1.trans (.push _ _ _), ?_⟩
    · have e4 := ixD_lst (i := 0) (push_at T1 (.lst ((cutH r :: q).map fun x => D.str (S x)))) (d := .str (S (cutH r))) (by show L2.atI _ ((0 : Nat) : Int) = _; rw [atI_n]; rfl)
      simp only [mBin_ap, mMeth_ap, mVar_ap, mCons_ap, mNil_ap, mC_ap, List.set_cons_succ, List.set_cons_zero, List.getElem?_cons_succ, List.getElem?_cons_zero, R.bind_ok, isTy_str, if_pos, hash_S, e2]
      exact e4
    · rw [List.take_add_one, hr]
      simp
  obtain ⟨acc, T', h1, h2, h3⟩ := lc_rule (it := itRef T.length) (fun i acc T1 => Mi.Fr none_ (T ++ [MO.lst ((linesL tl).map fun x => D.str (S x))]) T1 ∧ acc = ((linesL tl).take i).map fun r => D.str (S (cutH r))) (fun i acc T1 hh => itRef_at (hh.1.get hat id) i) step (by rw [List.length_map]; exact hn) ⟨.refl _ _, rfl⟩
  simp only [List.length_map, List.take_length] at h3
  subst h3
  have f0 : Mi.Fr none_ T T' := (Mi.Fr.push none_ T _).trans h2
  refine ⟨T'.length, T' ++ [.lst ((linesL tl).map fun r => D.str (S (cutH r)))], ?_, f0.trans (.push _ _ _), f0.len, push_at _ _⟩
  show (mRet _ [some _, none] _).out = _
  simp only [mRet_ap, mLC_ap, mIt_ap, mMeth_ap, mVar_ap, mCons_ap, mNil_ap, mC_ap, List.getElem?_cons_zero, R.bind_ok, isTy_str, if_pos, nl_S]
  rw [e1]
  simp only [R.bind_ok, itD_ref hat, wipeM_cons, wipeM_nil, List.set_cons_succ, List.set_cons_zero]
  have e5 : itD (.ref T.length) (T ++ [MO.lst ((TL.spl [10] 0 [] tl).map fun x => D.str (S x))]) = .ok (itRef T.length) (T ++ [MO.lst ((TL.spl [10] 0 [] tl).map fun x => D.str (S x))]) := itD_ref hat
  rw [e5]
  simp only [R.bind_ok]
  have h1' := h1
  unfold linesL at h1'
  rw [h1']
  rfl
/-- the first line that cannot be read, and its place -/
def fb : List (List Nat) → Nat → Option (Nat × Nat)
  | [], _ => none
  | r :: rs, i => match (sc 0 (cutH r) 0).2 with
    | some p => some (i, p)
    | none => fb rs (i + 1)
abbrev toksOf (r : List Nat) : List Tk := (sc 0 (cutH r) 0).1
/-- a list at n of lists at rs: the lines' tokens -/
structure Lay (T : Sto) (n : Nat) (rs : List Nat) (rows : List (List Nat)) : Prop where
  top : T[n]? = some (.lst (rs.map D.ref))
  nd : rs.Nodup
  gt : ∀ r ∈ rs, n < r
  len : rs.length = rows.length
  at_ : ∀ (k r : Nat) (row : List Nat), rs[k]? = some r → rows[k]? = some row → T[r]? = some (.lst ((toksOf row).map tkD))
def TkI (tl : List Nat) (rows : List (List Nat)) (T T1 : Sto) (i : Nat) (e : Slots) (T' : Sto) : Prop := ∃ (rs : List Nat) (a b c d : Option D), e = [some (.str (S tl)), some (.ref T.length), a, b, c, d] ∧ Mi.Fr (fun x => x = T.length) T1 T' ∧ T'[T.length]? = some (.lst (rs.map D.ref)) ∧ rs.Nodup ∧ (∀ r ∈ rs, T.length < r ∧ r < T'.length) ∧ rs.length = i ∧ (∀ (k r : Nat) (row : List Nat), rs[k]? = some r → rows[k]? = some row → T'[r]? = some (.lst ((toksOf row).map tkD))) ∧ fb rows 0 = fb (rows.drop i) i
theorem tokens_ok (tl : List Nat) (h : okL tl) (hn : (linesL tl).length < 1000) (hr : ∀ r ∈ linesL tl, r.length ≤ 640) (T : Sto) :
    match fb (linesL tl) 0 with
    | some (i, p) => ∃ T', m_tokens [.str (S tl)] T = .exc "Unread" "at" (.tup [.int i, .int p]) T' ∧ Mi.Fr none_ T T'
    | none => ∃ T' rs, m_tokens [.str (S tl)] T = .ok (.ref T.length) T' ∧ Mi.Fr none_ T T' ∧ Lay T' T.length rs (linesL tl) := by
  obtain ⟨j, T1, e1, f1, hj, a1⟩ := rows_ok tl h (by omega) (T ++ [.lst []])
  have hj' : T.length < j := by simp at hj; omega
  have n1 : T1[T.length]? = some (.lst []) := f1.get (push_at T _) id
  generalize hrows : linesL tl = rows at *
  unfold m_tokens
  show match fb rows 0 with
    | some (i, p) => ∃ T', (mSeq _ _ [some _, none, none, none, none, none] _).out = .exc "Unread" "at" (.tup [.int i, .int p]) T' ∧ Mi.Fr none_ T T'
    | none => ∃ T' rs, (mSeq _ _ [some _, none, none, none, none, none] _).out = .ok (.ref T.length) T' ∧ Mi.Fr none_ T T' ∧ Lay T' T.length rs rows
  simp only [mSeq_ap, mExpr_ap, mCall_ap, mCons_ap, mNil_ap, mVar_ap, List.getElem?_cons_zero, R.bind_ok, check_str, R.thn_ok, RS.thn_nx, mAsg_ap, mLst_ap, setG_gN, List.set_cons_succ, List.set_cons_zero, mFor_ap, mItA_ap, e1, enumAD_ref a1]
  refine for_rule (ds := enumTs (rows.map fun r => D.str (S (cutH r)))) (TkI tl rows T T1)
    (fun r => match fb rows 0 with
    | some (i, p) => ∃ T', (r.thn (mRet (mVar 1))).out = .exc "Unread" "at" (.tup [.int i, .int p]) T' ∧ Mi.Fr none_ T T'
    | none => ∃ T' rs, (r.thn (mRet (mVar 1))).out = .ok (.ref T.length) T' ∧ Mi.Fr none_ T T' ∧ Lay T' T.length rs rows) (fun i e T' ⟨_, _, _, _, _, _, f, _⟩ => itEnum_at (f.get a1 (by omega)) i) ?_ ?_ (by rw [enumTs_len]; simp; show _ < 100000; omega)
    ⟨[], none, none, none, none, rfl, .refl _ _, n1, .nil, by simp, rfl, by simp, rfl⟩
  · rintro i d hd e T' ⟨rs, o1, o2, o3, o4, rfl, f, t1, nd, gt, hlen, hat, hfb⟩
    rw [enumTs_at, List.getElem?_map] at hd
    obtain ⟨d', hd', rfl⟩ := Option.map_eq_some_iff.mp hd
    obtain ⟨r, hri, rfl⟩ := Option.map_eq_some_iff.mp hd'
    have hrm := hr r (List.mem_of_getElem? hri)
    have e2 := row_tokens_ok (cutH r) (Nat.le_trans (cutH_len r) hrm) T'
    refine ⟨_, rfl, ?_⟩
    have hdr : rows.drop i = r :: rows.drop (i + 1) := by
      obtain ⟨q1, q2⟩ := List.getElem?_eq_some_iff.mp hri
      rw [List.drop_eq_getElem_cons q1, q2]
    have fT : Mi.Fr none_ T T' := ⟨by have := f.len; have := f1.len; simp at this; omega, fun x hx _ => by
      have z1 : T1[x]? = T[x]? := by
        rw [f1.at_ x (by simp; omega) id, List.getElem?_append_left hx]
      rw [f.at_ x (by have := f1.len; simp at this; omega) (by omega), z1]⟩
    cases hb : (sc 0 (cutH r) 0).2 with
    | some p =>
      have e3 : fb rows 0 = some (i, p) := by
        rw [hfb, hdr]
        unfold fb
        rw [hb]
      rw [e3]
      rw [hb] at e2
      simp only [bD] at e2
      simp [e2, setG]
      exact fT.trans (.push _ _ _)
    | none =>
      have e3 : fb rows 0 = fb (rows.drop (i + 1)) (i + 1) := by
        rw [hfb, hdr]
        conv => lhs; unfold fb
        rw [hb]
      rw [hb] at e2
      simp only [bD] at e2
      have t2 : (T' ++ [MO.lst ((toksOf r).map tkD)])[T.length]? = some (.lst (rs.map D.ref)) := (Mi.Fr.push none_ T' _).get t1 id
      have hl3 : (rs.map D.ref).length < lim := by
        have : i < rows.length := (List.getElem?_eq_some_iff.mp hri).1
        simp only [List.length_map, hlen]
        show i < 1000000
        omega
      simp [e2, setG, isTy_lst t2, appendD_ok t2 hl3]
      have hnt : T'.length ≠ T.length := by have := lt_of_get t1; omega
      refine ⟨rs ++ [T'.length], _, _, _, _, by simp; exact ⟨rfl, rfl, rfl, rfl⟩, (f.trans (.push _ _ _)).trans (.set _ _ rfl), by rw [set_at t2]; simp, ?_, ?_, by simp [hlen], ?_, e3⟩
      · rw [List.nodup_append]
        refine ⟨nd, by simp, fun a ha b hb => ?_⟩
        rw [List.mem_singleton.mp hb]
        exact Nat.ne_of_lt (gt a ha).2
      · intro x hx
        rcases List.mem_append.mp hx with z | z
        · have := gt x z
          simp
          omega
        · rw [List.mem_singleton.mp z]
          have := lt_of_get t1
          simp
          omega
      · intro k x row hk hrow
        have hx : T.length ≠ x := by
          intro z
          subst z
          rcases List.mem_append.mp (List.mem_of_getElem? hk) with z | z
          · exact Nat.lt_irrefl _ (gt _ z).1
          · exact hnt (List.mem_singleton.mp z).symm
        rw [set_ne hx]
        by_cases hki : k < rs.length
        · rw [List.getElem?_append_left hki] at hk
          have hxm := List.mem_of_getElem? hk
          rw [List.getElem?_append_left (gt x hxm).2]
          exact hat k x row hk hrow
        · have hk2 : k = i := by
            have := (List.getElem?_eq_some_iff.mp hk).1
            simp at this
            omega
          subst hk2
          rw [List.getElem?_append_right (by omega)] at hk
          have : x = T'.length := by
            rw [hlen] at hk
            simpa using hk.symm
          subst this
          rw [hri] at hrow
          cases hrow
          exact push_at _ _
  · rintro e T' ⟨rs, o1, o2, o3, o4, rfl, f, t1, nd, gt, hlen, hat, hfb⟩
    rw [enumTs_len, List.length_map] at hlen hfb
    rw [List.drop_length] at hfb
    have e3 : fb rows 0 = none := hfb
    rw [e3]
    refine ⟨T', rs, by simp, ⟨by have := f.len; have := f1.len; simp at this; omega, fun x hx _ => ?_⟩, ⟨t1, nd, fun r hr => (gt r hr).1, hlen, hat⟩⟩
    rw [f.at_ x (by have := f1.len; simp at this; omega) (by omega), f1.at_ x (by simp; omega) id, List.getElem?_append_left hx]
end H

set_option Elab.async false
set_option linter.all false
set_option maxRecDepth 100000
set_option maxHeartbeats 1000000
namespace H
open PySem PySem.Spec PyProof.Rows L2 Mi
open SX (S)
/-- a text of few signs, none of them a line's end -/
def gdL (l : List Nat) : Prop := ∀ c ∈ l, c < 128 ∧ c ≠ 10
def gdB (n : Nat) : D → Bool
  | .str x => x.cps.toList.all (fun c => decide (c < 128) && decide (c ≠ 10)) && decide (x.cps.toList.length ≤ n)
  | _ => false
theorem gdB_ok {n : Nat} {d : D} (h : gdB n d = true) : ∃ l, d = .str (S l) ∧ gdL l ∧ l.length ≤ n := by
  cases d with
  | str x =>
    simp only [gdB, Bool.and_eq_true, List.all_eq_true, decide_eq_true_eq] at h
    exact ⟨x.cps.toList, by rw [← str_S], h.1, h.2⟩
  | _ => simp [gdB] at h
theorem gdL_app {a b : List Nat} (h : gdL a) (k : gdL b) : gdL (a ++ b) := fun c hc => (List.mem_append.mp hc).elim (h c) (k c)
theorem gdL_take {a : List Nat} (h : gdL a) (n : Nat) : gdL (a.take n) := fun c hc => h c (List.mem_of_mem_take hc)
theorem gdL_drop {a : List Nat} (h : gdL a) (n : Nat) : gdL (a.drop n) := fun c hc => h c (List.mem_of_mem_drop hc)
theorem gd_all {n : Nat} {ds : List D} (h : ds.all (gdB n) = true) {d : D} (hd : d ∈ ds) : ∃ l, d = .str (S l) ∧ gdL l ∧ l.length ≤ n := gdB_ok (List.all_eq_true.mp h d hd)
theorem listAD_str (x : Str) (T : Sto) : listAD [.str x] T = .ok (.ref T.length) (T ++ [.lst (x.cps.toList.map fun c => .str (sign1 c))]) := rfl
/-- some + list(x) + [..], and a pick of it -/
theorem pick3_ok {T : Sto} {s l b j : Nat} {as bs : List D} {x : Str} {e : Slots} {f : ME} {ms : MA} (h : Strm T s l b) (hb : b < 2 ^ 40) (hs : e[0]? = some (some (.ref s))) (hf : f e T = .ok (.ref j) T) (hj : T[j]? = some (.lst as))
    (hm : ∀ T' : Sto, ms e T' = .ok bs T') {n : Nat} (hg : (as ++ x.cps.toList.map (fun c => D.str (sign1 c)) ++ bs).all (gdB n) = true) (hne : bs ≠ []) (hl : as.length + x.cps.toList.length + bs.length ≤ 1000) (hsl : s < T.length ∧ l < T.length) :
    ∃ (r : List Nat) (T' : Sto), mCall m__law_pick (mCons (mVar 0) (mCons (mBin addD (mBin addD f (mCall listAD (mCons (mC (.str x)) mNil))) (mLst ms)) mNil)) e T = .ok (.str (S r)) T' ∧ gdL r ∧ r.length ≤ n ∧ Strm T' s l (b + 1) ∧ Mi.Fr (two s l) T T' := by
  have hll : lim = 1000000 := rfl
  have hl2 : as.length + x.cps.size + bs.length ≤ 1000 := by simpa using hl
  have b1 := push_at T (.lst (x.cps.toList.map fun c => D.str (sign1 c)))
  have a1 := (Mi.Fr.push none_ T (.lst (x.cps.toList.map fun c => D.str (sign1 c)))).get hj id
  generalize hT1 : T ++ [MO.lst (x.cps.toList.map fun c => D.str (sign1 c))] = T1 at a1 b1
  have f1 : Mi.Fr none_ T T1 := by rw [← hT1]; exact .push _ _ _
  have l1 : T1.length = T.length + 1 := by rw [← hT1]; simp
  have e1 := addD_lst a1 b1 (by simp; omega)
  have a2 := push_at T1 (.lst (as ++ x.cps.toList.map fun c => D.str (sign1 c)))
  generalize hT2 : T1 ++ [MO.lst (as ++ x.cps.toList.map fun c => D.str (sign1 c))] = T2 at a2 e1
  have f2 : Mi.Fr none_ T T2 := by rw [← hT2]; exact f1.trans (.push _ _ _)
  have l2 : T2.length = T1.length + 1 := by rw [← hT2]; simp
  have b3 := push_at T2 (.lst bs)
  have a3 := (Mi.Fr.push none_ T2 (.lst bs)).get a2 id
  generalize hT3 : T2 ++ [MO.lst bs] = T3 at a3 b3
  have f3 : Mi.Fr none_ T T3 := by rw [← hT3]; exact f2.trans (.push _ _ _)
  have l3 : T3.length = T2.length + 1 := by rw [← hT3]; simp
  have e3 := addD_lst a3 b3 (by simp; omega)
  have a4 := push_at T3 (.lst (as ++ (x.cps.toList.map fun c => D.str (sign1 c)) ++ bs))
  generalize hT4 : T3 ++ [MO.lst (as ++ (x.cps.toList.map fun c => D.str (sign1 c)) ++ bs)] = T4 at a4 e3
  have f4 : Mi.Fr none_ T T4 := by rw [← hT4]; exact f3.trans (.push _ _ _)
  obtain ⟨d, T', e5, hd, st, fr⟩ := pick_ok (h.fr f4 id id) hb a4 (by simp [hne]) (by simp; omega) (by omega) (by omega)
  obtain ⟨r, rfl, g1, g2⟩ := gd_all hg hd
  refine ⟨r, T', ?_, g1, g2, st, (f4.weak fun _ _ z => z.elim).trans fr⟩
  simp only [mCall_ap, mCons_ap, mNil_ap, mVar_ap, hs, R.bind_ok, mBin_ap, hf, mC_ap, listAD_str, hT1, e1, mLst_ap, hm, hT3, e3, e5]
theorem pick2_ok {T : Sto} {s l b : Nat} {bs : List D} {x : Str} {e : Slots} {ms : MA} (h : Strm T s l b) (hb : b < 2 ^ 40) (hs : e[0]? = some (some (.ref s)))
    (hm : ∀ T' : Sto, ms e T' = .ok bs T') {n : Nat} (hg : (x.cps.toList.map (fun c => D.str (sign1 c)) ++ bs).all (gdB n) = true) (hne : bs ≠ []) (hl : x.cps.toList.length + bs.length ≤ 1000) (hsl : s < T.length ∧ l < T.length) :
    ∃ (r : List Nat) (T' : Sto), mCall m__law_pick (mCons (mVar 0) (mCons (mBin addD (mCall listAD (mCons (mC (.str x)) mNil)) (mLst ms)) mNil)) e T = .ok (.str (S r)) T' ∧ gdL r ∧ r.length ≤ n ∧ Strm T' s l (b + 1) ∧ Mi.Fr (two s l) T T' := by
  have hll : lim = 1000000 := rfl
  have hl2 : x.cps.size + bs.length ≤ 1000 := by simpa using hl
  have b1 := push_at T (.lst (x.cps.toList.map fun c => D.str (sign1 c)))
  generalize hT1 : T ++ [MO.lst (x.cps.toList.map fun c => D.str (sign1 c))] = T1 at b1
  have f1 : Mi.Fr none_ T T1 := by rw [← hT1]; exact .push _ _ _
  have l1 : T1.length = T.length + 1 := by rw [← hT1]; simp
  have b3 := push_at T1 (.lst bs)
  have a3 := (Mi.Fr.push none_ T1 (.lst bs)).get b1 id
  generalize hT3 : T1 ++ [MO.lst bs] = T3 at a3 b3
  have f3 : Mi.Fr none_ T T3 := by rw [← hT3]; exact f1.trans (.push _ _ _)
  have l3 : T3.length = T1.length + 1 := by rw [← hT3]; simp
  have e3 := addD_lst a3 b3 (by simp; omega)
  have a4 := push_at T3 (.lst ((x.cps.toList.map fun c => D.str (sign1 c)) ++ bs))
  generalize hT4 : T3 ++ [MO.lst ((x.cps.toList.map fun c => D.str (sign1 c)) ++ bs)] = T4 at a4 e3
  have f4 : Mi.Fr none_ T T4 := by rw [← hT4]; exact f3.trans (.push _ _ _)
  obtain ⟨d, T', e5, hd, st, fr⟩ := pick_ok (h.fr f4 id id) hb a4 (by simp [hne]) (by simp; omega) (by omega) (by omega)
  obtain ⟨r, rfl, g1, g2⟩ := gd_all hg hd
  refine ⟨r, T', ?_, g1, g2, st, (f4.weak fun _ _ z => z.elim).trans fr⟩
  simp only [mCall_ap, mCons_ap, mNil_ap, mVar_ap, hs, R.bind_ok, mBin_ap, mC_ap, listAD_str, hT1, mLst_ap, hm, hT3, e3, e5]
theorem pick1_ok {T : Sto} {s l b : Nat} {bs : List D} {e : Slots} {ms : MA} {i : Nat} (h : Strm T s l b) (hb : b < 2 ^ 40) (hs : e[i]? = some (some (.ref s)))
    (hm : ms e T = .ok bs T) (hne : bs ≠ []) (hl : bs.length ≤ 1000) (hsl : s < T.length ∧ l < T.length) :
    ∃ (d : D) (T' : Sto), mCall m__law_pick (mCons (mVar i) (mCons (mLst ms) mNil)) e T = .ok d T' ∧ d ∈ bs ∧ Strm T' s l (b + 1) ∧ Mi.Fr (two s l) T T' := by
  have b1 := push_at T (.lst bs)
  have f1 : Mi.Fr none_ T (T ++ [.lst bs]) := .push _ _ _
  obtain ⟨d, T', e5, hd, st, fr⟩ := pick_ok (h.fr f1 id id) hb b1 hne (by omega) (by omega) (by omega)
  refine ⟨d, T', ?_, hd, st, (f1.weak fun _ _ z => z.elim).trans fr⟩
  simp only [mCall_ap, mCons_ap, mNil_ap, mVar_ap, hs, R.bind_ok, mLst_ap, hm, e5]
def pcs : List D := [.str "kind", .str "rule", .str "net", .str "a", .str "zero", .str "longword", .str "x", .str "0", .str "7", .str "0012", .str "999999"]
def DrI (T : Sto) (s l b : Nat) (i : Nat) (e : Slots) (T' : Sto) : Prop := ∃ (r : List Nat) (b' : Nat) (o : Option D), e = [some (.ref s), some (.str (S r)), some (.ref T.length), o, none, none] ∧ gdL r ∧ r.length ≤ 8 * i ∧ i ≤ 8 ∧ Strm T' s l b' ∧ b' ≤ b + 1 + i ∧ Mi.Fr (two s l) T T' ∧ T'[T.length]? = some (.lst pcs)
theorem x1 : (pcs ++ ("()[]:" : Str).cps.toList.map (fun c => D.str (sign1 c)) ++ ([.str " ", .str "  ", .str " ", .str " "] : List D)).all (gdB 8) = true := by decide +kernel
theorem x2 : pcs.length + ("()[]:" : Str).cps.toList.length + ([.str " ", .str "  ", .str " ", .str " "] : List D).length ≤ 1000 := by decide +kernel
theorem thn_ok2 {α : Type} (a : α) (T : Sto) (e : Slots) (k : α → Sto → RS) : (R.ok a T).thn e k = k a T := (rfl)
theorem x7 : (("@-,A_'+;{}~Z." : Str).cps.toList.map (fun c => D.str (sign1 c)) ++ ([.str "\t"] : List D)).all (gdB 1) = true := by decide +kernel
theorem x8 : ("@-,A_'+;{}~Z." : Str).cps.toList.length + ([.str "\t"] : List D).length ≤ 1000 := by decide +kernel
theorem x9 : ([.str "# no @ sign ( 12", .str "#", .str "#a#b"] : List D).all (gdB 20) = true := by decide +kernel
theorem lt40 {b : Nat} (h : b < 1000000000) : b < 2 ^ 40 := Nat.lt_trans h (by decide)
theorem x3 : Str.ofString "" = S [] := ofS _
theorem x4 {s : Nat} {T : Sto} : (mCons (mC (.str "")) (mCons (mLst (mCons (mC (.str "kind")) (mCons (mC (.str "rule")) (mCons (mC (.str "net")) (mCons (mC (.str "a")) (mCons (mC (.str "zero")) (mCons (mC (.str "longword")) (mCons (mC (.str "x")) (mCons (mC (.str "0")) (mCons (mC (.str "7")) (mCons (mC (.str "0012")) (mCons (mC (.str "999999")) mNil)))))))))))) mNil)) [some (.ref s), none, none, none, none, none] T = .ok [.str (S []), .ref T.length] (T ++ [.lst pcs]) := by rw [← x3]; rfl
theorem drawn_row_ok {T : Sto} {s l b : Nat} (h : Strm T s l b) (hb : b < 100000000) (hsl : s < T.length ∧ l < T.length) :
    ∃ (r : List Nat) (T' : Sto) (b' : Nat), m__law_drawn_row [.ref s] T = .ok (.str (S r)) T' ∧ gdL r ∧ r.length ≤ 120 ∧ Strm T' s l b' ∧ b' ≤ b + 20 ∧ Mi.Fr (two s l) T T' := by
  have f0 : Mi.Fr none_ T (T ++ [.lst pcs]) := .push _ _ _
  have a0 := push_at T (.lst pcs)
  have l0 : (T ++ [MO.lst pcs]).length = T.length + 1 := by simp
  obtain ⟨k, T1, e1, k1, k2, st1, fr1⟩ := draw_ok (h.fr f0 id id) (lt40 (by omega)) (many := 9) (by decide) (by decide)
  have a1 := fr1.get a0 (by rintro (z | z) <;> omega)
  have F1 : Mi.Fr (two s l) T T1 := (f0.weak fun _ _ z => z.elim).trans fr1
  unfold m__law_drawn_row
  show ∃ (r : List Nat) (T' : Sto) (b' : Nat), (mSeq _ _ [some _, none, none, none, none, none] _).out = .ok (.str (S r)) T' ∧ _
  have hem : Str.ofString "" = S [] := ofS _
  have hk : 0 ≤ k ∧ k < 9 := ⟨k1, k2⟩
  obtain ⟨kn, rfl⟩ := Int.eq_ofNat_of_zero_le k1
  have e2 : rng1D [.int (kn : Int)] T1 = .ok (itRng 0 kn) T1 := rng1D_n (by omega)
  simp only [mSeq_ap, mPar_ap]
  rw [x4]
  simp only [mSeq_ap, R.thn_ok, List.set_cons_succ, List.set_cons_zero, RS.thn_nx, mFor_ap, mItA_ap, mCons_ap, mNil_ap, mCall_ap, mVar_ap, mC_ap, List.getElem?_cons_zero, R.bind_ok]
  rw [e1, R.bind_ok, R.bind_ok, e2, thn_ok2]
  refine for_rule (ds := (List.range kn).map fun k => D.int (0 + (k : Nat))) (DrI T s l b)
    (fun r0 => ∃ (r : List Nat) (T' : Sto) (b' : Nat), (r0.thn _).out = .ok (.str (S r)) T' ∧ gdL r ∧ r.length ≤ 120 ∧ Strm T' s l b' ∧ b' ≤ b + 20 ∧ Mi.Fr (two s l) T T') (fun i e T' _ => itRng_at 0 kn i T') ?_ ?_ (by simp; show _ < 100000; omega) ⟨[], b + 1, none, rfl, by intro c hc; simp at hc, by simp, by omega, st1, by omega, F1, a1⟩
  · rintro i d hd e T' ⟨r, b', o, rfl, g1, g2, hi8, st, hb', fr, ap⟩
    rw [List.getElem?_map] at hd
    obtain ⟨j, hj, rfl⟩ := Option.map_eq_some_iff.mp hd
    have hil : i < kn := by
      have := (List.getElem?_eq_some_iff.mp hj).1
      simpa using this
    refine ⟨_, rfl, ?_⟩
    obtain ⟨r2, T2, e3, q1, q2, q3, q4⟩ := pick3_ok (x := "()[]:") (bs := [.str " ", .str "  ", .str " ", .str " "]) (f := mVar 2) (ms := mCons (mC (.str " ")) (mCons (mC (.str "  ")) (mCons (mC (.str " ")) (mCons (mC (.str " ")) mNil)))) (e := [some (.ref s), some (.str (S r)), some (.ref T.length), some (D.int (0 + (j : Nat))), none, none]) st (lt40 (by omega)) rfl rfl ap (fun _ => rfl) (n := 8) x1 (by simp) x2 (by have := fr.len; omega)
    have hlen : (S r).length + (S r2).length ≤ lim := by rw [len_S, len_S]; show _ ≤ 1000000; omega
    simp only [mAsg_ap, mBin_ap, mVar_ap, List.set_cons_succ, List.set_cons_zero, List.getElem?_cons_succ, List.getElem?_cons_zero, R.bind_ok] at e3 ⊢
    rw [e3]
    simp only [R.bind_ok, addD_str hlen, R.thn_ok, setG_gN, List.set_cons_succ, List.set_cons_zero, aft_nx, app_S]
    exact ⟨r ++ r2, b' + 1, _, rfl, gdL_app g1 q1, by simp; omega, by omega, q3, by omega, fr.trans q4, q4.get ap (by rintro (z | z) <;> omega)⟩
  · rintro e T' ⟨r, b', o, rfl, g1, g2, hi8, st, hb', fr, ap⟩
    have hlT := fr.len
    have hkl : 8 * ((List.range kn).map fun k => D.int (0 + (k : Nat))).length ≤ 64 := by simp; omega
    have hr64 : r.length ≤ 64 := Nat.le_trans g2 hkl
    have hb9 : b' ≤ b + 9 := by simp at hb' hi8; omega
    clear g2 hkl hb' hi8 e2 e1 k1 k2 hk
    -- the odd sign
    obtain ⟨k5, T5, e5, q1, q2, st5, fr5⟩ := draw_ok st (lt40 (by omega)) (many := 5) (by decide) (by decide)
    have odd : ∃ (r2 : List Nat) (T2 : Sto) (b2 : Nat) (o1 o2 : Option D), mIfS (mTst (mBin eqD (mCall m__law_draw (mCons (mVar 0) (mCons (mC (.int 5)) (mNil)))) (mC (.int 0)))) (mSeq (mAsg (gN 4) (mCall m__law_draw (mCons (mVar 0) (mCons (mBin addD (mCall lenD (mCons (mVar 1) (mNil))) (mC (.int 1))) (mNil)))))
        (mSeq (mAsg (gN 5) (mCall m__law_pick (mCons (mVar 0) (mCons (mBin addD (mCall listAD (mCons (mC (.str "@-,A_'+;{}~Z.")) (mNil))) (mLst (mCons (mC (.str "\t")) (mNil)))) (mNil)))))
        (mAsg (gN 1) (mBin addD (mBin addD (mSl (mVar 1) (mNone) (mSome (mVar 4))) (mVar 5)) (mSl (mVar 1) (mSome (mVar 4)) (mNone)))))) (mSkip) [some (.ref s), some (.str (S r)), some (.ref T.length), o, none, none] T' = .go .nx [some (.ref s), some (.str (S r2)), some (.ref T.length), o, o1, o2] T2 ∧ gdL r2 ∧ r2.length ≤ 65 ∧ Strm T2 s l b2 ∧ b2 ≤ b + 12 ∧ Mi.Fr (two s l) T T2 := by
      simp only [mIfS_ap, mTst_ap, mBin_ap, mCall_ap, mCons_ap, mNil_ap, mVar_ap, mC_ap, List.getElem?_cons_zero, R.bind_ok]
      rw [e5]
      simp only [R.bind_ok, eqD_int, R.thn_ok]
      by_cases h5 : k5 = 0
      · rw [if_pos (by simpa using h5)]
        obtain ⟨k6, T6, e6, p1, p2, st6, fr6⟩ := draw_ok st5 (lt40 (by omega)) (many := ((S r).length : Int) + 1) (by omega) (by rw [len_S]; omega)
        obtain ⟨n, rfl⟩ := Int.eq_ofNat_of_zero_le p1
        have hn : n ≤ r.length := by rw [len_S] at p2; omega
        have F6 : Mi.Fr (two s l) T T6 := (fr.trans fr5).trans fr6
        have hl6 := F6.len
        obtain ⟨r7, T7, e7, g7, w7, st7, fr7⟩ := pick2_ok (x := "@-,A_'+;{}~Z.") (bs := [.str "\t"]) (ms := mCons (mC (.str "\t")) mNil) (e := [some (.ref s), some (.str (S r)), some (.ref T.length), o, some (.int (n : Nat)), none]) st6 (lt40 (by omega)) rfl (fun _ => rfl) (n := 1) x7 (by simp) x8 (by omega)
        refine ⟨r.take n ++ r7 ++ r.drop n, T7, b' + 1 + 1 + 1, some (.int (n : Nat)), some (.str (S r7)), ?_, gdL_app (gdL_app (gdL_take g1 n) g7) (gdL_drop g1 n), by simp; omega, st7, by omega, F6.trans fr7⟩
        simp only [mSeq_ap, mAsg_ap, mBin_ap, mCall_ap, mCons_ap, mNil_ap, mVar_ap, mC_ap, List.getElem?_cons_zero, List.getElem?_cons_succ, R.bind_ok, lenD_str, addD_int]
        rw [e6]
        simp only [R.thn_ok, setG_gN, RS.thn_nx, List.set_cons_succ, List.set_cons_zero, mSeq_ap, mAsg_ap]
        rw [e7]
        have c1 : cutS (S r) none (some (n : Int)) = S (r.take n) := cutTo r hn
        have c2 : cutS (S r) (some (n : Int)) none = S (r.drop n) := cutFrom r hn
        have s1 : (S (r.take n)).length + (S r7).length ≤ lim := by rw [len_S, len_S]; simp; show _ ≤ 1000000; omega
        have s2 : (S (r.take n ++ r7)).length + (S (r.drop n)).length ≤ lim := by rw [len_S, len_S]; simp; show _ ≤ 1000000; omega
        simp only [R.thn_ok, setG_gN, RS.thn_nx, List.set_cons_succ, List.set_cons_zero, mSeq_ap, mAsg_ap, mBin_ap, mSl_ap, mNone_ap, mSome_ap, mVar_ap, List.getElem?_cons_zero, List.getElem?_cons_succ, R.bind_ok, slD_str, c1, c2, addD_str s1, app_S, addD_str s2]
      · rw [if_neg (by simpa using h5)]
        exact ⟨r, T5, b' + 1, none, none, rfl, g1, by omega, st5, by omega, fr.trans fr5⟩
    obtain ⟨r2, T2, b2, o1, o2, e6, g2, w2, st2, hb2, F2⟩ := odd
    simp only [RS.thn_nx, mSeq_ap]
    rw [e6]
    have hl2 := F2.len
    obtain ⟨k8, T8, e8, p1, p2, st8, fr8⟩ := draw_ok st2 (lt40 (by omega)) (many := 4) (by decide) (by decide)
    have tail : ∃ (r3 : List Nat) (T3 : Sto) (b3 : Nat), mIf (mTst (mBin eqD (mCall m__law_draw (mCons (mVar 0) (mCons (mC (.int 4)) (mNil)))) (mC (.int 0)))) (mCall m__law_pick (mCons (mVar 0) (mCons (mLst (mCons (mC (.str "# no @ sign ( 12")) (mCons (mC (.str "#")) (mCons (mC (.str "#a#b")) (mNil))))) (mNil)))) (mC (.str "")) [some (.ref s), some (.str (S r2)), some (.ref T.length), o, o1, o2] T2 = .ok (.str (S r3)) T3 ∧ gdL r3 ∧ r3.length ≤ 20 ∧ Strm T3 s l b3 ∧ b3 ≤ b + 14 ∧ Mi.Fr (two s l) T T3 := by
      simp only [mIf_ap, mTst_ap, mBin_ap]
      rw [show mCall m__law_draw (mCons (mVar 0) (mCons (mC (.int 4)) mNil)) [some (.ref s), some (.str (S r2)), some (.ref T.length), o, o1, o2] T2 = .ok (.int k8) T8 by simp only [mCall_ap, mCons_ap, mNil_ap, mVar_ap, mC_ap, List.getElem?_cons_zero, R.bind_ok]; exact e8]
      simp only [R.bind_ok, mC_ap, eqD_int]
      by_cases h8 : k8 = 0
      · rw [if_pos (by simpa using h8)]
        obtain ⟨d, T9, e9, hd, st9, fr9⟩ := pick1_ok (bs := [.str "# no @ sign ( 12", .str "#", .str "#a#b"]) (ms := mCons (mC (.str "# no @ sign ( 12")) (mCons (mC (.str "#")) (mCons (mC (.str "#a#b")) (mNil)))) (e := [some (.ref s), some (.str (S r2)), some (.ref T.length), o, o1, o2]) (i := 0) st8 (lt40 (by omega)) rfl rfl (by simp) (by simp) (by have := fr8.len; omega)
        obtain ⟨r3, rfl, g3, w3⟩ := gd_all x9 hd
        exact ⟨r3, T9, _, e9, g3, w3, st9, by omega, (F2.trans fr8).trans fr9⟩
      · rw [if_neg (by simpa using h8)]
        exact ⟨[], T8, _, by rw [hem], by intro c hc; simp at hc, by simp, st8, by omega, F2.trans fr8⟩
    obtain ⟨r3, T3, b3, e10, g3, w3, st3, hb3, F3⟩ := tail
    have s3 : (S r2).length + (S r3).length ≤ lim := by rw [len_S, len_S]; show _ ≤ 1000000; omega
    refine ⟨r2 ++ r3, T3, b3, ?_, gdL_app g2 g3, by simp; omega, st3, by omega, F3⟩
    simp only [RS.thn_nx, mRet_ap, mBin_ap, mVar_ap, List.getElem?_cons_zero, List.getElem?_cons_succ, R.bind_ok]
    rw [e10]
    simp only [R.bind_ok, addD_str s3, app_S, R.thn_ok, out_rt]
end H

set_option Elab.async false
set_option linter.all false
set_option maxRecDepth 100000
set_option maxHeartbeats 1000000
namespace H
open PySem PySem.Spec PyProof.Rows L2 Mi
open SX (S)
theorem spoilt_sc {n : Nat} {d : D} {T : Sto} (h : (match d with | .str _ => true | .int _ => true | _ => false) = true) : m__law_spoilt (n + 1) [d] T = .ok .non T := by
  cases d with
  | str x => unfold m__law_spoilt; rw [mDef_ap]; simp
  | int x => unfold m__law_spoilt; rw [mDef_ap]; simp
  | _ => simp at h
theorem spoilt_tk (n : Nat) (t : Tk) (T : Sto) : m__law_spoilt (n + 2) [tkD t] T = .ok .non T := by
  have key : ∀ ds : List D, ds.length = 3 → (∀ d ∈ ds, (match d with | .str _ => true | .int _ => true | _ => false) = true) → m__law_spoilt (n + 2) [.tup ds] T = .ok .non T := by
    intro ds hl hs
    unfold m__law_spoilt
    show (mSeq _ _ [some _, none, none] _).out = _
    simp only [mSeq_ap, mIfS_ap, mTst_ap, mCall_ap, mCons_ap, mNil_ap, mVar_ap, mC_ap, List.getElem?_cons_zero, R.bind_ok, isiD_one, tyN_tup, Option.bind_some, subN_tuple_dict, thn_ok2, if_neg (show ¬ (false = true) by decide), mSkip_ap, RS.thn_nx, mTup_ap, isiD_two, anyN_cons, subN_tuple_list, subN_tuple_tuple, if_pos, mFor_ap, mIt_ap, itD_tup]
    refine for_rule (ds := ds) (fun i e T' => T' = T ∧ ∃ o, e = [some (.tup ds), none, o]) (fun r => (r.thn _).out = .ok .non T) (fun i e T' _ => rfl) ?_ ?_ (by rw [hl]; decide) ⟨rfl, none, rfl⟩
    · rintro i d hd e T' ⟨rfl, o, rfl⟩
      refine ⟨_, rfl, ?_⟩
      have := spoilt_sc (n := n) (T := T') (hs d (List.mem_of_getElem? hd))
      simp [this]
    · rintro e T' ⟨rfl, o, rfl⟩
      simp
  cases t with
  | word w p => exact key _ rfl (by simp)
  | num w p => exact key _ rfl (by simp)
  | sign w p => exact key _ rfl (by simp)
theorem spoilt_ls {n : Nat} {r : Nat} {ts : List Tk} {T : Sto} (h : T[r]? = some (.lst (ts.map tkD))) (hl : ts.length < 1000) : ∃ o, m__law_spoilt (n + 3) [.ref r] T = .ok .non (T.set r o) := by
  refine ⟨.lst (ts.map tkD ++ [.str "late"]), ?_⟩
  unfold m__law_spoilt
  show (mSeq _ _ [some _, none, none] _).out = _
  simp only [mSeq_ap, mIfS_ap, mTst_ap, mCall_ap, mCons_ap, mNil_ap, mVar_ap, mC_ap, List.getElem?_cons_zero, R.bind_ok, isiD_one, tyN_lst h, Option.bind_some, subN_list_dict, thn_ok2, if_neg (show ¬ (false = true) by decide), mSkip_ap, RS.thn_nx, mTup_ap, isiD_two, anyN_cons, subN_list_list, subN_list_tuple, if_pos, mFor_ap, mIt_ap, itD_ref h]
  refine for_rule (it := itRef r) (ds := ts.map tkD) (fun i e T' => T' = T ∧ ∃ o, e = [some (.ref r), none, o]) (fun q => (q.thn _).out = .ok .non (T.set r (.lst (ts.map tkD ++ [.str "late"])))) (fun i e T' ⟨z, _⟩ => by subst z; exact itRef_at h i) ?_ ?_ (by simp; show _ < 100000; omega) ⟨rfl, none, rfl⟩
  · rintro i d hd e T' ⟨rfl, o, rfl⟩
    refine ⟨_, rfl, ?_⟩
    rw [List.getElem?_map] at hd
    obtain ⟨t, ht, rfl⟩ := Option.map_eq_some_iff.mp hd
    have := spoilt_tk n t T'
    simp [this]
  · rintro e T' ⟨rfl, o, rfl⟩
    have hl2 : (ts.map tkD).length < lim := by simp; show _ < 1000000; omega
    simp [tyN_lst h, isTy_lst h, appendD_ok h hl2]
theorem spoilt_ok {n : Nat} {j : Nat} {rs : List Nat} {rows : List (List Nat)} {T : Sto} (h : Lay T j rs rows) (hl : rows.length < 1000) (ht : ∀ r ∈ rows, (toksOf r).length < 1000) : ∃ T', m__law_spoilt (n + 4) [.ref j] T = .ok .non T' ∧ Mi.Fr (fun i => i = j ∨ i ∈ rs) T T' := by
  have htop := h.top
  have hlen := h.len
  unfold m__law_spoilt
  show ∃ T', (mSeq _ _ [some _, none, none] _).out = .ok .non T' ∧ _
  simp only [mSeq_ap, mIfS_ap, mTst_ap, mCall_ap, mCons_ap, mNil_ap, mVar_ap, mC_ap, List.getElem?_cons_zero, R.bind_ok, isiD_one, tyN_lst htop, Option.bind_some, subN_list_dict, thn_ok2, if_neg (show ¬ (false = true) by decide), mSkip_ap, RS.thn_nx, mTup_ap, isiD_two, anyN_cons, subN_list_list, subN_list_tuple, if_pos, mFor_ap, mIt_ap, itD_ref htop]
  refine for_rule (ds := rs.map D.ref) (fun i e T' => (∃ o, e = [some (.ref j), none, o]) ∧ T'[j]? = some (.lst (rs.map D.ref)) ∧ Mi.Fr (fun i => i = j ∨ i ∈ rs) T T' ∧ ∀ (k r : Nat) (row : List Nat), i ≤ k → rs[k]? = some r → rows[k]? = some row → T'[r]? = some (.lst ((toksOf row).map tkD)))
    (fun q => ∃ T', (q.thn _).out = .ok .non T' ∧ Mi.Fr (fun i => i = j ∨ i ∈ rs) T T') (fun i e T' z => itRef_at z.2.1 i) ?_ ?_ (by simp; show _ < 100000; omega) ⟨⟨none, rfl⟩, htop, .refl _ _, fun k r row _ h1 h2 => h.at_ k r row h1 h2⟩
  · rintro i d hd e T' ⟨⟨o, rfl⟩, t1, fr, hat⟩
    rw [List.getElem?_map] at hd
    obtain ⟨r, hr, rfl⟩ := Option.map_eq_some_iff.mp hd
    have hi : i < rs.length := (List.getElem?_eq_some_iff.mp hr).1
    have hrow : rows[i]? = some rows[i] := List.getElem?_eq_getElem (by omega)
    obtain ⟨w, e1⟩ := spoilt_ls (n := n) (hat i r _ (Nat.le_refl _) hr hrow) (ht _ (List.getElem_mem _))
    have hrm := List.mem_of_getElem? hr
    have hrj : r ≠ j := Nat.ne_of_gt (h.gt r hrm)
    refine ⟨_, rfl, ?_⟩
    simp [e1]
    refine ⟨by rw [set_ne hrj]; exact t1, fr.trans (.set _ _ (.inr hrm)), fun k x row hk h1 h2 => ?_⟩
    have hx : r ≠ x := by
      intro z
      subst z
      have := (List.getElem?_inj hi h.nd).mp (hr.trans h1.symm)
      omega
    rw [set_ne hx]
    exact hat k x row (by omega) h1 h2
  · rintro e T' ⟨⟨o, rfl⟩, t1, fr, hat⟩
    have hl2 : (rs.map D.ref).length < lim := by simp; show _ < 1000000; omega
    refine ⟨T'.set j (.lst (rs.map D.ref ++ [.str "late"])), ?_, fr.trans (.set _ _ (.inl rfl))⟩
    simp [tyN_lst t1, isTy_lst t1, appendD_ok t1 hl2]
end H

set_option Elab.async false
set_option linter.all false
set_option maxRecDepth 100000
set_option maxHeartbeats 1000000
namespace H
open PySem PySem.Spec PyProof.Rows L2 Mi
open SX (S)
theorem met_told {g : Sto → R D} {T T' : Sto} {v : D} (h : g T = .ok v T') : m__law_met g T = .ok (.tup [.str "told", v]) T' := by
  unfold m__law_met metM
  rw [h]
theorem u_n : ¬ (("Unread" : Str) = "NoText") := by decide +kernel
theorem met_unread {g : Sto → R D} {T T' : Sto} {d : D} (h : g T = .exc "Unread" "at" d T') : m__law_met g T = .ok (.tup [.str "unread", d]) T' := by
  unfold m__law_met metM
  rw [h]
  simp [hdl, u_n, hfPair]
theorem met_text {g : Sto → R D} {T T' : Sto} {d : D} (h : g T = .exc "NoText" "text" d T') : m__law_met g T = .ok (.tup [.str "text", d]) T' := by
  unfold m__law_met metM
  rw [h]
  simp [hdl, hfPair]
/-- what tokens tells of lines, as data -/
def tolP (rows : List (List Nat)) : PyData := .list (rows.map fun r => .list ((toksOf r).map tkP))
def dueP (rows : List (List Nat)) : PyData := match fb rows 0 with
  | some (i, p) => .tuple [.str "unread", .tuple [.int i, .int p]]
  | none => .tuple [.str "told", tolP rows]
theorem tk_dn (P : Nat → Prop) (T : Sto) (t : Tk) : Dn P T (tkD t) (tkP t) := by
  cases t with
  | word w p => exact .tup (.cons (.str _) (.cons (.str _) (.cons (.int _) .nil)))
  | num w p => exact .tup (.cons (.str _) (.cons (.int _) (.cons (.int _) .nil)))
  | sign w p => exact .tup (.cons (.str _) (.cons (.str _) (.cons (.int _) .nil)))
theorem tks_dn (P : Nat → Prop) (T : Sto) : ∀ ts : List Tk, Dns P T (ts.map tkD) (ts.map tkP)
  | [] => .nil
  | t :: ts => .cons (tk_dn P T t) (tks_dn P T ts)
theorem refs_dn {P : Nat → Prop} {T : Sto} : ∀ {rs : List Nat} {rows : List (List Nat)}, rs.length = rows.length → (∀ r ∈ rs, P r) → (∀ (k r : Nat) (row : List Nat), rs[k]? = some r → rows[k]? = some row → T[r]? = some (.lst ((toksOf row).map tkD))) →
    Dns P T (rs.map D.ref) (rows.map fun r => .list ((toksOf r).map tkP))
  | [], [], _, _, _ => .nil
  | [], _ :: _, h, _, _ => by simp at h
  | _ :: _, [], h, _, _ => by simp at h
  | r :: rs, row :: rows, h, hp, ha => .cons (.lst (hp r List.mem_cons_self) (ha 0 r row rfl rfl) (tks_dn _ _ _)) (refs_dn (by simpa using h) (fun x hx => hp x (List.mem_cons_of_mem _ hx)) fun k x w h1 h2 => ha (k + 1) x w (by simpa using h1) (by simpa using h2))
theorem Lay.dn {T : Sto} {n : Nat} {rs : List Nat} {rows : List (List Nat)} (h : Lay T n rs rows) {P : Nat → Prop} (hn : P n) (hp : ∀ j, n ≤ j → P j) : Dn P T (.ref n) (tolP rows) :=
  .lst hn h.top (refs_dn h.len (fun r hr => hp r (Nat.le_of_lt (h.gt r hr))) h.at_)
/-- the text of lines -/
theorem lines_join {rows : List (List Nat)} (h : rows ≠ []) (hg : ∀ r ∈ rows, gdL r) : linesL (TL.joinL [10] rows) = rows :=
  TL.spl_join h fun r hr z => (hg r hr 10 z).2 rfl
theorem joinL_mem : ∀ (rows : List (List Nat)) (c : Nat), c ∈ TL.joinL [10] rows → c = 10 ∨ ∃ r ∈ rows, c ∈ r
  | [], c, h => by simp [TL.joinL] at h
  | [p], c, h => .inr ⟨p, by simp, by simpa [TL.joinL] using h⟩
  | p :: q :: r, c, h => by
    have h : c ∈ p ++ ([10] ++ TL.joinL [10] (q :: r)) := h
    rcases List.mem_append.mp h with h | h
    · exact .inr ⟨p, by simp, h⟩
    · rcases List.mem_append.mp h with h | h
      · exact .inl (by simpa using h)
      · rcases joinL_mem (q :: r) c h with z | ⟨x, hx, hc⟩
        · exact .inl z
        · exact .inr ⟨x, List.mem_cons_of_mem _ hx, hc⟩
theorem joinL_len : ∀ (rows : List (List Nat)) (n : Nat), (∀ r ∈ rows, r.length ≤ n) → (TL.joinL [10] rows).length ≤ rows.length * (n + 1)
  | [], n, _ => by simp [TL.joinL]
  | [p], n, h => by have := h p (by simp); simp [TL.joinL]; omega
  | p :: q :: r, n, h => by
    have h1 := h p (by simp)
    have h2 := joinL_len (q :: r) n fun x hx => h x (List.mem_cons_of_mem _ hx)
    have : (TL.joinL [10] (p :: q :: r)).length = p.length + (1 + (TL.joinL [10] (q :: r)).length) := by
      show (p ++ ([10] ++ TL.joinL [10] (q :: r))).length = _
      simp
      omega
    rw [this]
    simp only [List.length_cons, Nat.add_mul, Nat.one_mul] at h2 ⊢
    omega
structure GdR (rows : List (List Nat)) : Prop where
  ne : rows ≠ []
  len : rows.length ≤ 5
  gd : ∀ r ∈ rows, gdL r
  sz : ∀ r ∈ rows, r.length ≤ 120
theorem GdR.okL {rows : List (List Nat)} (h : GdR rows) : okL (TL.joinL [10] rows) := by
  refine ⟨fun c hc => ?_, ?_⟩
  · rcases joinL_mem rows c hc with z | ⟨r, hr, z⟩
    · omega
    · have := (h.gd r hr c z).1
      omega
  · have h1 := joinL_len rows 120 h.sz
    have h2 := h.len
    have : rows.length * 121 ≤ 5 * 121 := Nat.mul_le_mul_right _ h2
    omega
theorem toks_len : ∀ (k : Nat) (l : List Nat) (p : Nat), (sc k l p).1.length ≤ l.length
  | _, [], _ => by simp [sc]
  | k + 1, c :: r, p => by
    have := toks_len k r (p + 1)
    show (sc k r (p + 1)).1.length ≤ _
    simp
    omega
  | 0, c :: r, p => by
    unfold sc
    split
    · have := toks_len (runL lets r) r (p + 1); simp; omega
    · split
      · have := toks_len (runL digs r) r (p + 1); simp; omega
      · split
        · have := toks_len 0 r (p + 1); simp; omega
        · split
          · simp
          · have := toks_len 0 r (p + 1); simp; omega
theorem GdR.tk {rows : List (List Nat)} (h : GdR rows) : ∀ r ∈ rows, (toksOf r).length < 1000 := fun r hr => by
  have h1 := toks_len 0 (cutH r) 0
  have h2 := cutH_len r
  have h3 := h.sz r hr
  show (sc 0 (cutH r) 0).1.length < 1000
  omega
/-- tokens of a drawn text, met -/
theorem met_ok {rows : List (List Nat)} (h : GdR rows) (T : Sto) {g : Sto → R D} (hg : g T = m_tokens [.str (S (TL.joinL [10] rows))] T) :
    ∃ d T', m__law_met g T = .ok d T' ∧ Mi.Fr none_ T T' ∧ Dn (from_ T.length) T' d (dueP rows) ∧ (fb rows 0 = none → d = .tup [.str "told", .ref T.length] ∧ ∃ rs, Lay T' T.length rs rows) := by
  have hl := lines_join h.ne h.gd
  have key := tokens_ok (TL.joinL [10] rows) h.okL (by rw [hl]; have := h.len; omega) (by rw [hl]; intro r hr; have := h.sz r hr; omega) T
  rw [hl] at key
  unfold dueP
  cases hf : fb rows 0 with
  | some ip =>
    obtain ⟨i, p⟩ := ip
    rw [hf] at key
    obtain ⟨T', e1, fr⟩ := key
    exact ⟨_, T', met_unread (hg.trans e1), fr, .tup (.cons (.str _) (.cons (.tup (.cons (.int _) (.cons (.int _) .nil))) .nil)), fun z => by cases z⟩
  | none =>
    rw [hf] at key
    obtain ⟨T', rs, e1, fr, lay⟩ := key
    exact ⟨_, T', met_told (hg.trans e1), fr, .tup (.cons (.str _) (.cons (lay.dn (Nat.le_refl _) fun j hj => hj) .nil)), fun _ => ⟨rfl, rs, lay⟩⟩
theorem tkP_dp (t : Tk) : dpP (tkP t) = 2 ∧ wdP (tkP t) = true := by cases t <;> exact ⟨rfl, rfl⟩
theorem tks_dp : ∀ ts : List Tk, dpPs (ts.map tkP) ≤ 2 ∧ wdPs (ts.map tkP) = true
  | [] => ⟨by simp [dpPs], rfl⟩
  | t :: ts => by
    obtain ⟨h1, h2⟩ := tkP_dp t
    obtain ⟨h3, h4⟩ := tks_dp ts
    exact ⟨by simp only [List.map_cons, dpPs]; omega, by simp only [List.map_cons, wdPs, h2, h4]; rfl⟩
theorem tol_dp {rows : List (List Nat)} (h : ∀ r ∈ rows, (toksOf r).length < 1000) : dpPs (rows.map fun r => PyData.list ((toksOf r).map tkP)) ≤ 3 ∧ wdPs (rows.map fun r => PyData.list ((toksOf r).map tkP)) = true := by
  induction rows with
  | nil => exact ⟨by simp [dpPs], rfl⟩
  | cons r rows ih =>
    obtain ⟨h1, h2⟩ := ih fun x hx => h x (List.mem_cons_of_mem _ hx)
    obtain ⟨h3, h4⟩ := tks_dp (toksOf r)
    have h5 := h r List.mem_cons_self
    refine ⟨by simp only [List.map_cons, dpPs, dpP]; omega, ?_⟩
    simp only [List.map_cons, wdPs, wdP, h2, h4, Bool.and_true, List.length_map, decide_eq_true_eq]
    omega
theorem due_dp {rows : List (List Nat)} (h : GdR rows) : dpP (dueP rows) ≤ 5 ∧ wdP (dueP rows) = true := by
  unfold dueP
  split
  · exact ⟨by simp [dpP, dpPs], by simp [wdP, wdPs]⟩
  · obtain ⟨h1, h2⟩ := tol_dp h.tk
    have h3 := h.len
    refine ⟨by simp only [tolP, dpP, dpPs]; omega, ?_⟩
    simp only [tolP, wdP, wdPs, h2, List.length_cons, List.length_nil, List.length_map, Bool.and_true, Bool.true_and, Bool.and_eq_true, decide_eq_true_eq]
    omega
end H

set_option Elab.async false
set_option linter.all false
set_option maxRecDepth 100000
set_option maxHeartbeats 1000000
namespace H
open PySem PySem.Spec PyProof.Rows L2 Mi
open SX (S)
abbrev rowsD (rows : List (List Nat)) : List D := rows.map fun r => D.str (S r)
/-- the rows are drawn -/
theorem drawn_ok {T : Sto} {s l b n : Nat} {e0 : Slots} (h : Strm T s l b) (hb : b < 10000000) (hsl : s < T.length ∧ l < T.length) (hn : n ≤ 5) (hs : (e0.set 12 (some (D.int (0 : Nat))))[1]? = e0[1]?) (hs1 : e0[1]? = some (some (.ref s))) :
    ∃ (rows : List (List Nat)) (T' : Sto) (b' : Nat), lcF (itRng 0 n) (gN 12) mTrue (mCall m__law_drawn_row (mCons (mVar 1) mNil)) e0 big 0 T [] = .ok (rowsD rows) T' ∧ rows.length = n ∧ (∀ r ∈ rows, gdL r) ∧ (∀ r ∈ rows, r.length ≤ 120) ∧ Strm T' s l b' ∧ b' ≤ b + 20 * n ∧ Mi.Fr (two s l) T T' := by
  obtain ⟨acc, T', h1, rows, b', h2, h3, h4, h5, h6, h7, h8⟩ := lc_rule (it := itRng 0 n) (g := gN 12) (t := mTrue) (f := mCall m__law_drawn_row (mCons (mVar 1) mNil)) (e0 := e0) (ds := (List.range n).map fun k => D.int (0 + (k : Nat)))
    (fun i acc T' => ∃ (rows : List (List Nat)) (b' : Nat), acc = rowsD rows ∧ rows.length = i ∧ (∀ r ∈ rows, gdL r) ∧ (∀ r ∈ rows, r.length ≤ 120) ∧ Strm T' s l b' ∧ b' ≤ b + 20 * i ∧ Mi.Fr (two s l) T T') (fun i acc T' _ => itRng_at 0 n i T') (by
      rintro i d hd acc T1 ⟨rows, b', rfl, hl, g1, g2, st, hb', fr⟩
      have hil : i < n := by
        have := (List.getElem?_eq_some_iff.mp hd).1
        simpa using this
      obtain ⟨r, T2, b2, e1, q1, q2, st2, hb2, fr2⟩ := drawn_row_ok st (by omega) (by have := fr.len; omega)
      refine ⟨_, rfl, true, T1, rfl, ?_⟩
      rw [if_pos rfl]
      have hs2 : (e0.set 12 (some d))[1]? = some (some (.ref s)) := by
        rw [List.getElem?_set, if_neg (by decide)]
        exact hs1
      refine ⟨.str (S r), T2, ?_, rows ++ [r], b2, by simp [rowsD], by simp [hl], ?_, ?_, st2, by omega, fr.trans fr2⟩
      · simp only [mCall_ap, mCons_ap, mNil_ap, mVar_ap, hs2, R.bind_ok]
        exact e1
      · intro x hx
        rcases List.mem_append.mp hx with z | z
        · exact g1 x z
        · rw [List.mem_singleton.mp z]; exact q1
      · intro x hx
        rcases List.mem_append.mp hx with z | z
        · exact g2 x z
        · rw [List.mem_singleton.mp z]; exact q2) (by simp; show _ < 100000; omega) (S := T) ⟨[], b, rfl, rfl, by simp, by simp, h, by omega, .refl _ _⟩
  have hn' : ((List.range n).map fun k => D.int (0 + (k : Nat))).length = n := by simp
  rw [hn'] at h3 h7
  subst h2
  exact ⟨rows, T', b', h1, h3, h4, h5, h6, h7, h8⟩
/-- what _law_row_tokens tells of rows: the places of their lists -/
def mkD : List Nat → List (List Nat) → List D
  | t :: ts, r :: rs => .tup [.ref t, bD (sc 0 (cutH r) 0).2, .int (cutH r).length] :: mkD ts rs
  | _, _ => []
structure Made (T : Sto) (n : Nat) (ts : List Nat) (rows : List (List Nat)) : Prop where
  len : ts.length = rows.length
  gt : ∀ t ∈ ts, n ≤ t ∧ t < T.length
  at_ : ∀ (k t : Nat) (row : List Nat), ts[k]? = some t → rows[k]? = some row → T[t]? = some (.lst ((toksOf row).map tkD))
theorem Made.fr {T T' : Sto} {n : Nat} {ts : List Nat} {rows : List (List Nat)} {Q : Nat → Prop} (h : Made T n ts rows) (f : Mi.Fr Q T T') (hq : ∀ j, n ≤ j → j < T.length → ¬ Q j) : Made T' n ts rows :=
  ⟨h.len, fun t ht => ⟨(h.gt t ht).1, Nat.lt_of_lt_of_le (h.gt t ht).2 f.len⟩, fun k t row h1 h2 => by
    have hm := h.gt t (List.mem_of_getElem? h1)
    exact f.get (h.at_ k t row h1 h2) (hq t hm.1 hm.2)⟩
theorem mkD_len : ∀ {ts : List Nat} {rows : List (List Nat)}, ts.length = rows.length → (mkD ts rows).length = rows.length
  | [], [], _ => rfl
  | t :: ts, r :: rows, h => by simp [mkD, mkD_len (ts := ts) (rows := rows) (by simpa using h)]
  | [], _ :: _, h => by simp at h
  | _ :: _, [], h => by simp at h
theorem mkD_at : ∀ {ts : List Nat} {rows : List (List Nat)} {i : Nat} {d : D}, (mkD ts rows)[i]? = some d → ∃ t r, ts[i]? = some t ∧ rows[i]? = some r ∧ d = .tup [.ref t, bD (sc 0 (cutH r) 0).2, .int (cutH r).length]
  | [], [], _, _, h => by simp [mkD] at h
  | [], _ :: _, _, _, h => by simp [mkD] at h
  | _ :: _, [], _, _, h => by simp [mkD] at h
  | t :: ts, r :: rows, 0, d, h => by simp [mkD] at h; exact ⟨t, r, rfl, rfl, h.symm⟩
  | t :: ts, r :: rows, i + 1, d, h => by
    obtain ⟨t', r', h1, h2, h3⟩ := mkD_at (ts := ts) (rows := rows) (i := i) (d := d) (by simpa [mkD] using h)
    exact ⟨t', r', by simpa using h1, by simpa using h2, h3⟩
theorem mkD_app {ts : List Nat} {t : Nat} {rows : List (List Nat)} {r : List Nat} : ∀ (h : ts.length = rows.length), mkD (ts ++ [t]) (rows ++ [r]) = mkD ts rows ++ mkD [t] [r] := by
  induction ts generalizing rows with
  | nil =>
    intro h
    cases rows with
    | nil => rfl
    | cons _ _ => simp at h
  | cons a ts ih =>
    intro h
    cases rows with
    | nil => simp at h
    | cons r' rows =>
      have := ih (rows := rows) (by simpa using h)
      simp [mkD, this]
theorem made_ok {T : Sto} {rows : List (List Nat)} {j : Nat} {e0 : Slots} (hj : T[j]? = some (.lst (rowsD rows))) (hl : ∀ r ∈ rows, r.length ≤ 120) (hn : rows.length ≤ 5) (h12 : 12 < e0.length) :
    ∃ (ts : List Nat) (T' : Sto), lcF (itRef j) (gN 12) mTrue (mCall m__law_row_tokens (mCons (mVar 12) mNil)) e0 big 0 T [] = .ok (mkD ts rows) T' ∧ Made T' T.length ts rows ∧ Mi.Fr none_ T T' := by
  have step : ∀ (i : Nat) (d : D), (rowsD rows)[i]? = some d → ∀ (acc : List D) (T1 : Sto), (∃ ts, acc = mkD ts (rows.take i) ∧ Made T1 T.length ts (rows.take i) ∧ Mi.Fr none_ T T1) → ∃ e1, gN 12 d e0 T1 = some e1 ∧ ∃ b T2, mTrue e1 T1 = .ok b T2 ∧ if b = true then ∃ w T3, mCall m__law_row_tokens (mCons (mVar 12) mNil) e1 T2 = .ok w T3 ∧ (∃ ts, acc ++ [w] = mkD ts (rows.take (i + 1)) ∧ Made T3 T.length ts (rows.take (i + 1)) ∧ Mi.Fr none_ T T3)
      else (∃ ts, acc = mkD ts (rows.take (i + 1)) ∧ Made T2 T.length ts (rows.take (i + 1)) ∧ Mi.Fr none_ T T2) := by
    rintro i d hd acc T1 ⟨ts, rfl, md, fr⟩
    rw [List.getElem?_map] at hd
    obtain ⟨r, hr, rfl⟩ := Option.map_eq_some_iff.mp hd
    have hrl := hl r (List.mem_of_getElem? hr)
    have e1 := law_row_tokens_ok r (by omega) T1
    refine ⟨_, rfl, true, T1, rfl, ?_⟩
    rw [if_pos rfl]
    have h1 : (e0.set 12 (some (D.str (S r))))[12]? = some (some (.str (S r))) := by rw [List.getElem?_set, if_pos rfl, if_pos h12]
    have htk : rows.take (i + 1) = rows.take i ++ [r] := by rw [List.take_add_one, hr]; rfl
    have fp : Mi.Fr none_ T1 (T1 ++ [MO.lst ((toksOf r).map tkD)]) := .push _ _ _
    refine ⟨_, _, by simp only [mCall_ap, mCons_ap, mNil_ap, mVar_ap, h1, R.bind_ok]; exact e1, ts ++ [T1.length], ?_, ?_, fr.trans fp⟩
    · rw [htk, mkD_app md.len]
      rfl
    · have md2 := md.fr fp fun _ _ _ => id
      rw [htk]
      refine ⟨by simp [md.len], fun t ht => ?_, fun k t row h2 h3 => ?_⟩
      · rcases List.mem_append.mp ht with z | z
        · exact md2.gt t z
        · rw [List.mem_singleton.mp z]
          exact ⟨fr.len, by simp⟩
      · by_cases hk : k < ts.length
        · rw [List.getElem?_append_left hk] at h2
          rw [List.getElem?_append_left (by rw [← md.len]; exact hk)] at h3
          exact md2.at_ k t row h2 h3
        · have hk2 : k = ts.length := by
            have := (List.getElem?_eq_some_iff.mp h2).1
            simp at this
            omega
          subst hk2
          rw [List.getElem?_append_right (Nat.le_refl _)] at h2
          rw [md.len, List.getElem?_append_right (Nat.le_refl _)] at h3
          simp at h2 h3
          subst h2 h3
          exact push_at _ _
  obtain ⟨acc, T', h1, ts, rfl, md, fr⟩ := lc_rule (it := itRef j) (fun i acc T1 => ∃ ts, acc = mkD ts (rows.take i) ∧ Made T1 T.length ts (rows.take i) ∧ Mi.Fr none_ T T1) (fun i acc T1 ⟨_, _, _, f⟩ => itRef_at (f.get hj id) i) step (by simp; show _ < 100000; omega) (S := T) ⟨[], rfl, ⟨rfl, by simp, by simp⟩, .refl _ _⟩
  have hlen : (rowsD rows).length = rows.length := by simp
  rw [hlen, List.take_length] at h1 md
  exact ⟨ts, T', h1, md, fr⟩
end H

set_option Elab.async false
set_option linter.all false
set_option maxRecDepth 100000
set_option maxHeartbeats 1000000
namespace H
open PySem PySem.Spec PyProof.Rows L2 Mi
open SX (S)
theorem at_set {e : Slots} {i : Nat} {d : Option D} (h : i < e.length) : (e.set i d)[i]? = some d := by rw [List.getElem?_set, if_pos rfl, if_pos h]
theorem at_ne {e : Slots} {i j : Nat} {d : Option D} (h : j ≠ i) : (e.set j d)[i]? = e[i]? := by rw [List.getElem?_set, if_neg h]
theorem mkD_refs : ∀ {ts : List Nat} {rows : List (List Nat)}, ts.length = rows.length → (mkD ts rows).length = ts.length
  | [], [], _ => rfl
  | t :: ts, r :: rows, h => by simp [mkD, mkD_refs (ts := ts) (rows := rows) (by simpa using h)]
  | [], _ :: _, h => by simp at h
  | _ :: _, [], h => by simp at h
theorem some_ok {T : Sto} {rows : List (List Nat)} {ts : List Nat} {k : Nat} {e0 : Slots} (hk : T[k]? = some (.lst (mkD ts rows))) (hl : ts.length = rows.length) (hn : rows.length ≤ 5) (he : 18 ≤ e0.length) :
    lcF (itRef k) (gT [gN 15, gN 16, gN 17]) mTrue (mVar 15) e0 big 0 T [] = .ok (ts.map D.ref) T := by
  have hmr := mkD_refs hl
  obtain ⟨acc, T', h1, h2, h3⟩ := lc_rule (it := itRef k) (g := gT [gN 15, gN 16, gN 17]) (t := mTrue) (f := mVar 15) (e0 := e0) (ds := mkD ts rows) (fun i acc T' => T' = T ∧ acc = (ts.take i).map D.ref) (fun i acc T' ⟨z, _⟩ => by subst z; exact itRef_at hk i) (by
    rintro i d hd acc T1 ⟨rfl, rfl⟩
    obtain ⟨t, r, h1, h2, rfl⟩ := mkD_at hd
    refine ⟨_, rfl, true, T1, rfl, ?_⟩
    rw [if_pos rfl]
    refine ⟨.ref t, T1, ?_, rfl, ?_⟩
    · rw [mVar_ap]
      have : (((e0.set 15 (some (D.ref t))).set 16 (some (bD (sc 0 (cutH r) 0).2))).set 17 (some (D.int (cutH r).length)))[15]? = some (some (D.ref t)) := by
        rw [at_ne (by decide), at_ne (by decide), at_set (by omega)]
      rw [this]
    · rw [List.take_add_one, h1]
      simp) (by show _ < 100000; omega) (S := T) ⟨rfl, rfl⟩
  subst h2
  rw [h1, h3, hmr, List.take_length]
def badsL : List (List Nat) → Nat → List (Nat × Nat)
  | [], _ => []
  | r :: rs, i => match (sc 0 (cutH r) 0).2 with
    | some p => (i, p) :: badsL rs (i + 1)
    | none => badsL rs (i + 1)
theorem badsL_app : ∀ (a b : List (List Nat)) (i : Nat), badsL (a ++ b) i = badsL a i ++ badsL b (i + a.length)
  | [], b, i => by simp [badsL]
  | r :: a, b, i => by
    have e : i + 1 + a.length = i + (r :: a).length := by simp; omega
    have := badsL_app a b (i + 1)
    rw [e] at this
    simp only [List.cons_append, badsL]
    split
    · rw [this]; rfl
    · exact this
theorem fb_head : ∀ (rows : List (List Nat)) (i : Nat), fb rows i = (badsL rows i).head?
  | [], i => rfl
  | r :: rs, i => by
    cases hb : (sc 0 (cutH r) 0).2 with
    | some p => simp only [fb, badsL, hb, List.head?_cons]
    | none =>
      simp only [fb, badsL, hb]
      exact fb_head rs (i + 1)
theorem badsL_len : ∀ (rows : List (List Nat)) (i : Nat), (badsL rows i).length ≤ rows.length
  | [], i => by simp [badsL]
  | r :: rs, i => by
    have := badsL_len rs (i + 1)
    unfold badsL
    split <;> simp <;> omega
abbrev badsD (bs : List (Nat × Nat)) : List D := bs.map fun ip => D.tup [.int ip.1, .int ip.2]
theorem bads_ok {T : Sto} {rows : List (List Nat)} {ts : List Nat} {k : Nat} {e0 : Slots} (hk : T[k]? = some (.lst (mkD ts rows))) (hl : ts.length = rows.length) (hn : rows.length ≤ 5) (he : 18 ≤ e0.length) :
    lcF (itEnum (.ref k)) (gT [gN 13, gN 14]) (mTst (mBin notIsD (mBin ixD (mVar 14) (mC (.int 1))) (mC .non))) (mTup (mCons (mVar 13) (mCons (mBin ixD (mVar 14) (mC (.int 1))) mNil))) e0 big 0 T [] = .ok (badsD (badsL rows 0)) T := by
  have hmr := mkD_refs hl
  obtain ⟨acc, T', h1, h2, h3⟩ := lc_rule (it := itEnum (.ref k)) (g := gT [gN 13, gN 14]) (t := mTst (mBin notIsD (mBin ixD (mVar 14) (mC (.int 1))) (mC .non))) (f := mTup (mCons (mVar 13) (mCons (mBin ixD (mVar 14) (mC (.int 1))) mNil))) (e0 := e0) (ds := enumTs (mkD ts rows)) (fun i acc T' => T' = T ∧ acc = badsD (badsL (rows.take i) 0)) (fun i acc T' ⟨z, _⟩ => by subst z; exact itEnum_at hk i) (by
    rintro i d hd acc T1 ⟨rfl, rfl⟩
    rw [enumTs_at] at hd
    obtain ⟨d', hd', rfl⟩ := Option.map_eq_some_iff.mp hd
    obtain ⟨t, r, h1, h2, rfl⟩ := mkD_at hd'
    have hi : i < rows.length := (List.getElem?_eq_some_iff.mp h2).1
    refine ⟨_, rfl, ?_⟩
    have s14 : ((e0.set 13 (some (D.int (i : Nat)))).set 14 (some (D.tup [.ref t, bD (sc 0 (cutH r) 0).2, .int (cutH r).length])))[14]? = some (some (D.tup [.ref t, bD (sc 0 (cutH r) 0).2, .int (cutH r).length])) := at_set (by simp; omega)
    have s13 : ((e0.set 13 (some (D.int (i : Nat)))).set 14 (some (D.tup [.ref t, bD (sc 0 (cutH r) 0).2, .int (cutH r).length])))[13]? = some (some (D.int (i : Nat))) := by rw [at_ne (by decide), at_set (by omega)]
    have hx := ixD_tup (S := T1) (ds := [.ref t, bD (sc 0 (cutH r) 0).2, .int (cutH r).length]) (i := 1) (d := bD (sc 0 (cutH r) 0).2) rfl
    have htk : rows.take (i + 1) = rows.take i ++ [r] := by rw [List.take_add_one, h2]; rfl
    have hti : (rows.take i).length = i := by rw [List.length_take]; omega
    have hbl : badsL (rows.take (i + 1)) 0 = badsL (rows.take i) 0 ++ badsL [r] i := by rw [htk, badsL_app, hti, Nat.zero_add]
    cases hb : (sc 0 (cutH r) 0).2 with
    | none =>
      rw [hb] at s14 s13 hx
      refine ⟨false, T1, ?_, ?_⟩
      · simp only [mTst_ap, mBin_ap, mVar_ap, s14, R.bind_ok, mC_ap, hx, notIsD_non]
        rfl
      · rw [if_neg (by decide)]
        refine ⟨rfl, ?_⟩
        rw [hbl]
        simp [badsL, hb]
    | some p =>
      rw [hb] at s14 s13 hx
      refine ⟨true, T1, ?_, ?_⟩
      · simp only [mTst_ap, mBin_ap, mVar_ap, s14, R.bind_ok, mC_ap, hx, notIsD_non]
        rfl
      · rw [if_pos rfl]
        refine ⟨.tup [.int (i : Nat), .int p], T1, ?_, rfl, ?_⟩
        · simp only [mTup_ap, mCons_ap, mNil_ap, mBin_ap, mVar_ap, s13, s14, R.bind_ok, mC_ap, hx]
          rfl
        · rw [hbl]
          simp [badsL, hb]) (by rw [enumTs_len, hmr]; show _ < 100000; omega) (S := T) ⟨rfl, rfl⟩
  subst h2
  rw [h1, h3, enumTs_len, hmr, hl, List.take_length]
theorem bads_dn (P : Nat → Prop) (T : Sto) : ∀ bs : List (Nat × Nat), Dns P T (badsD bs) (bs.map fun ip => PyData.tuple [.int ip.1, .int ip.2])
  | [] => .nil
  | _ :: bs => .cons (.tup (.cons (.int _) (.cons (.int _) .nil))) (bads_dn P T bs)
theorem bads_sz : ∀ bs : List (Nat × Nat), szPs (bs.map fun ip => PyData.tuple [.int ip.1, .int ip.2]) ≤ 2
  | [] => by simp [szPs]
  | _ :: bs => by
    have := bads_sz bs
    simp only [List.map_cons, szPs, szP]
    omega
theorem bads_eqv (bs : List (Nat × Nat)) : PyData.eqvAll (bs.map fun ip => PyData.tuple [.int ip.1, .int ip.2]) [] = bs.isEmpty := by cases bs <;> simp [PyData.eqvAll]
theorem bads_ne {T : Sto} {j : Nat} {bs : List (Nat × Nat)} (h : T[j]? = some (.lst (badsD bs))) : neD (.ref j) (.ref T.length) (T ++ [.lst []]) = .ok (.bl (!bs.isEmpty)) (T ++ [.lst []]) ∧ eqD (.ref j) (.ref T.length) (T ++ [.lst []]) = .ok (.bl bs.isEmpty) (T ++ [.lst []]) := by
  have h1 : Dn (fun _ => True) (T ++ [.lst []]) (.ref j) (.list (bs.map fun ip => PyData.tuple [.int ip.1, .int ip.2])) := .lst trivial ((Mi.Fr.push none_ T (.lst [])).get h id) (bads_dn _ _ bs)
  have h2 : Dn (fun _ => True) (T ++ [.lst []]) (.ref T.length) (.list []) := .lst trivial (push_at T _) .nil
  have s1 : szP (.list (bs.map fun ip => PyData.tuple [.int ip.1, .int ip.2])) ≤ 60 := by have := bads_sz bs; simp only [szP]; omega
  have s2 : szP (.list []) ≤ 60 := by simp [szP, szPs]
  rw [neD_of h1 h2 s1 s2, eqD_of h1 h2 s1 s2]
  simp only [PyData.eqv, bads_eqv, and_self]
end H

set_option Elab.async false
set_option linter.all false
set_option maxRecDepth 100000
set_option maxHeartbeats 1000000
namespace H
open PySem PySem.Spec PyProof.Rows L2 Mi
open SX (S)
abbrev xRows : ME := mLC (mItA rng1D (mCons (mCall m__law_pick (mCons (mVar 1) (mCons (mLst (mCons (mC (.int 1)) (mCons (mC (.int 1)) (mCons (mC (.int 2)) (mCons (mC (.int 3)) (mCons (mC (.int 5)) (mNil))))))) (mNil)))) (mNil))) (gN 12) (mTrue) (mCall m__law_drawn_row (mCons (mVar 1) (mNil))) [12]
abbrev xText : ME := mMeth "str" joinD (mC (.str "\n")) (mCons (mVar 3) (mNil))
abbrev xMade : ME := mLC (mIt (mVar 3)) (gN 12) (mTrue) (mCall m__law_row_tokens (mCons (mVar 12) (mNil))) [12]
abbrev xSome : ME := mLC (mIt (mVar 4)) (gT ((gN 15) :: ((gN 16) :: ((gN 17) :: ([]))))) (mTrue) (mVar 15) [15, 16, 17]
abbrev xBads : ME := mLC (mItA enumAD (mCons (mVar 4) (mNil))) (gT ((gN 13) :: ((gN 14) :: ([])))) (mTst (mBin notIsD (mBin ixD (mVar 14) (mC (.int 1))) (mC .non))) (mTup (mCons (mVar 13) (mCons (mBin ixD (mVar 14) (mC (.int 1))) (mNil)))) [13, 14]
abbrev xMet (i : Nat) : ME := mLam m__law_met (mCall m_tokens (mCons (mVar i) (mNil)))
abbrev xMetK : ME := mLam m__law_met (mCallK m_tokens [0] mNil (mCons (mVar 11) (mNil)))
theorem xRows_ok {T : Sto} {s l b : Nat} {e : Slots} (h : Strm T s l b) (hb : b < 1000000) (hsl : s < T.length ∧ l < T.length) (he : e.length = 18) (h1 : e[1]? = some (some (.ref s))) :
    ∃ (j : Nat) (rows : List (List Nat)) (T' : Sto) (b' : Nat), xRows e T = .ok (.ref j) T' ∧ GdR rows ∧ T'[j]? = some (.lst (rowsD rows)) ∧ Strm T' s l b' ∧ b' ≤ b + 101 ∧ Mi.Fr (two s l) T T' ∧ T.length ≤ j := by
  obtain ⟨d, T1, e1, hd, st1, fr1⟩ := pick1_ok (bs := [.int 1, .int 1, .int 2, .int 3, .int 5]) (ms := mCons (mC (.int 1)) (mCons (mC (.int 1)) (mCons (mC (.int 2)) (mCons (mC (.int 3)) (mCons (mC (.int 5)) (mNil)))))) (e := e) (i := 1) h (lt40 (by omega)) h1 rfl (by simp) (by simp) hsl
  have hn : ∃ n : Nat, d = .int (n : Nat) ∧ 1 ≤ n ∧ n ≤ 5 := by
    simp only [List.mem_cons, List.not_mem_nil, or_false] at hd
    rcases hd with z | z | z | z | z
    · exact ⟨1, z, by omega, by omega⟩
    · exact ⟨1, z, by omega, by omega⟩
    · exact ⟨2, z, by omega, by omega⟩
    · exact ⟨3, z, by omega, by omega⟩
    · exact ⟨5, z, by omega, by omega⟩
  obtain ⟨n, rfl, hn1, hn5⟩ := hn
  have hw : (wipeM e [12])[1]? = some (some (.ref s)) := by
    show (e.set 12 none)[1]? = _
    rw [at_ne (by decide)]
    exact h1
  obtain ⟨rows, T2, b2, e2, q1, q2, q3, st2, hb2, fr2⟩ := drawn_ok (e0 := wipeM e [12]) st1 (by omega) (by have := fr1.len; omega) hn5 (by rw [at_ne (by decide)]) hw
  refine ⟨T2.length, rows, T2 ++ [.lst (rowsD rows)], b2, ?_, ⟨by intro z; subst z; simp at q1; omega, by omega, q2, q3⟩, push_at _ _, st2.fr (Mi.Fr.push none_ T2 _) id id, by omega, (fr1.trans fr2).trans (.push _ _ _), Nat.le_trans fr1.len fr2.len⟩
  unfold xRows
  rw [mLC_ap, mItA_ap, mCons_ap, e1]
  rw [R.bind_ok, mNil_ap, R.bind_ok, R.bind_ok, rng1D_n (by omega), R.bind_ok, e2]
  rfl
theorem strsD_S : ∀ rows : List (List Nat), strsD (rowsD rows) = some (rows.map S)
  | [] => rfl
  | r :: rows => by
    show (strsD (rowsD rows)).map _ = _
    rw [strsD_S rows]
    rfl
theorem xText_ok {T : Sto} {j : Nat} {rows : List (List Nat)} {e : Slots} (h : GdR rows) (hj : T[j]? = some (.lst (rowsD rows))) (h3 : e[3]? = some (some (.ref j))) : xText e T = .ok (.str (S (TL.joinL [10] rows))) T := by
  have e1 : joinD (.str (S [10])) [.ref j] T = .ok (.str (S (TL.joinL [10] rows))) T := by
    have e2 : Txt.join (S [10]) (rows.map S) = S (TL.joinL [10] rows) := SX.join_S [10] rows
    show (match (itemsS T (.ref j)).bind strsD with
      | some ys => if (ys.map fun y : Str => y.length).sum + ys.length * (S [10]).length ≤ lim ∧ txtOk (Txt.join (S [10]) ys) = true then R.ok (D.str (Txt.join (S [10]) ys)) T else .no
      | none => .no) = _
    rw [itemsS_ref hj, Option.bind_some, strsD_S]
    show (if ((rows.map S).map fun y : Str => y.length).sum + (rows.map S).length * (S [10]).length ≤ lim ∧ txtOk (Txt.join (S [10]) (rows.map S)) = true then R.ok (D.str (Txt.join (S [10]) (rows.map S))) T else .no) = _
    rw [e2, if_pos]
    refine ⟨?_, h.okL.txt⟩
    have hs : ∀ rs : List (List Nat), (∀ r ∈ rs, r.length ≤ 120) → ((rs.map S).map fun y : Str => y.length).sum ≤ rs.length * 120 := by
      intro rs
      induction rs with
      | nil => intro _; simp
      | cons a rs ih =>
        intro ha
        have h1 := ha a List.mem_cons_self
        have h2 := ih fun x hx => ha x (List.mem_cons_of_mem _ hx)
        simp only [List.map_cons, List.sum_cons, List.length_cons, len_S]
        omega
    have h1 := hs rows h.sz
    have h2 := h.len
    have h4 : (rows.map S).length = rows.length := by simp
    rw [h4, len_S]
    show _ ≤ 1000000
    have : ([10] : List Nat).length = 1 := rfl
    rw [this]
    omega
  unfold xText
  rw [mMeth_ap, mC_ap, R.bind_ok, nl_S, isTy_str, if_pos rfl, mCons_ap, mVar_ap, h3]
  show ((R.ok (D.ref j) T).bind _).bind _ = _
  rw [R.bind_ok, mNil_ap, R.bind_ok, R.bind_ok]
  exact e1
theorem xMade_ok {T : Sto} {j : Nat} {rows : List (List Nat)} {e : Slots} (h : GdR rows) (hj : T[j]? = some (.lst (rowsD rows))) (h3 : e[3]? = some (some (.ref j))) (he : e.length = 18) :
    ∃ (ts : List Nat) (T' : Sto), xMade e T = .ok (.ref T'.length) (T' ++ [.lst (mkD ts rows)]) ∧ Made T' T.length ts rows ∧ Mi.Fr none_ T T' := by
  obtain ⟨ts, T', e1, md, fr⟩ := made_ok (e0 := wipeM e [12]) hj h.sz h.len (by show 12 < (e.set 12 none).length; simp; omega)
  refine ⟨ts, T', ?_, md, fr⟩
  unfold xMade
  rw [mLC_ap, mIt_ap, mVar_ap, h3]
  show ((R.ok (D.ref j) T).bind _).bind _ = _
  rw [R.bind_ok, itD_ref hj, R.bind_ok, e1]
  rfl
theorem xSome_ok {T : Sto} {k : Nat} {rows : List (List Nat)} {ts : List Nat} {e : Slots} (h : GdR rows) (hl : ts.length = rows.length) (hk : T[k]? = some (.lst (mkD ts rows))) (h4 : e[4]? = some (some (.ref k))) (he : e.length = 18) : xSome e T = .ok (.ref T.length) (T ++ [.lst (ts.map D.ref)]) := by
  unfold xSome
  rw [mLC_ap, mIt_ap, mVar_ap, h4]
  show ((R.ok (D.ref k) T).bind _).bind _ = _
  rw [R.bind_ok, itD_ref hk, R.bind_ok, some_ok hk hl h.len (by show 18 ≤ (((e.set 17 none).set 16 none).set 15 none).length; simp; omega)]
  rfl
theorem xBads_ok {T : Sto} {k : Nat} {rows : List (List Nat)} {ts : List Nat} {e : Slots} (h : GdR rows) (hl : ts.length = rows.length) (hk : T[k]? = some (.lst (mkD ts rows))) (h4 : e[4]? = some (some (.ref k))) (he : e.length = 18) : xBads e T = .ok (.ref T.length) (T ++ [.lst (badsD (badsL rows 0))]) := by
  unfold xBads
  rw [mLC_ap, mItA_ap, mCons_ap, mVar_ap, h4]
  show (((R.ok (D.ref k) T).bind _).bind _).bind _ = _
  rw [R.bind_ok, mNil_ap, R.bind_ok, R.bind_ok, enumAD_ref hk, R.bind_ok, bads_ok hk hl h.len (by show 18 ≤ ((e.set 14 none).set 13 none).length; simp; omega)]
  rfl
theorem xMet_ok {T : Sto} {rows : List (List Nat)} {e : Slots} {i : Nat} (h : GdR rows) (hi : e[i]? = some (some (.str (S (TL.joinL [10] rows))))) :
    ∃ d T', xMet i e T = .ok d T' ∧ Mi.Fr none_ T T' ∧ Dn (from_ T.length) T' d (dueP rows) ∧ (fb rows 0 = none → d = .tup [.str "told", .ref T.length] ∧ ∃ rs, Lay T' T.length rs rows) := by
  obtain ⟨d, T', e1, q⟩ := met_ok h T (g := fun T => mCall m_tokens (mCons (mVar i) mNil) e T) (by
    show mCall m_tokens (mCons (mVar i) mNil) e T = _
    rw [mCall_ap, mCons_ap, mVar_ap, hi]
    rfl)
  refine ⟨d, T', ?_, q⟩
  unfold xMet
  rw [mLam_ap, e1]
theorem xMetK_ok {T : Sto} {rows : List (List Nat)} {e : Slots} (h : GdR rows) (hi : e[11]? = some (some (.str (S (TL.joinL [10] rows))))) :
    ∃ d T', xMetK e T = .ok d T' ∧ Mi.Fr none_ T T' ∧ Dn (from_ T.length) T' d (dueP rows) := by
  obtain ⟨d, T', e1, q1, q2, _⟩ := met_ok h T (g := fun T => mCallK m_tokens [0] mNil (mCons (mVar 11) mNil) e T) (by
    show mCallK m_tokens [0] mNil (mCons (mVar 11) mNil) e T = _
    rw [mCallK_ap, mNil_ap, R.bind_ok, mCons_ap, mVar_ap, hi]
    rfl)
  refine ⟨d, T', ?_, q1, q2⟩
  unfold xMetK
  rw [mLam_ap, e1]
end H

set_option Elab.async false
set_option linter.all false
set_option maxRecDepth 100000
set_option maxHeartbeats 1000000
namespace H
open PySem PySem.Spec PyProof.Rows L2 Mi
open SX (S)
theorem nx2 (e : Slots) (T : Sto) (k : Slots → Sto → RS) : (RS.go .nx e T).thn k = k e T := (rfl)
theorem Dn.low {P : Nat → Prop} {T : Sto} {d : D} {p : PyData} (h : Dn P T d p) : Dn (fun j => P j ∧ j < T.length) T d p := Dn.map (fun j o h1 h2 => ⟨⟨h1, lt_of_get h2⟩, h2⟩) _ _ h
theorem Lay.fr {T T' : Sto} {n : Nat} {rs : List Nat} {rows : List (List Nat)} {Q : Nat → Prop} (h : Lay T n rs rows) (f : Mi.Fr Q T T') (hq : ∀ j, n ≤ j → j < T.length → ¬ Q j) : Lay T' n rs rows :=
  ⟨f.get h.top (hq n (Nat.le_refl _) (lt_of_get h.top)), h.nd, h.gt, h.len, fun k r row h1 h2 => by
    have hr := h.at_ k r row h1 h2
    exact f.get hr (hq r (Nat.le_of_lt (h.gt r (List.mem_of_getElem? h1))) (lt_of_get hr))⟩
abbrev xThing : ME := mCall m__law_pick (mCons (mVar 1) (mCons (mLst (mCons (mC .non) (mCons (mC (.int 5)) (mCons (mC (.bl true)) (mCons (mLst (mNil)) (mCons (mLst (mCons (mC (.str "kind a 1")) (mNil))) (mCons (mTup (mCons (mC (.str "a")) (mNil))) (mCons (mDK) (mCons (mUn negD (mC (.int 1))) (mNil)))))))))) (mNil)))
abbrev P2 : MS := mSeq (mAsg (gN 8) xThing)
 (mSeq (mAsg (gN 10) (mCall (m__law_copied 6) (mCons (mVar 8) (mNil))))
 (mSeq (mAsg (gN 9) (mLst (mCons (xMet 10) (mNil))))
 (mSeq (mIfS (mTst (mCall isiD (mCons (mVar 10) (mCons (mC (.bty "list")) (mNil))))) (mExpr (mMeth "list" appendD (mVar 10) (mCons (mC (.str "late")) (mNil)))) (mSkip))
 (mIfS (mNotT (mTst (mCall (m__law_same 6) (mCons (mVar 9) (mCons (mLst (mCons (mTup (mCons (mC (.str "text")) (mCons (mVar 10) (mNil)))) (mNil))) (mNil)))))) (mRet (mC (.bl false))) (mSkip)))))
abbrev P1b (rest : MS) : MS := mSeq (mAsg (gN 7) (mLst (mCons (xMet 11) (mNil))))
 (mSeq (mExpr (mMeth "list" appendD (mVar 7) (mCons xMetK (mNil))))
 (mSeq (mIfS (mNotT (mTst (mCall (m__law_same 6) (mCons (mVar 7) (mCons (mLst (mCons (mVar 5) (mCons (mVar 5) (mNil)))) (mNil)))))) (mRet (mC (.bl false))) (mSkip))
 (mSeq (mIfS (mTst (mBin eqD (mVar 6) (mLst (mNil)))) (mExpr (mCall (m__law_spoilt 6) (mCons (mBin ixD (mBin ixD (mVar 7) (mC (.int 0))) (mC (.int 1))) (mNil)))) (mSkip))
 (mSeq (mIfS (mNotT (mTst (mCall (m__law_same 6) (mCons (xMet 11) (mCons (mVar 5) (mNil)))))) (mRet (mC (.bl false))) (mSkip)) rest))))
abbrev P1a (rest : MS) : MS := mSeq (mAsg (gN 3) xRows)
 (mSeq (mAsg (gT ((gN 11) :: ((gN 4) :: ([])))) (mTup (mCons xText (mCons xMade (mNil)))))
 (mSeq (mAsg (gN 5) (mTup (mCons (mC (.str "told")) (mCons xSome (mNil)))))
 (mSeq (mAsg (gN 6) xBads)
 (mSeq (mIfS (mTst (mBin neD (mVar 6) (mLst (mNil)))) (mAsg (gN 5) (mTup (mCons (mC (.str "unread")) (mCons (mBin ixD (mVar 6) (mC (.int 0))) (mNil))))) (mSkip)) rest))))
theorem law_eq : m_law = mDef 18 (mSeq (mAsg (gN 1) (mCall m__law_stream (mCons (mVar 0) (mNil))))
 (mSeq (mFor (mItA rng1D (mCons (mC (.int 9)) (mNil))) (gN 2) (P1a (P1b P2)))
 (mSeq (mAsg (gN 7) (mLst (mCons (mCall m_tokens (mCons (mC (.str "")) (mNil))) (mCons (mCall m_tokens (mCons (mC (.str "kind a 1# x\n")) (mNil))) (mCons (mCall m_tokens (mCons (mC (.str "\n\n")) (mNil))) (mNil))))))
 (mSeq (mAsg (gN 5) (mLst (mCons (mLst (mCons (mLst (mNil)) (mNil))) (mCons (mLst (mCons (mLst (mCons (mTup (mCons (mC (.str "word")) (mCons (mC (.str "kind")) (mCons (mC (.int 0)) (mNil))))) (mCons (mTup (mCons (mC (.str "word")) (mCons (mC (.str "a")) (mCons (mC (.int 5)) (mNil))))) (mCons (mTup (mCons (mC (.str "number")) (mCons (mC (.int 1)) (mCons (mC (.int 7)) (mNil))))) (mNil))))) (mCons (mLst (mNil)) (mNil)))) (mCons (mLst (mCons (mLst (mNil)) (mCons (mLst (mNil)) (mCons (mLst (mNil)) (mNil))))) (mNil))))))
 (mRet (mCall (m__law_same 6) (mCons (mVar 7) (mCons (mVar 5) (mNil))))))))) := rfl
/-- what holds of the slots in a turn, the text being drawn -/
structure Sl5 (e : Slots) (T : Sto) (s l b base : Nat) (rows : List (List Nat)) (due : D) (jb : Nat) : Prop where
  he : e.length = 18
  h1 : e[1]? = some (some (.ref s))
  gd : GdR rows
  h11 : e[11]? = some (some (.str (S (TL.joinL [10] rows))))
  h5 : e[5]? = some (some due)
  h6 : e[6]? = some (some (.ref jb))
  hjb : T[jb]? = some (.lst (badsD (badsL rows 0)))
  st : Strm T s l b
  dn : Dn (from_ base) T due (dueP rows)
  lo : s < base ∧ l < base
  bb : base ≤ jb ∧ base ≤ T.length
theorem part1a {T : Sto} {s l b : Nat} {e : Slots} {rest : MS} {Q : RS → Prop} (h : Strm T s l b) (hb : b < 1000000) (hsl : s < T.length ∧ l < T.length) (he : e.length = 18) (h1 : e[1]? = some (some (.ref s)))
    (k : ∀ e' T' b' rows due jb, Sl5 e' T' s l b' T.length rows due jb → b' ≤ b + 101 → Mi.Fr (two s l) T T' → Q (rest e' T')) : Q (P1a rest e T) := by
  obtain ⟨j, rows, T1, b1, a1, gd, t1, st1, hb1, fr1, hj⟩ := xRows_ok h hb hsl he h1
  have e1h : (e.set 3 (some (.ref j))).length = 18 := by simp [he]
  have e13 : (e.set 3 (some (D.ref j)))[3]? = some (some (.ref j)) := at_set (by omega)
  have e11 : (e.set 3 (some (D.ref j)))[1]? = some (some (.ref s)) := by rw [at_ne (by decide)]; exact h1
  have a2 := xText_ok gd t1 e13
  obtain ⟨ts, T2, a3, md, fr2⟩ := xMade_ok gd t1 e13 e1h
  unfold P1a
  rw [mSeq_ap, mAsg_ap, a1, thn_ok2, setG_gN, nx2, mSeq_ap, mAsg_ap, mTup_ap, mCons_ap, a2, R.bind_ok, mCons_ap, a3, R.bind_ok, mNil_ap, R.bind_ok, R.bind_ok, R.bind_ok, thn_ok2]
  generalize e.set 3 (some (D.ref j)) = eA at e1h e13 e11
  have fr3 : Mi.Fr none_ T1 (T2 ++ [MO.lst (mkD ts rows)]) := fr2.trans (.push _ _ _)
  have md3 : Made (T2 ++ [MO.lst (mkD ts rows)]) T1.length ts rows := md.fr (Mi.Fr.push none_ T2 _) fun _ _ _ => id
  have t3 : (T2 ++ [MO.lst (mkD ts rows)])[T2.length]? = some (.lst (mkD ts rows)) := push_at _ _
  generalize T2 ++ [MO.lst (mkD ts rows)] = T3 at fr3 md3 t3
  show Q (RS.thn (RS.go .nx ((eA.set 11 (some (.str (S (TL.joinL [10] rows))))).set 4 (some (.ref T2.length))) T3) _)
  have b1h : ((eA.set 11 (some (D.str (S (TL.joinL [10] rows))))).set 4 (some (D.ref T2.length))).length = 18 := by simp [e1h]
  have b14 : ((eA.set 11 (some (D.str (S (TL.joinL [10] rows))))).set 4 (some (D.ref T2.length)))[4]? = some (some (.ref T2.length)) := at_set (by simp; omega)
  have b11 : ((eA.set 11 (some (D.str (S (TL.joinL [10] rows))))).set 4 (some (D.ref T2.length)))[1]? = some (some (.ref s)) := by rw [at_ne (by decide), at_ne (by decide)]; exact e11
  have b111 : ((eA.set 11 (some (D.str (S (TL.joinL [10] rows))))).set 4 (some (D.ref T2.length)))[11]? = some (some (.str (S (TL.joinL [10] rows)))) := by rw [at_ne (by decide), at_set (by omega)]
  generalize (eA.set 11 (some (D.str (S (TL.joinL [10] rows))))).set 4 (some (D.ref T2.length)) = eB at b1h b14 b11 b111
  have a4 := xSome_ok gd md.len t3 b14 b1h
  rw [nx2, mSeq_ap, mAsg_ap, mTup_ap, mCons_ap, mC_ap, R.bind_ok, mCons_ap, a4, R.bind_ok, mNil_ap, R.bind_ok, R.bind_ok, R.bind_ok, thn_ok2, setG_gN, nx2, mSeq_ap, mAsg_ap]
  have fr4 : Mi.Fr none_ T1 (T3 ++ [MO.lst (ts.map D.ref)]) := fr3.trans (.push _ _ _)
  have md4 : Made (T3 ++ [MO.lst (ts.map D.ref)]) T1.length ts rows := md3.fr (Mi.Fr.push none_ T3 _) fun _ _ _ => id
  have t4 : (T3 ++ [MO.lst (ts.map D.ref)])[T2.length]? = some (.lst (mkD ts rows)) := (Mi.Fr.push none_ T3 _).get t3 id
  have t5 : (T3 ++ [MO.lst (ts.map D.ref)])[T3.length]? = some (.lst (ts.map D.ref)) := push_at _ _
  generalize T3 ++ [MO.lst (ts.map D.ref)] = T4 at fr4 md4 t4 t5
  have c4 : (eB.set 5 (some (D.tup [.str "told", .ref T3.length])))[4]? = some (some (.ref T2.length)) := by rw [at_ne (by decide)]; exact b14
  have a5 := xBads_ok gd md.len t4 c4 (by simp [b1h])
  rw [a5, thn_ok2, setG_gN, nx2, mSeq_ap]
  have fr5 : Mi.Fr none_ T1 (T4 ++ [MO.lst (badsD (badsL rows 0))]) := fr4.trans (.push _ _ _)
  have md5 : Made (T4 ++ [MO.lst (badsD (badsL rows 0))]) T1.length ts rows := md4.fr (Mi.Fr.push none_ T4 _) fun _ _ _ => id
  have t6 : (T4 ++ [MO.lst (badsD (badsL rows 0))])[T3.length]? = some (.lst (ts.map D.ref)) := (Mi.Fr.push none_ T4 _).get t5 id
  have t7 : (T4 ++ [MO.lst (badsD (badsL rows 0))])[T4.length]? = some (.lst (badsD (badsL rows 0))) := push_at _ _
  have hT4 : T1.length ≤ T4.length := fr4.len
  generalize T4 ++ [MO.lst (badsD (badsL rows 0))] = T5 at fr5 md5 t6 t7
  have d5h : ((eB.set 5 (some (D.tup [.str "told", .ref T3.length]))).set 6 (some (.ref T4.length))).length = 18 := by simp [b1h]
  have d56 : ((eB.set 5 (some (D.tup [.str "told", .ref T3.length]))).set 6 (some (.ref T4.length)))[6]? = some (some (.ref T4.length)) := at_set (by simp; omega)
  have d55 : ((eB.set 5 (some (D.tup [.str "told", .ref T3.length]))).set 6 (some (.ref T4.length)))[5]? = some (some (D.tup [.str "told", .ref T3.length])) := by rw [at_ne (by decide), at_set (by omega)]
  have d51 : ((eB.set 5 (some (D.tup [.str "told", .ref T3.length]))).set 6 (some (.ref T4.length)))[1]? = some (some (.ref s)) := by rw [at_ne (by decide), at_ne (by decide)]; exact b11
  have d511 : ((eB.set 5 (some (D.tup [.str "told", .ref T3.length]))).set 6 (some (.ref T4.length)))[11]? = some (some (.str (S (TL.joinL [10] rows)))) := by rw [at_ne (by decide), at_ne (by decide)]; exact b111
  generalize (eB.set 5 (some (D.tup [.str "told", .ref T3.length]))).set 6 (some (.ref T4.length)) = eC at d5h d56 d55 d51 d511
  have hne := (bads_ne t7).1
  have frP : Mi.Fr none_ T5 (T5 ++ [MO.lst []]) := .push _ _ _
  rw [mIfS_ap, mTst_ap, mBin_ap, mVar_ap, d56]
  show Q (RS.thn (R.thn (R.bind (R.bind (R.ok (D.ref T4.length) T5) _) _) _ _) _)
  rw [R.bind_ok, mLst_ap, mNil_ap, R.bind_ok, R.bind_ok, hne, R.bind_ok, thn_ok2]
  have hl1 := fr1.len
  have FF : Mi.Fr (two s l) T (T5 ++ [MO.lst []]) := fr1.trans ((fr5.trans frP).weak fun _ _ z => z.elim)
  have stF : Strm (T5 ++ [MO.lst []]) s l b1 := st1.fr (fr5.trans frP) id id
  have hfb := fb_head rows 0
  cases hbs : badsL rows 0 with
  | nil =>
    rw [hbs] at hfb
    have hfb : fb rows 0 = none := hfb
    rw [show (!([] : List (Nat × Nat)).isEmpty) = false from rfl, if_neg (by decide), mSkip_ap, nx2]
    refine k eC _ b1 rows _ T4.length ⟨d5h, d51, gd, d511, d55, d56, frP.get t7 id, stF, ?_, hsl, by omega, by have := FF.len; omega⟩ hb1 FF
    unfold dueP
    rw [hfb]
    refine .tup (.cons (.str _) (.cons (.lst (by show T.length ≤ _; have := fr3.len; omega) (frP.get t6 id) (refs_dn md.len (fun r hr => by have := (md5.gt r hr).1; show T.length ≤ r; omega) fun k r row h1 h2 => frP.get (md5.at_ k r row h1 h2) id)) .nil))
  | cons ip bs =>
    obtain ⟨i, p⟩ := ip
    rw [hbs] at hfb t7
    have hfb : fb rows 0 = some (i, p) := hfb
    have t8 := frP.get t7 id
    have hix := ixD_lst (i := 0) t8 (d := .tup [.int i, .int p]) (by show L2.atI _ ((0 : Nat) : Int) = _; rw [atI_n]; rfl)
    rw [show (!((i, p) :: bs).isEmpty) = true from rfl, if_pos rfl, mAsg_ap, mTup_ap, mCons_ap, mC_ap, R.bind_ok, mCons_ap, mBin_ap, mVar_ap, d56]
    show Q (RS.thn (R.thn (R.bind (R.bind (R.bind (R.bind (R.ok (D.ref T4.length) _) _) _) _) _) _ _) _)
    rw [R.bind_ok, mC_ap, R.bind_ok, hix, R.bind_ok, mNil_ap, R.bind_ok, R.bind_ok, R.bind_ok, thn_ok2, setG_gN, nx2]
    refine k _ _ b1 rows (.tup [.str "unread", .tup [.int i, .int p]]) T4.length ⟨by simp [d5h], by rw [at_ne (by decide)]; exact d51, gd, by rw [at_ne (by decide)]; exact d511, at_set (by omega), by rw [at_ne (by decide)]; exact d56, by rw [hbs]; exact t8, stF, ?_, hsl, by omega, by have := FF.len; omega⟩ hb1 FF
    unfold dueP
    rw [hfb]
    exact .tup (.cons (.str _) (.cons (.tup (.cons (.int _) (.cons (.int _) .nil))) .nil))
end H

set_option Elab.async false
set_option linter.all false
set_option maxRecDepth 100000
set_option maxHeartbeats 1000000
namespace H
open PySem PySem.Spec PyProof.Rows L2 Mi
open SX (S)
theorem retF_skip {e : Slots} {T T' : Sto} {f : ME} (h : f e T = .ok (.bl true) T') : mIfS (mNotT (mTst f)) (mRet (mC (.bl false))) mSkip e T = .go .nx e T' := by
  rw [mIfS_ap, mNotT_ap, mTst_ap, h]
  rfl
theorem part1b {T : Sto} {s l b base jb : Nat} {rows : List (List Nat)} {due : D} {e : Slots} {rest : MS} {Q : RS → Prop} (h : Sl5 e T s l b base rows due jb)
    (k : ∀ e' T', e'.length = 18 → e'[1]? = some (some (.ref s)) → Strm T' s l b → T.length ≤ T'.length → Q (rest e' T')) : Q (P1b rest e T) := by
  obtain ⟨hd1, hd2⟩ := due_dp h.gd
  have hbase := h.bb.2
  have hjl := lt_of_get h.hjb
  have dlo := H.Dn.low h.dn
  -- found = [met(tokens(text))]
  obtain ⟨d1, T1, a1, fr1, dn1, told1⟩ := xMet_ok (T := T) h.gd h.h11
  unfold P1b
  rw [mSeq_ap, mAsg_ap, mLst_ap, mCons_ap, a1, R.bind_ok, mNil_ap, R.bind_ok, R.bind_ok, thn_ok2, setG_gN, nx2, mSeq_ap]
  have hl1 := fr1.len
  have fr2 : Mi.Fr none_ T1 (T1 ++ [MO.lst [d1]]) := .push _ _ _
  have t2 : (T1 ++ [MO.lst [d1]])[T1.length]? = some (.lst [d1]) := push_at _ _
  have hl2 : T1.length < (T1 ++ [MO.lst [d1]]).length := lt_of_get t2
  generalize T1 ++ [MO.lst [d1]] = T2 at fr2 t2 hl2
  have e7 : (e.set 7 (some (D.ref T1.length))).length = 18 := by simp [h.he]
  have e77 : (e.set 7 (some (D.ref T1.length)))[7]? = some (some (.ref T1.length)) := at_set (by have := h.he; omega)
  have e71 : (e.set 7 (some (D.ref T1.length)))[1]? = some (some (.ref s)) := by rw [at_ne (by decide)]; exact h.h1
  have e75 : (e.set 7 (some (D.ref T1.length)))[5]? = some (some due) := by rw [at_ne (by decide)]; exact h.h5
  have e76 : (e.set 7 (some (D.ref T1.length)))[6]? = some (some (.ref jb)) := by rw [at_ne (by decide)]; exact h.h6
  have e711 : (e.set 7 (some (D.ref T1.length)))[11]? = some (some (.str (S (TL.joinL [10] rows)))) := by rw [at_ne (by decide)]; exact h.h11
  generalize e.set 7 (some (D.ref T1.length)) = e1 at e7 e77 e71 e75 e76 e711
  -- found.append(met(tokens(text=text)))
  obtain ⟨d2, T3, a2, fr3, dn2⟩ := xMetK_ok (T := T2) h.gd e711
  have t3 := fr3.get t2 id
  have hap := appendD_ok (d := d2) t3 (by show (1 : Nat) < 1000000; decide)
  have hl3 := fr3.len
  rw [mExpr_ap, mMeth_ap, mVar_ap, e77]
  show Q (RS.thn (R.thn (R.bind (R.ok (D.ref T1.length) T2) _) _ _) _)
  rw [R.bind_ok, isTy_lst t2, if_pos rfl, mCons_ap, a2, R.bind_ok, mNil_ap, R.bind_ok, R.bind_ok, hap, thn_ok2, nx2, mSeq_ap]
  have frS : Mi.Fr (fun i => i = T1.length) T3 (T3.set T1.length (.lst ([d1] ++ [d2]))) := .set _ _ rfl
  have t4 : (T3.set T1.length (.lst ([d1] ++ [d2])))[T1.length]? = some (.lst ([d1] ++ [d2])) := set_at t3
  have hl4 : (T3.set T1.length (.lst ([d1] ++ [d2]))).length = T3.length := by simp
  generalize T3.set T1.length (.lst ([d1] ++ [d2])) = T4 at frS t4 hl4
  -- same(found, [due, due])
  have dn1' : Dn (fun j => T.length ≤ j ∧ j ≠ T1.length) T4 d1 (dueP rows) := by
    have q1 := H.Dn.low dn1
    have q2 : Dn (fun j => T.length ≤ j ∧ j < T1.length) T3 d1 (dueP rows) := q1.fr (fr2.trans fr3) fun j _ z => ⟨z, id⟩
    exact q2.fr frS fun j _ z => ⟨⟨z.1, by omega⟩, by omega⟩
  have dn2' : Dn (fun j => T2.length ≤ j) T4 d2 (dueP rows) := dn2.fr frS fun j _ z => ⟨z, by have : T2.length ≤ j := z; omega⟩
  have fdue : Mi.Fr (fun i => i = T1.length) T T4 := ((fr1.trans (fr2.trans fr3)).weak fun _ _ z => z.elim).trans frS
  have due4 : Dn (fun j => base ≤ j ∧ j < T.length) T4 due (dueP rows) := dlo.fr fdue fun j hj z => ⟨z, by omega⟩
  have fr5 : Mi.Fr none_ T4 (T4 ++ [MO.lst [due, due]]) := .push _ _ _
  have t5 : (T4 ++ [MO.lst [due, due]])[T4.length]? = some (.lst [due, due]) := push_at _ _
  have P22 : dpP (.list [dueP rows, dueP rows]) ≤ 6 := by simp only [dpP, dpPs]; omega
  have W22 : wdP (.list [dueP rows, dueP rows]) = true := by simp [wdP, wdPs, hd2]
  obtain ⟨T6, a3, fr6⟩ := same_ok 6 (P := fun _ => True) (Q := fun _ => True) (.list [dueP rows, dueP rows]) (T4 ++ [MO.lst [due, due]]) (.ref T1.length) (.ref T4.length) P22 W22
    (.lst trivial (fr5.get t4 id) (.cons (dn1'.fr fr5 fun _ _ _ => ⟨trivial, id⟩) (.cons (dn2'.fr fr5 fun _ _ _ => ⟨trivial, id⟩) .nil))) (.lst trivial t5 (.cons (due4.fr fr5 fun _ _ _ => ⟨trivial, id⟩) (.cons (due4.fr fr5 fun _ _ _ => ⟨trivial, id⟩) .nil)))
  have a3' : mCall (m__law_same 6) (mCons (mVar 7) (mCons (mLst (mCons (mVar 5) (mCons (mVar 5) mNil))) mNil)) e1 T4 = .ok (.bl true) T6 := by
    rw [mCall_ap, mCons_ap, mVar_ap, e77]
    show R.bind (R.bind (R.ok (D.ref T1.length) T4) _) _ = _
    rw [R.bind_ok, mCons_ap, mLst_ap, mCons_ap, mVar_ap, e75]
    show R.bind (R.bind (R.bind (R.bind (R.bind (R.ok due T4) _) _) _) _) _ = _
    rw [R.bind_ok, mCons_ap, mVar_ap, e75]
    show R.bind (R.bind (R.bind (R.bind (R.bind (R.bind (R.ok due T4) _) _) _) _) _) _ = _
    rw [R.bind_ok, mNil_ap, R.bind_ok, R.bind_ok, R.bind_ok, R.bind_ok, mNil_ap, R.bind_ok, R.bind_ok, R.bind_ok]
    exact a3
  rw [retF_skip a3', nx2, mSeq_ap]
  have f46 : Mi.Fr none_ T4 T6 := fr5.trans fr6
  have hl6 := f46.len
  have fT6 : Mi.Fr (fun i => i = T1.length) T T6 := fdue.trans (f46.weak fun _ _ z => z.elim)
  have t46 := f46.get t4 id
  have jb6 := fT6.get h.hjb (by omega)
  have st6 : Strm T6 s l b := h.st.fr fT6 (by have := h.lo; omega) (by have := h.lo; omega)
  have due6 : Dn (fun j => base ≤ j ∧ j < T.length) T6 due (dueP rows) := due4.fr f46 fun j _ z => ⟨z, id⟩
  -- if bads == []: spoilt(found[0][1])
  have spo : ∃ T7, mIfS (mTst (mBin eqD (mVar 6) (mLst mNil))) (mExpr (mCall (m__law_spoilt 6) (mCons (mBin ixD (mBin ixD (mVar 7) (mC (.int 0))) (mC (.int 1))) mNil))) mSkip e1 T6 = .go .nx e1 T7 ∧ Mi.Fr (fun i => T.length ≤ i) T6 T7 := by
    have heq := (bads_ne jb6).2
    have frP : Mi.Fr none_ T6 (T6 ++ [MO.lst []]) := .push _ _ _
    rw [mIfS_ap, mTst_ap, mBin_ap, mVar_ap, e76]
    show ∃ T7, R.thn (R.bind (R.bind (R.ok (D.ref jb) T6) _) _) _ _ = _ ∧ _
    rw [R.bind_ok, mLst_ap, mNil_ap, R.bind_ok, R.bind_ok, heq, R.bind_ok, thn_ok2]
    cases hbs : badsL rows 0 with
    | cons ip bs =>
      rw [show ((ip :: bs : List (Nat × Nat)).isEmpty) = false from rfl, if_neg (by decide), mSkip_ap]
      exact ⟨_, rfl, frP.weak fun _ _ z => z.elim⟩
    | nil =>
      have hfb := fb_head rows 0
      rw [hbs] at hfb
      obtain ⟨rfl, rs, lay⟩ := told1 hfb
      have layF : Lay (T6 ++ [MO.lst []]) T.length rs rows := by
        have q1 : Lay T3 T.length rs rows := H.Lay.fr lay (fr2.trans fr3) fun _ _ _ => id
        have hrs : ∀ r ∈ rs, r < T1.length := fun r hr => by
          obtain ⟨kk, hk1, hk2⟩ := List.getElem_of_mem hr
          have hk3 : rs[kk]? = some r := by rw [List.getElem?_eq_getElem hk1, hk2]
          have hk5 : kk < rows.length := by rw [← lay.len]; exact hk1
          have hk4 : rows[kk]? = some rows[kk] := List.getElem?_eq_getElem hk5
          exact lt_of_get (lay.at_ kk r _ hk3 hk4)
        have hTl : T.length < T1.length := lt_of_get lay.top
        have q2 : Lay T4 T.length rs rows := ⟨frS.get q1.top (by omega), q1.nd, q1.gt, q1.len, fun kk r row z1 z2 => frS.get (q1.at_ kk r row z1 z2) (by have := hrs r (List.mem_of_getElem? z1); omega)⟩
        exact H.Lay.fr q2 (f46.trans frP) fun _ _ _ => id
      have t8 := frP.get t46 id
      have i1 := ixD_lst (i := 0) t8 (d := .tup [.str "told", .ref T.length]) (by show L2.atI _ ((0 : Nat) : Int) = _; rw [atI_n]; rfl)
      have i2 := ixD_tup (S := T6 ++ [MO.lst []]) (ds := [.str "told", .ref T.length]) (i := 1) (d := .ref T.length) rfl
      obtain ⟨T7, a5, fr7⟩ := spoilt_ok (n := 2) layF (by have := h.gd.len; omega) h.gd.tk
      rw [show (([] : List (Nat × Nat)).isEmpty) = true from rfl, if_pos rfl, mExpr_ap, mCall_ap, mCons_ap, mBin_ap, mBin_ap, mVar_ap, e77]
      show ∃ T7, R.thn (R.bind (R.bind (R.bind (R.bind (R.ok (D.ref T1.length) _) _) _) _) _) _ _ = _ ∧ _
      rw [R.bind_ok, mC_ap, R.bind_ok, i1, R.bind_ok, mC_ap, R.bind_ok, i2, R.bind_ok, mNil_ap, R.bind_ok, R.bind_ok, a5, thn_ok2]
      refine ⟨T7, rfl, (frP.weak fun _ _ z => z.elim).trans (fr7.weak fun i _ z => ?_)⟩
      rcases z with z | z
      · omega
      · exact Nat.le_of_lt (lay.gt i z)
  obtain ⟨T7, a6, fr7⟩ := spo
  rw [a6, nx2, mSeq_ap]
  have hl7 := fr7.len
  have st7 : Strm T7 s l b := st6.fr fr7 (by have := h.lo; omega) (by have := h.lo; omega)
  have due7 : Dn (fun j => base ≤ j ∧ j < T.length) T7 due (dueP rows) := due6.fr fr7 fun j _ z => ⟨z, by omega⟩
  -- same(met(tokens(text)), due)
  obtain ⟨d3, T8, a7, fr8, dn8, _⟩ := xMet_ok (T := T7) h.gd e711
  obtain ⟨T9, a8, fr9⟩ := same_ok 6 (P := from_ T7.length) (Q := fun j => base ≤ j ∧ j < T.length) (dueP rows) T8 d3 due (by omega) hd2 dn8 (due7.fr fr8 fun j _ z => ⟨z, id⟩)
  have a8' : mCall (m__law_same 6) (mCons (xMet 11) (mCons (mVar 5) mNil)) e1 T7 = .ok (.bl true) T9 := by
    rw [mCall_ap, mCons_ap, a7, R.bind_ok, mCons_ap, mVar_ap, e75]
    show R.bind (R.bind (R.bind (R.ok due T8) _) _) _ = _
    rw [R.bind_ok, mNil_ap, R.bind_ok, R.bind_ok, R.bind_ok]
    exact a8
  rw [retF_skip a8', nx2]
  refine k e1 T9 e7 e71 ((st7.fr fr8 id id).fr fr9 id id) ?_
  have := fr8.len
  have := fr9.len
  omega
end H

set_option Elab.async false
set_option linter.all false
set_option maxRecDepth 100000
set_option maxHeartbeats 1000000
namespace H
open PySem PySem.Spec PyProof.Rows L2 Mi
open SX (S)
def notS : PyData → Bool
  | .str _ => false
  | _ => true
theorem check_no {d : D} {T : Sto} {P : Nat → Prop} {p : PyData} (h : Dn P T d p) (hn : notS p = true) : m_check_text [d] T = .exc "NoText" "text" d T := by
  have ht := tyN_dn h
  unfold m_check_text
  rw [mDef_ap]
  cases p <;> simp [notS] at hn <;> simp at ht <;> simp [ht]
theorem tokens_no {d : D} {T : Sto} {P : Nat → Prop} {p : PyData} (h : Dn P T d p) (hn : notS p = true) : m_tokens [d] T = .exc "NoText" "text" d T := by
  unfold m_tokens
  show (mSeq _ _ [some d, none, none, none, none, none] T).out = _
  rw [mSeq_ap, mExpr_ap, mCall_ap, mCons_ap]
  show (RS.thn (R.thn (R.bind (R.bind (R.ok d T) _) _) _ _) _).out = _
  rw [R.bind_ok, mNil_ap, R.bind_ok, R.bind_ok, check_no h hn]
  rfl
/-- what is drawn as no text -/
def thP : PyData → Prop := fun p => p = .none ∨ p = .int 5 ∨ p = .bool true ∨ p = .list [] ∨ p = .list [.str "kind a 1"] ∨ p = .tuple [.str "a"] ∨ p = .dict [] ∨ p = .int (-1)
theorem thP_ok {p : PyData} (h : thP p) : dpP p ≤ 4 ∧ wdP p = true ∧ plP p = true ∧ notS p = true := by
  rcases h with z | z | z | z | z | z | z | z <;> subst z <;> exact ⟨by decide, by decide, by decide, rfl⟩
theorem thing_ok {T : Sto} {s l b : Nat} {e : Slots} (h : Strm T s l b) (hb : b < 1000000) (hsl : s < T.length ∧ l < T.length) (h1 : e[1]? = some (some (.ref s))) :
    ∃ d T' p, xThing e T = .ok d T' ∧ Strm T' s l (b + 1) ∧ Mi.Fr (two s l) T T' ∧ Dn (from_ T.length) T' d p ∧ thP p := by
  have f1 : Mi.Fr none_ T (T ++ [MO.lst []]) := .push _ _ _
  have f2 : Mi.Fr none_ (T ++ [MO.lst []]) (T ++ [MO.lst []] ++ [MO.lst [D.str "kind a 1"]]) := .push _ _ _
  have f3 : Mi.Fr none_ (T ++ [MO.lst []] ++ [MO.lst [D.str "kind a 1"]]) (T ++ [MO.lst []] ++ [MO.lst [D.str "kind a 1"]] ++ [MO.dK []]) := .push _ _ _
  have g1 := f3.get (f2.get (push_at T (.lst [])) id) id
  have g2 := f3.get (push_at (T ++ [MO.lst []]) (.lst [D.str "kind a 1"])) id
  have g3 := push_at (T ++ [MO.lst []] ++ [MO.lst [D.str "kind a 1"]]) (.dK [])
  have f4 := f1.trans (f2.trans f3)
  have hl1 := f1.len
  have hl2 := (f1.trans f2).len
  have hargs : (mCons (mC .non) (mCons (mC (.int 5)) (mCons (mC (.bl true)) (mCons (mLst (mNil)) (mCons (mLst (mCons (mC (.str "kind a 1")) (mNil))) (mCons (mTup (mCons (mC (.str "a")) (mNil))) (mCons (mDK) (mCons (mUn negD (mC (.int 1))) (mNil))))))))) e T = .ok [.non, .int 5, .bl true, .ref T.length, .ref (T ++ [MO.lst []]).length, .tup [.str "a"], .ref (T ++ [MO.lst []] ++ [MO.lst [D.str "kind a 1"]]).length, .int (-1)] (T ++ [MO.lst []] ++ [MO.lst [D.str "kind a 1"]] ++ [MO.dK []]) := rfl
  generalize hn1 : (T ++ [MO.lst []]).length = n1 at *
  generalize hn2 : (T ++ [MO.lst []] ++ [MO.lst [D.str "kind a 1"]]).length = n2 at *
  generalize T ++ [MO.lst []] ++ [MO.lst [D.str "kind a 1"]] ++ [MO.dK []] = TA at *
  have fP : Mi.Fr none_ TA (TA ++ [.lst [.non, .int 5, .bl true, .ref T.length, .ref n1, .tup [.str "a"], .ref n2, .int (-1)]]) := .push _ _ _
  have gP := push_at TA (.lst [.non, .int 5, .bl true, .ref T.length, .ref n1, .tup [.str "a"], .ref n2, .int (-1)])
  have hlA := f4.len
  obtain ⟨d, T', e5, hd, st, fr⟩ := pick_ok (h.fr (f4.trans fP) id id) (lt40 (by omega)) gP (by simp) (by simp) (by omega) (by omega)
  have hx : xThing e T = .ok d T' := by
    unfold xThing
    rw [mCall_ap, mCons_ap, mVar_ap, h1]
    show R.bind (R.bind (R.ok (D.ref s) T) _) _ = _
    rw [R.bind_ok, mCons_ap, mLst_ap, hargs, R.bind_ok, R.bind_ok, mNil_ap, R.bind_ok, R.bind_ok, R.bind_ok]
    exact e5
  have q1 := fr.get (fP.get g1 id) (by rintro (z | z) <;> omega)
  have q2 := fr.get (fP.get g2 id) (by rintro (z | z) <;> omega)
  have q3 := fr.get (fP.get g3 id) (by rintro (z | z) <;> omega)
  have FF : Mi.Fr (two s l) T T' := ((f4.trans fP).weak fun _ _ z => z.elim).trans fr
  simp only [List.mem_cons, List.not_mem_nil, or_false] at hd
  rcases hd with z | z | z | z | z | z | z | z <;> subst z
  · exact ⟨_, T', _, hx, st, FF, .non, .inl rfl⟩
  · exact ⟨_, T', _, hx, st, FF, .int _, .inr (.inl rfl)⟩
  · exact ⟨_, T', _, hx, st, FF, .bl _, .inr (.inr (.inl rfl))⟩
  · exact ⟨_, T', _, hx, st, FF, .lst (Nat.le_refl _) q1 .nil, .inr (.inr (.inr (.inl rfl)))⟩
  · exact ⟨_, T', _, hx, st, FF, .lst (by show T.length ≤ n1; omega) q2 (.cons (.str _) .nil), .inr (.inr (.inr (.inr (.inl rfl))))⟩
  · exact ⟨_, T', _, hx, st, FF, .tup (.cons (.str _) .nil), .inr (.inr (.inr (.inr (.inr (.inl rfl)))))⟩
  · exact ⟨_, T', _, hx, st, FF, .dic (by show T.length ≤ n2; omega) q3 .nil, .inr (.inr (.inr (.inr (.inr (.inr (.inl rfl))))))⟩
  · exact ⟨_, T', _, hx, st, FF, .int _, .inr (.inr (.inr (.inr (.inr (.inr (.inr rfl))))))⟩
/-- mine.append('late'), if it is a list -/
theorem late_ok {T : Sto} {n : Nat} {d : D} {p : PyData} {e : Slots} (h : Dn (from_ n) T d p) (hp : thP p) (h10 : e[10]? = some (some d)) :
    ∃ T' p', mIfS (mTst (mCall isiD (mCons (mVar 10) (mCons (mC (.bty "list")) (mNil))))) (mExpr (mMeth "list" appendD (mVar 10) (mCons (mC (.str "late")) (mNil)))) (mSkip) e T = .go .nx e T' ∧ Mi.Fr (from_ n) T T' ∧ Dn (from_ n) T' d p' ∧ dpP p' ≤ 4 ∧ wdP p' = true ∧ ∀ j, T[j]? ≠ none → d ≠ .ref j → T'[j]? = T[j]? := by
  have ht := tyN_dn h
  have hok := thP_ok hp
  by_cases hlst : ∃ ps, p = .list ps
  · obtain ⟨ps, rfl⟩ := hlst
    cases h with
    | @lst j ds _ h1 h2 r =>
      have ap := appendD_ok (d := .str "late") h2 (by
        have := r.length
        rcases hp with z | z | z | z | z | z | z | z <;> cases z <;> (rw [this]; show _ < 1000000; decide))
      refine ⟨T.set j (.lst (ds ++ [.str "late"])), .list (ps ++ [.str "late"]), ?_, .set _ _ h1, ?_, ?_, ?_, fun i hi hne => set_ne fun z => hne (by rw [z])⟩
      · rw [mIfS_ap, mTst_ap, mCall_ap, mCons_ap, mVar_ap, h10]
        show R.thn (R.bind (R.bind (R.bind (R.ok (D.ref j) T) _) _) _) _ _ = _
        rw [R.bind_ok, mCons_ap, mC_ap, R.bind_ok, mNil_ap, R.bind_ok, R.bind_ok, R.bind_ok, isiD_one, ht]
        show R.thn (R.bind (R.ok (D.bl true) T) _) _ _ = _
        rw [R.bind_ok, thn_ok2, if_pos rfl, mExpr_ap, mMeth_ap, mVar_ap, h10]
        show R.thn (R.bind (R.ok (D.ref j) T) _) _ _ = _
        rw [R.bind_ok, isTy_lst h2, if_pos rfl, mCons_ap, mC_ap, R.bind_ok, mNil_ap, R.bind_ok, R.bind_ok, ap, thn_ok2]
      · refine .lst h1 (set_at h2) ?_
        rcases hp with z | z | z | z | z | z | z | z <;> cases z
        · cases r; exact .cons (.str _) .nil
        · cases r with
          | cons r1 r2 => cases r2; cases r1; exact .cons (.str _) (.cons (.str _) .nil)
      · rcases hp with z | z | z | z | z | z | z | z <;> cases z <;> decide
      · rcases hp with z | z | z | z | z | z | z | z <;> cases z <;> decide
  · have hsub : (tyN T d).bind (fun a => subN a "list") = some false := by
      rw [ht]
      cases p with
      | list ps => exact (hlst ⟨ps, rfl⟩).elim
      | _ => simp
    refine ⟨T, p, ?_, .refl _ _, h, hok.1, hok.2.1, fun _ _ _ => rfl⟩
    rw [mIfS_ap, mTst_ap, mCall_ap, mCons_ap, mVar_ap, h10]
    show R.thn (R.bind (R.bind (R.bind (R.ok d T) _) _) _) _ _ = _
    rw [R.bind_ok, mCons_ap, mC_ap, R.bind_ok, mNil_ap, R.bind_ok, R.bind_ok, R.bind_ok, isiD_one, hsub]
    rfl
end H

set_option Elab.async false
set_option linter.all false
set_option maxRecDepth 100000
set_option maxHeartbeats 1000000
namespace H
open PySem PySem.Spec PyProof.Rows L2 Mi
open SX (S)
theorem part2 {T : Sto} {s l b : Nat} {e : Slots} {Q : RS → Prop} (h : Strm T s l b) (hb : b < 1000000) (hsl : s < T.length ∧ l < T.length) (he : e.length = 18) (h1 : e[1]? = some (some (.ref s)))
    (k : ∀ e' T', e'.length = 18 → e'[1]? = some (some (.ref s)) → Strm T' s l (b + 1) → T.length ≤ T'.length → Q (.go .nx e' T')) : Q (P2 e T) := by
  obtain ⟨d, T1, p, a1, st1, fr1, dn1, hp⟩ := thing_ok h hb hsl h1
  have hok := thP_ok hp
  unfold P2
  rw [mSeq_ap, mAsg_ap, a1, thn_ok2, setG_gN, nx2, mSeq_ap, mAsg_ap]
  have e8 : (e.set 8 (some d))[8]? = some (some d) := at_set (by omega)
  have e81 : (e.set 8 (some d))[1]? = some (some (.ref s)) := by rw [at_ne (by decide)]; exact h1
  have e8h : (e.set 8 (some d)).length = 18 := by simp [he]
  generalize e.set 8 (some d) = eA at e8 e81 e8h
  obtain ⟨d2, T2, a2, fr2, dn2⟩ := copied_ok 6 p T1 d (by omega) hok.2.1 hok.2.2.1 dn1
  have a2' : mCall (m__law_copied 6) (mCons (mVar 8) mNil) eA T1 = .ok d2 T2 := by
    rw [mCall_ap, mCons_ap, mVar_ap, e8]
    show R.bind (R.bind (R.ok d T1) _) _ = _
    rw [R.bind_ok, mNil_ap, R.bind_ok, R.bind_ok]
    exact a2
  rw [a2', thn_ok2, setG_gN, nx2, mSeq_ap, mAsg_ap]
  have eB : (eA.set 10 (some d2))[10]? = some (some d2) := at_set (by omega)
  have eB1 : (eA.set 10 (some d2))[1]? = some (some (.ref s)) := by rw [at_ne (by decide)]; exact e81
  have eBh : (eA.set 10 (some d2)).length = 18 := by simp [e8h]
  generalize eA.set 10 (some d2) = eC at eB eB1 eBh
  have hmet : xMet 10 eC T2 = .ok (.tup [.str "text", d2]) T2 := by
    unfold xMet
    rw [mLam_ap, met_text (g := fun S => mCall m_tokens (mCons (mVar 10) mNil) eC S) (T := T2) (T' := T2) (d := d2) (by
      show mCall m_tokens (mCons (mVar 10) mNil) eC T2 = _
      rw [mCall_ap, mCons_ap, mVar_ap, eB]
      show R.bind (R.bind (R.ok d2 T2) _) _ = _
      rw [R.bind_ok, mNil_ap, R.bind_ok, R.bind_ok]
      exact tokens_no dn2 hok.2.2.2)]
  rw [mLst_ap, mCons_ap, hmet, R.bind_ok, mNil_ap, R.bind_ok, R.bind_ok, thn_ok2, setG_gN, nx2, mSeq_ap]
  have fr3 : Mi.Fr none_ T2 (T2 ++ [MO.lst [D.tup [.str "text", d2]]]) := .push _ _ _
  have t3 := push_at T2 (.lst [D.tup [.str "text", d2]])
  have eD9 : (eC.set 9 (some (D.ref T2.length)))[9]? = some (some (.ref T2.length)) := at_set (by omega)
  have eD10 : (eC.set 9 (some (D.ref T2.length)))[10]? = some (some d2) := by rw [at_ne (by decide)]; exact eB
  have eD1 : (eC.set 9 (some (D.ref T2.length)))[1]? = some (some (.ref s)) := by rw [at_ne (by decide)]; exact eB1
  have eDh : (eC.set 9 (some (D.ref T2.length))).length = 18 := by simp [eBh]
  generalize eC.set 9 (some (D.ref T2.length)) = eE at eD9 eD10 eD1 eDh
  have dn2l := H.Dn.low dn2
  have dn3 : Dn (from_ T1.length) (T2 ++ [MO.lst [D.tup [.str "text", d2]]]) d2 p := dn2.fr fr3 fun j _ z => ⟨z, id⟩
  obtain ⟨T4, p', a4, fr4, dn4, w1, w2, keep⟩ := late_ok dn3 hp eD10
  rw [a4, nx2]
  have hne : d2 ≠ .ref T2.length := by
    intro z
    subst z
    cases dn2l with
    | lst q1 q2 _ => exact Nat.lt_irrefl _ q1.2
    | dic q1 q2 _ => exact Nat.lt_irrefl _ q1.2
  have t4 : T4[T2.length]? = some (.lst [D.tup [.str "text", d2]]) := by
    rw [keep T2.length (by rw [t3]; simp) hne]
    exact t3
  have fr5 : Mi.Fr none_ T4 (T4 ++ [MO.lst [D.tup [.str "text", d2]]]) := .push _ _ _
  have t5 := push_at T4 (.lst [D.tup [.str "text", d2]])
  have dn5 : Dn (fun _ => True) (T4 ++ [MO.lst [D.tup [.str "text", d2]]]) d2 p' := dn4.fr fr5 fun _ _ _ => ⟨trivial, id⟩
  have el : Dns (fun _ => True) (T4 ++ [MO.lst [D.tup [.str "text", d2]]]) [D.tup [.str "text", d2]] [.tuple [.str "text", p']] := .cons (.tup (.cons (.str _) (.cons dn5 .nil))) .nil
  obtain ⟨T6, a6, fr6⟩ := same_ok 6 (P := fun _ => True) (Q := fun _ => True) (.list [.tuple [.str "text", p']]) (T4 ++ [MO.lst [D.tup [.str "text", d2]]]) (.ref T2.length) (.ref T4.length) (by simp only [dpP, dpPs]; omega) (by simp [wdP, wdPs, w2]) (.lst trivial (fr5.get t4 id) el) (.lst trivial t5 el)
  have a6' : mCall (m__law_same 6) (mCons (mVar 9) (mCons (mLst (mCons (mTup (mCons (mC (.str "text")) (mCons (mVar 10) mNil))) mNil)) mNil)) eE T4 = .ok (.bl true) T6 := by
    rw [mCall_ap, mCons_ap, mVar_ap, eD9]
    show R.bind (R.bind (R.ok (D.ref T2.length) T4) _) _ = _
    rw [R.bind_ok, mCons_ap, mLst_ap, mCons_ap, mTup_ap, mCons_ap, mC_ap, R.bind_ok, mCons_ap, mVar_ap, eD10]
    show R.bind (R.bind (R.bind (R.bind (R.bind (R.bind (R.bind (R.bind (R.ok d2 T4) _) _) _) _) _) _) _) _ = _
    rw [R.bind_ok, mNil_ap, R.bind_ok, R.bind_ok, R.bind_ok, R.bind_ok, mNil_ap, R.bind_ok, R.bind_ok, R.bind_ok, mNil_ap, R.bind_ok, R.bind_ok, R.bind_ok]
    exact a6
  rw [retF_skip a6']
  have hl1 := fr1.len
  have hl2 := fr2.len
  have hl3 := fr3.len
  have hl4 := fr4.len
  have hl5 := fr5.len
  have hl6 := fr6.len
  have st4 : Strm T4 s l (b + 1) := ((st1.fr fr2 id id).fr fr3 id id).fr fr4 (by show ¬ T1.length ≤ s; omega) (by show ¬ T1.length ≤ l; omega)
  exact k eE T6 eDh eD1 ((st4.fr fr5 id id).fr fr6 id id) (by omega)
/-- nine turns -/
def LwI (x0 : D) (s l : Nat) (i : Nat) (e : Slots) (T : Sto) : Prop := e.length = 18 ∧ e[1]? = some (some (.ref s)) ∧ ∃ b, Strm T s l b ∧ b ≤ 200 * i ∧ i ≤ 9 ∧ s < T.length ∧ l < T.length
theorem at18 (e : Slots) (h : e.length = 18) (i : Nat) (hi : i < 18) (d : Option D) : (e.set i d)[i]? = some d := at_set (by omega)
end H

set_option Elab.async false
set_option linter.all false
set_option maxRecDepth 100000
set_option maxHeartbeats 1000000
namespace H
open PySem PySem.Spec PyProof.Rows L2 Mi
open SX (S)
theorem tok_const (tl : List Nat) (x : Str) (hx : x = S tl) (hok : okL tl) (hn : (linesL tl).length < 1000) (hs : ∀ r ∈ linesL tl, r.length ≤ 640) (hfb : fb (linesL tl) 0 = none) (T : Sto) :
    ∃ T', m_tokens [.str x] T = .ok (.ref T.length) T' ∧ Mi.Fr none_ T T' ∧ Dn (from_ T.length) T' (.ref T.length) (tolP (linesL tl)) := by
  have key := tokens_ok tl hok hn hs T
  rw [hfb] at key
  obtain ⟨T', rs, e1, fr, lay⟩ := key
  subst hx
  exact ⟨T', e1, fr, H.Lay.dn lay (Nat.le_refl _) fun j hj => hj⟩
abbrev t1 : List Nat := "".toList.map Char.toNat
abbrev t2 : List Nat := "kind a 1# x\n".toList.map Char.toNat
abbrev t3 : List Nat := "\n\n".toList.map Char.toNat
abbrev dueF : PyData := .list [.list [.list []], .list [.list [.tuple [.str "word", .str "kind", .int 0], .tuple [.str "word", .str "a", .int 5], .tuple [.str "number", .int 1, .int 7]], .list []], .list [.list [], .list [], .list []]]
theorem due_eq : PyData.list [tolP (linesL t1), tolP (linesL t2), tolP (linesL t3)] = dueF := by kernel_rfl
theorem ok1 : okL t1 ∧ (linesL t1).length < 1000 ∧ (∀ r ∈ linesL t1, r.length ≤ 640) ∧ fb (linesL t1) 0 = none := ⟨⟨by decide +kernel, by decide +kernel⟩, by decide +kernel, by decide +kernel, by decide +kernel⟩
theorem ok2 : okL t2 ∧ (linesL t2).length < 1000 ∧ (∀ r ∈ linesL t2, r.length ≤ 640) ∧ fb (linesL t2) 0 = none := ⟨⟨by decide +kernel, by decide +kernel⟩, by decide +kernel, by decide +kernel, by decide +kernel⟩
theorem ok3 : okL t3 ∧ (linesL t3).length < 1000 ∧ (∀ r ∈ linesL t3, r.length ≤ 640) ∧ fb (linesL t3) 0 = none := ⟨⟨by decide +kernel, by decide +kernel⟩, by decide +kernel, by decide +kernel, by decide +kernel⟩
theorem dueF_ok : dpP dueF ≤ 6 ∧ wdP dueF = true := ⟨by decide +kernel, by decide +kernel⟩
end H

set_option Elab.async false
set_option linter.all false
set_option maxRecDepth 100000
set_option maxHeartbeats 1000000
namespace H
open PySem PySem.Spec PyProof.Rows L2 Mi
open SX (S)
abbrev xDue : ME := mLst (mCons (mLst (mCons (mLst (mNil)) (mNil))) (mCons (mLst (mCons (mLst (mCons (mTup (mCons (mC (.str "word")) (mCons (mC (.str "kind")) (mCons (mC (.int 0)) (mNil))))) (mCons (mTup (mCons (mC (.str "word")) (mCons (mC (.str "a")) (mCons (mC (.int 5)) (mNil))))) (mCons (mTup (mCons (mC (.str "number")) (mCons (mC (.int 1)) (mCons (mC (.int 7)) (mNil))))) (mNil))))) (mCons (mLst (mNil)) (mNil)))) (mCons (mLst (mCons (mLst (mNil)) (mCons (mLst (mNil)) (mCons (mLst (mNil)) (mNil))))) (mNil))))
/-- a list display, its parts being data each -/
structure Ev (f : ME) (p : PyData) : Prop where
  run : ∀ e T, ∃ d T', f e T = .ok d T' ∧ Mi.Fr none_ T T' ∧ Dn (from_ T.length) T' d p
structure Evs (f : MA) (ps : List PyData) : Prop where
  run : ∀ e T, ∃ ds T', f e T = .ok ds T' ∧ Mi.Fr none_ T T' ∧ Dns (from_ T.length) T' ds ps
theorem ev_str (x : Str) : Ev (mC (.str x)) (.str x) := ⟨fun e T => ⟨_, T, rfl, .refl _ _, .str _⟩⟩
theorem ev_int (x : Int) : Ev (mC (.int x)) (.int x) := ⟨fun e T => ⟨_, T, rfl, .refl _ _, .int _⟩⟩
theorem evs_nil : Evs mNil [] := ⟨fun e T => ⟨_, T, rfl, .refl _ _, .nil⟩⟩
theorem evs_cons {f : ME} {r : MA} {p : PyData} {ps : List PyData} (h : Ev f p) (k : Evs r ps) : Evs (mCons f r) (p :: ps) := ⟨fun e T => by
  obtain ⟨d, T1, e1, f1, r1⟩ := h.run e T
  obtain ⟨ds, T2, e2, f2, r2⟩ := k.run e T1
  refine ⟨d :: ds, T2, ?_, f1.trans f2, .cons (r1.fr f2 fun _ _ z => ⟨z, id⟩) (r2.fr (Mi.Fr.refl none_ T2) fun j _ z => ⟨Nat.le_trans f1.len z, id⟩)⟩
  rw [mCons_ap, e1, R.bind_ok, e2, R.bind_ok]⟩
theorem ev_lst {a : MA} {ps : List PyData} (h : Evs a ps) : Ev (mLst a) (.list ps) := ⟨fun e T => by
  obtain ⟨ds, T1, e1, f1, r1⟩ := h.run e T
  refine ⟨.ref T1.length, T1 ++ [.lst ds], ?_, f1.trans (.push _ _ _), .lst f1.len (push_at _ _) (r1.fr (Mi.Fr.push none_ T1 _) fun _ _ z => ⟨z, id⟩)⟩
  rw [mLst_ap, e1, R.bind_ok]⟩
theorem ev_tup {a : MA} {ps : List PyData} (h : Evs a ps) : Ev (mTup a) (.tuple ps) := ⟨fun e T => by
  obtain ⟨ds, T1, e1, f1, r1⟩ := h.run e T
  exact ⟨.tup ds, T1, by rw [mTup_ap, e1, R.bind_ok], f1, .tup r1⟩⟩
theorem xDue_ok : Ev xDue dueF :=
  ev_lst (evs_cons (ev_lst (evs_cons (ev_lst evs_nil) evs_nil)) (evs_cons (ev_lst (evs_cons (ev_lst (evs_cons (ev_tup (evs_cons (ev_str _) (evs_cons (ev_str _) (evs_cons (ev_int _) evs_nil)))) (evs_cons (ev_tup (evs_cons (ev_str _) (evs_cons (ev_str _) (evs_cons (ev_int _) evs_nil)))) (evs_cons (ev_tup (evs_cons (ev_str _) (evs_cons (ev_int _) (evs_cons (ev_int _) evs_nil)))) evs_nil)))) (evs_cons (ev_lst evs_nil) evs_nil)))
    (evs_cons (ev_lst (evs_cons (ev_lst evs_nil) (evs_cons (ev_lst evs_nil) (evs_cons (ev_lst evs_nil) evs_nil)))) evs_nil)))
theorem ev_tok {x : Str} {p : PyData} (h : ∀ T : Sto, ∃ T', m_tokens [.str x] T = .ok (.ref T.length) T' ∧ Mi.Fr none_ T T' ∧ Dn (from_ T.length) T' (.ref T.length) p) : Ev (mCall m_tokens (mCons (mC (.str x)) mNil)) p := ⟨fun e T => by
  obtain ⟨T', e1, f1, r1⟩ := h T
  refine ⟨_, T', ?_, f1, r1⟩
  rw [mCall_ap, mCons_ap, mC_ap, R.bind_ok, mNil_ap, R.bind_ok, R.bind_ok, e1]⟩
theorem xFound_ok : Ev (mLst (mCons (mCall m_tokens (mCons (mC (.str "")) (mNil))) (mCons (mCall m_tokens (mCons (mC (.str "kind a 1# x\n")) (mNil))) (mCons (mCall m_tokens (mCons (mC (.str "\n\n")) (mNil))) (mNil))))) dueF := by
  rw [← due_eq]
  exact ev_lst (evs_cons (ev_tok fun T => tok_const t1 _ (ofS _) ok1.1 ok1.2.1 ok1.2.2.1 ok1.2.2.2 T) (evs_cons (ev_tok fun T => tok_const t2 _ (ofS _) ok2.1 ok2.2.1 ok2.2.2.1 ok2.2.2.2 T) (evs_cons (ev_tok fun T => tok_const t3 _ (ofS _) ok3.1 ok3.2.1 ok3.2.2.1 ok3.2.2.2 T) evs_nil)))
theorem end_ok {e : Slots} {T : Sto} (he : e.length = 18) : ∃ T', ((mSeq (mAsg (gN 7) (mLst (mCons (mCall m_tokens (mCons (mC (.str "")) (mNil))) (mCons (mCall m_tokens (mCons (mC (.str "kind a 1# x\n")) (mNil))) (mCons (mCall m_tokens (mCons (mC (.str "\n\n")) (mNil))) (mNil)))))) (mSeq (mAsg (gN 5) xDue) (mRet (mCall (m__law_same 6) (mCons (mVar 7) (mCons (mVar 5) (mNil))))))) e T).out = .ok (.bl true) T' := by
  obtain ⟨d1, T1, e1, f1, r1⟩ := xFound_ok.run e T
  obtain ⟨d2, T2, e2, f2, r2⟩ := xDue_ok.run (e.set 7 (some d1)) T1
  obtain ⟨T3, e3, f3⟩ := same_ok 6 dueF T2 d1 d2 dueF_ok.1 dueF_ok.2 (r1.fr f2 (P' := fun _ => True) fun _ _ _ => ⟨trivial, id⟩) r2
  refine ⟨T3, ?_⟩
  rw [mSeq_ap, mAsg_ap, e1, thn_ok2, setG_gN, nx2, mSeq_ap, mAsg_ap, e2, thn_ok2, setG_gN, nx2, mRet_ap, mCall_ap, mCons_ap, mVar_ap]
  have s7 : ((e.set 7 (some d1)).set 5 (some d2))[7]? = some (some d1) := by rw [at_ne (by decide), at_set (by omega)]
  have s5 : ((e.set 7 (some d1)).set 5 (some d2))[5]? = some (some d2) := at_set (by simp; omega)
  rw [s7]
  show (R.thn (R.bind (R.bind (R.ok d1 T2) _) _) _ _).out = _
  rw [R.bind_ok, mCons_ap, mVar_ap, s5]
  show (R.thn (R.bind (R.bind (R.bind (R.ok d2 T2) _) _) _) _ _).out = _
  rw [R.bind_ok, mNil_ap, R.bind_ok, R.bind_ok, R.bind_ok, e3, thn_ok2]
  rfl
theorem lawOk : LawOk m_law := by
  intro d T ns h1 _ hi
  obtain ⟨T1, e1, st, fr, hl⟩ := stream_ok hi h1
  have h9 : rng1D [.int 9] T1 = .ok (itRng 0 9) T1 := rng1D_n (n := 9) (by decide)
  rw [law_eq]
  show ∃ S', (mSeq _ _ [some d, none, none, none, none, none, none, none, none, none, none, none, none, none, none, none, none, none] T).out = .ok (.bl true) S'
  rw [mSeq_ap, mAsg_ap, mCall_ap, mCons_ap, mVar_ap]
  show ∃ S', (RS.thn (R.thn (R.bind (R.bind (R.ok d T) _) _) _ _) _).out = .ok (.bl true) S'
  rw [R.bind_ok, mNil_ap, R.bind_ok, R.bind_ok, e1, thn_ok2, setG_gN, nx2, mSeq_ap, mFor_ap, mItA_ap, mCons_ap, mC_ap, R.bind_ok, mNil_ap, R.bind_ok, R.bind_ok, h9, thn_ok2]
  refine for_rule (it := itRng 0 9) (ds := (List.range 9).map fun k => D.int (0 + (k : Nat))) (LwI d (T.length + 1) T.length) (fun r => ∃ S', (r.thn _).out = .ok (.bl true) S') (fun i e T' _ => itRng_at 0 9 i T') ?_ ?_ (by simp; show _ < 100000; decide) ⟨rfl, rfl, 0, st, by omega, by omega, by omega, by omega⟩
  · rintro i d0 hd e T' ⟨he, hs, b, st', hb, hi9, hs1, hs2⟩
    have hil : i < 9 := by
      have := (List.getElem?_eq_some_iff.mp hd).1
      simpa using this
    refine ⟨_, rfl, ?_⟩
    refine part1a (b := b) (s := T.length + 1) (l := T.length) st' (by omega) ⟨hs1, hs2⟩ (by simp [he]) (by rw [at_ne (by decide)]; exact hs) fun e2 T2 b2 rows due jb q hb2 fr2 => ?_
    refine part1b q fun e3 T3 he3 hs3 st3 hl3 => ?_
    have hl2 := fr2.len
    refine part2 st3 (by omega) (by omega) he3 hs3 fun e4 T4 he4 hs4 st4 hl4 => ?_
    exact ⟨he4, hs4, b2 + 1, st4, by omega, by omega, by omega, by omega⟩
  · rintro e T' ⟨he, hs, b, st', hb, hi9, hs1, hs2⟩
    exact end_ok he
end H

open PySem PySem.W PyProof.Rows
set_option maxRecDepth 100000 in
set_option maxHeartbeats 0 in
theorem PySem.Challenge.cw_facesmeet_k24_whole_tokens_of_texts_holds : PySem.Challenge.rw_facesmeet_k24_whole_tokens_of_texts.Holds := by
  w_on; o_law; k_head; (case hw => w_witness2)
  k_fill
  refine LamX.walk_ofTs (l := PySem.Challenge.rw_facesmeet_k24_whole_tokens_of_texts) (n := 63) (k := 11) (x := "script") (CX := fun w => L2.CX PySem.Challenge.rw_facesmeet_k24_whole_tokens_of_texts.prog w) rfl (by decide) rfl ⟨rfl, by decide, by decide⟩ (fun w h Y => PySem.W.km_in_of Y) ?F (fun w H s e s' z => Mi.cx_no z)
  case F =>
    intro w mg fa h Y KX G hmg
    refine' H.fin KX G hmg H.lawOk ?n_list ?ad__law_stream ?ld__law_stream ?cd__law_stream ?kd__law_stream ?n_tuple ?n_isinstance ?n_len ?n_zip ?n_all ?n_dict ?n_bool ?n_int ?n_str ?ad__law_same ?ld__law_same ?cd__law_same ?kd__law_same ?n_abs ?ad__law_draw ?ld__law_draw ?cd__law_draw ?kd__law_draw ?ad__law_pick ?ld__law_pick ?cd__law_pick ?kd__law_pick ?ad__law_copied ?ld__law_copied ?cd__law_copied ?kd__law_copied ?aCNoText ?xLNoText ?hbNoText ?saNoText ?gaNoText ?ggNoText ?nbNoText ?aiNoText ?tiNoText ?liNoText ?ciNoText ?kiNoText ?kCNoText ?eCNoText ?tCNoText ?hCNoText ?ad_check_text ?ld_check_text ?cd_check_text ?kd_check_text ?ad_rows_of_text ?ld_rows_of_text ?cd_rows_of_text ?kd_rows_of_text ?ad_run_end ?ld_run_end ?cd_run_end ?kd_run_end ?s_LETTERS ?s_DIGITS ?ad_row_tokens ?ld_row_tokens ?cd_row_tokens ?kd_row_tokens ?n_enumerate ?aCUnread ?xLUnread ?hbUnread ?saUnread ?gaUnread ?ggUnread ?nbUnread ?aiUnread ?tiUnread ?liUnread ?ciUnread ?kiUnread ?kCUnread ?eCUnread ?tCUnread ?hCUnread ?ad_tokens ?ld_tokens ?cd_tokens ?kd_tokens ?n_range ?ad__law_drawn_row ?ld__law_drawn_row ?cd__law_drawn_row ?kd__law_drawn_row ?xmb ?ad__law_met ?ld__law_met ?cd__law_met ?kd__law_met ?ad__law_spoilt ?ld__law_spoilt ?cd__law_spoilt ?kd__law_spoilt ?ad__law_run ?ld__law_run ?cd__law_run ?kd__law_run ?ad__law_row_tokens ?ld__law_row_tokens ?cd__law_row_tokens ?kd__law_row_tokens ?ad_law ?ld_law ?cd_law ?kd_law ?hT ?nT ?hcd
    (case n_list => k_is)
    (case ad__law_stream => k_is)
    (case ld__law_stream => k_is)
    (case cd__law_stream => k_is)
    (case kd__law_stream => k_is)
    (case n_tuple => k_is)
    (case n_isinstance => k_is)
    (case n_len => k_is)
    (case n_zip => k_is)
    (case n_all => k_is)
    (case n_dict => k_is)
    (case n_bool => k_is)
    (case n_int => k_is)
    (case n_str => k_is)
    (case ad__law_same => k_is)
    (case ld__law_same => k_is)
    (case cd__law_same => k_is)
    (case kd__law_same => k_is)
    (case n_abs => k_is)
    (case ad__law_draw => k_is)
    (case ld__law_draw => k_is)
    (case cd__law_draw => k_is)
    (case kd__law_draw => k_is)
    (case ad__law_pick => k_is)
    (case ld__law_pick => k_is)
    (case cd__law_pick => k_is)
    (case kd__law_pick => k_is)
    (case ad__law_copied => k_is)
    (case ld__law_copied => k_is)
    (case cd__law_copied => k_is)
    (case kd__law_copied => k_is)
    (case aCNoText => k_is)
    (case xLNoText => k_is)
    (case hbNoText => exact (by decide +kernel))
    (case saNoText => k_is)
    (case gaNoText => k_is)
    (case ggNoText => k_is)
    (case nbNoText => k_is)
    (case aiNoText => k_is)
    (case tiNoText => k_is)
    (case liNoText => k_is)
    (case ciNoText => k_is)
    (case kiNoText => k_is)
    (case kCNoText => k_is)
    (case eCNoText => k_is)
    (case tCNoText => k_is)
    (case hCNoText => k_is)
    (case ad_check_text => k_is)
    (case ld_check_text => k_is)
    (case cd_check_text => k_is)
    (case kd_check_text => k_is)
    (case ad_rows_of_text => k_is)
    (case ld_rows_of_text => k_is)
    (case cd_rows_of_text => k_is)
    (case kd_rows_of_text => k_is)
    (case ad_run_end => k_is)
    (case ld_run_end => k_is)
    (case cd_run_end => k_is)
    (case kd_run_end => k_is)
    (case s_LETTERS => k_is)
    (case s_DIGITS => k_is)
    (case ad_row_tokens => k_is)
    (case ld_row_tokens => k_is)
    (case cd_row_tokens => k_is)
    (case kd_row_tokens => k_is)
    (case n_enumerate => k_is)
    (case aCUnread => k_is)
    (case xLUnread => k_is)
    (case hbUnread => exact (by decide +kernel))
    (case saUnread => k_is)
    (case gaUnread => k_is)
    (case ggUnread => k_is)
    (case nbUnread => k_is)
    (case aiUnread => k_is)
    (case tiUnread => k_is)
    (case liUnread => k_is)
    (case ciUnread => k_is)
    (case kiUnread => k_is)
    (case kCUnread => k_is)
    (case eCUnread => k_is)
    (case tCUnread => k_is)
    (case hCUnread => k_is)
    (case ad_tokens => k_is)
    (case ld_tokens => k_is)
    (case cd_tokens => k_is)
    (case kd_tokens => k_is)
    (case n_range => k_is)
    (case ad__law_drawn_row => k_is)
    (case ld__law_drawn_row => k_is)
    (case cd__law_drawn_row => k_is)
    (case kd__law_drawn_row => k_is)
    (case xmb => exact (by kernel_rfl))
    (case ad__law_met => k_is)
    (case ld__law_met => k_is)
    (case cd__law_met => k_is)
    (case kd__law_met => k_is)
    (case ad__law_spoilt => k_is)
    (case ld__law_spoilt => k_is)
    (case cd__law_spoilt => k_is)
    (case kd__law_spoilt => k_is)
    (case ad__law_run => k_is)
    (case ld__law_run => k_is)
    (case cd__law_run => k_is)
    (case kd__law_run => k_is)
    (case ad__law_row_tokens => k_is)
    (case ld__law_row_tokens => k_is)
    (case cd__law_row_tokens => k_is)
    (case kd__law_row_tokens => k_is)
    (case ad_law => k_is)
    (case ld_law => k_is)
    (case cd_law => k_is)
    (case kd_law => k_is)
    (case hT => exact PySem.W.km_tabs_of Y _ (List.Mem.head _))
    (case nT => exact (by kernel_rfl))
    (case hcd => exact (by kernel_rfl))

